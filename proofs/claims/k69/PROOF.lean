import PyProof.Rows.All
import Wide.All
import OpenK.AllK
import Wide.FinOn
import HandS.ForMost
import HandS.Walk
import HandS.StrMore
import HandS.Replace
import HandS.IsInst
import HandS.Style
import HandS.Steps
import HandS.Evl
import HandS.Wide
import HandS.Defaults
import HandS.SortKw
import HandS.Codes
import HandS.More
import HandS.TryOnly
import KE.DataCmp
import KE.GoesZip
import KE.GoesMore
import KE.GoesEnum
import KE.SortKeyHeap
import KE.KRevSl
import HandS.ForExc
import HandS.ExcIs
import HandS.TryMany
import HandS.ExcInit
import HandS.ExcField
import KE.KExcInit
import KE.KExcLine
import KE.KExcIs
import PyProof.ListStr
import PyProof.StrBlock2
import HandS.OwnEq
import OpenK.AllK
import HandS.Strs
import HandS.Set
import KE.SortData
import PyProof.CallType
import PyProof.Rows.Range3
import Wide.Seal
import PyProof.Rules
import PyProof.Tail
import PyProof.InstEq
import HandS.Flow
import HandS.WordsDict
import HandS.FStr
import KE.KCallOwn
import HandS.DeepEq
import PyProof.NeKinds
import HandS.Text
import HandS.Exc
import HandS.Ends
import PyProof.ReprRoads
import PyProof.CallFns
import PyProof.ReprBulk
import HandS.Dict
import HandS.SetKeys
import PyProof.CollectStr
import PyProof.Logic
import HandS.Replace
import HandS.ReplaceDef
import HandS.ReplaceList
import HandS.Dict
import HandS.Lambda
import KE.KTryMore
import PySem.Challenge.RW_undotrees_k69_logs_full
set_option Elab.async false
set_option linter.all false
set_option maxRecDepth 100000
set_option maxHeartbeats 4000000

namespace RowM
/-- the twelve signs, in their order -/
def sgns : List Nat := [97, 65, 98, 66, 99, 67, 100, 68, 101, 69, 102, 70]
def con (c : Nat) : Nat := if 97 ≤ c then c - 32 else c + 32
def ix (c : Nat) : Nat := sgns.idxOf c
def lo (c : Nat) : Nat := if 97 ≤ c then c else c + 32
def up (c : Nat) : Nat := if 97 ≤ c then c - 32 else c
abbrev Row (l : List Nat) : Prop := ∀ c ∈ l, c ∈ sgns
theorem con_mem {c : Nat} (h : c ∈ sgns) : con c ∈ sgns := by
  have : ∀ c ∈ sgns, con c ∈ sgns := by decide
  exact this c h
theorem con_con {c : Nat} (h : c ∈ sgns) : con (con c) = c := by
  have : ∀ c ∈ sgns, con (con c) = c := by decide
  exact this c h
theorem con_ne {c : Nat} (h : c ∈ sgns) : con c ≠ c := by
  have : ∀ c ∈ sgns, con c ≠ c := by decide
  exact this c h
theorem con_inj {a b : Nat} (ha : a ∈ sgns) (hb : b ∈ sgns) (h : con a = con b) : a = b := by
  rw [← con_con ha, h, con_con hb]
/-! ### stacks: the plain row, its last sign first -/
def push (st : List Nat) (c : Nat) : List Nat := match st with
  | [] => [c]
  | d :: r => if d = con c then r else c :: d :: r
theorem push_cons (d c : Nat) (r : List Nat) : push (d :: r) c = if d = con c then r else c :: d :: r := rfl
def act (w st : List Nat) : List Nat := w.foldl push st
def plain (w : List Nat) : List Nat := (act w []).reverse
def turn (w : List Nat) : List Nat := (w.reverse).map con
/-- no sign next to its contrary -/
def Red : List Nat → Prop
  | [] => True
  | [_] => True
  | a :: b :: r => b ≠ con a ∧ Red (b :: r)
theorem Red.tail {a : Nat} {r : List Nat} (h : Red (a :: r)) : Red r := by
  cases r with
  | nil => trivial
  | cons b r => exact h.2
theorem Row.tail {a : Nat} {r : List Nat} (h : Row (a :: r)) : Row r := fun c hc => h c (List.mem_cons_of_mem _ hc)
theorem Row.head {a : Nat} {r : List Nat} (h : Row (a :: r)) : a ∈ sgns := h a List.mem_cons_self
theorem push_row {st : List Nat} {c : Nat} (h : Row st) (hc : c ∈ sgns) : Row (push st c) := by
  cases st with
  | nil => intro d hd; simp [push] at hd; rw [hd]; exact hc
  | cons d r =>
    rw [push_cons]
    by_cases q : d = con c
    · rw [if_pos q]
      exact Row.tail h
    · rw [if_neg q]
      intro e he
      rcases List.mem_cons.mp he with rfl | he
      · exact hc
      · exact h e he
theorem push_red {st : List Nat} {c : Nat} (h : Red st) : Red (push st c) := by
  cases st with
  | nil => simp [push, Red]
  | cons d r =>
    rw [push_cons]
    by_cases q : d = con c
    · rw [if_pos q]
      exact h.tail
    · rw [if_neg q]
      exact ⟨q, h⟩
theorem push_push {st : List Nat} {c : Nat} (h : Red st) (hc : c ∈ sgns) : push (push st c) (con c) = st := by
  cases st with
  | nil => simp [push, con_con hc]
  | cons d r =>
    by_cases e : d = con c
    · simp only [push, if_pos e]
      cases r with
      | nil => simp [e]
      | cons b r =>
        have hb : b ≠ c := by
          intro q
          have := h.1
          rw [e, con_con hc] at this
          exact this q
        simp only [con_con hc, if_neg hb, e]
    · simp only [push, if_neg e, con_con hc, if_pos]
theorem push_push' {st : List Nat} {c : Nat} (h : Red st) (hc : c ∈ sgns) : push (push st (con c)) c = st := by
  have := push_push (c := con c) h (con_mem hc)
  rw [con_con hc] at this
  exact this
theorem act_append (u v st : List Nat) : act (u ++ v) st = act v (act u st) := by simp [act, List.foldl_append]
theorem act_cons (a : Nat) (w st : List Nat) : act (a :: w) st = act w (push st a) := rfl
theorem act_row : ∀ (w st : List Nat), Row w → Row st → Row (act w st)
  | [], _, _, h => h
  | a :: w, st, hw, h => act_row w (push st a) (Row.tail hw) (push_row h (Row.head hw))
theorem act_red : ∀ (w st : List Nat), Red st → Red (act w st)
  | [], _, h => h
  | a :: w, st, h => act_red w (push st a) (push_red h)
theorem turn_cons (a : Nat) (w : List Nat) : turn (a :: w) = turn w ++ [con a] := by simp [turn]
theorem turn_append (u v : List Nat) : turn (u ++ v) = turn v ++ turn u := by simp [turn]
theorem turn_row {w : List Nat} (h : Row w) : Row (turn w) := by
  intro c hc
  simp only [turn, List.mem_map, List.mem_reverse] at hc
  obtain ⟨d, hd, rfl⟩ := hc
  exact con_mem (h d hd)
theorem turn_turn {w : List Nat} (h : Row w) : turn (turn w) = w := by
  unfold turn
  rw [← List.map_reverse, List.reverse_reverse, List.map_map]
  conv => rhs; rw [← List.map_id w]
  exact List.map_congr_left fun c hc => con_con (h c hc)
theorem turn_length (w : List Nat) : (turn w).length = w.length := by simp [turn]
theorem act_turn : ∀ {w st : List Nat}, Row w → Red st → act (turn w) (act w st) = st
  | [], _, _, _ => rfl
  | a :: w, st, hw, h => by
    rw [turn_cons, act_append]
    have e : act (a :: w) st = act w (push st a) := rfl
    rw [e, act_turn (Row.tail hw) (push_red h)]
    exact push_push h (Row.head hw)
theorem act_turn' {w st : List Nat} (hw : Row w) (h : Red st) : act w (act (turn w) st) = st := by
  have := act_turn (turn_row hw) h
  rw [turn_turn hw] at this
  exact this
/-- an unplain pair goes -/
theorem act_pair {c : Nat} {u v st : List Nat} (hc : c ∈ sgns) (h : Red st) : act (u ++ c :: con c :: v) st = act (u ++ v) st := by
  rw [act_append, act_append]
  show act v (push (push (act u st) c) (con c)) = _
  rw [push_push (act_red _ _ h) hc]
theorem act_pair' {c : Nat} {u v st : List Nat} (hc : c ∈ sgns) (h : Red st) : act (u ++ con c :: c :: v) st = act (u ++ v) st := by
  have := act_pair (c := con c) (u := u) (v := v) (con_mem hc) h
  rw [con_con hc] at this
  exact this
theorem Red.snoc_iff : ∀ {l : List Nat} {a b : Nat}, Red (l ++ [a, b]) ↔ Red (l ++ [a]) ∧ b ≠ con a
  | [], a, b => by simp [Red]
  | [x], a, b => by simp [Red, and_assoc]
  | x :: y :: l, a, b => by
    have := Red.snoc_iff (l := y :: l) (a := a) (b := b)
    simp only [List.cons_append] at this ⊢
    simp only [Red]
    constructor
    · rintro ⟨h1, h2⟩
      exact ⟨⟨h1, (this.mp h2).1⟩, (this.mp h2).2⟩
    · rintro ⟨⟨h1, h2⟩, h3⟩
      exact ⟨h1, this.mpr ⟨h2, h3⟩⟩
/-- a plain row as a stack: the same read backwards -/
theorem red_reverse : ∀ {l : List Nat}, Row l → (Red l ↔ Red l.reverse)
  | [], _ => by simp [Red]
  | [a], _ => by simp [Red]
  | a :: b :: r, h => by
    have ih := red_reverse (l := b :: r) (Row.tail h)
    rw [List.reverse_cons, List.reverse_cons, List.append_assoc]
    show Red (a :: b :: r) ↔ Red (r.reverse ++ [b, a])
    rw [Red.snoc_iff]
    rw [List.reverse_cons] at ih
    rw [← ih]
    show (b ≠ con a ∧ Red (b :: r)) ↔ _
    constructor
    · rintro ⟨h1, h2⟩
      refine ⟨h2, fun e => h1 ?_⟩
      rw [e, con_con (Row.head (Row.tail h))]
    · rintro ⟨h1, h2⟩
      refine ⟨fun e => h2 ?_, h1⟩
      rw [e, con_con (Row.head h)]
theorem red_drop : ∀ {l m : List Nat}, Red (l ++ m) → Red m
  | [], _, h => h
  | _ :: l, m, h => red_drop (l := l) (Red.tail h)
theorem act_of_red : ∀ {p st : List Nat}, Red (p.reverse ++ st) → act p st = p.reverse ++ st
  | [], _, _ => by simp [act]
  | a :: p, st, h => by
    have e : (a :: p).reverse ++ st = p.reverse ++ (a :: st) := by simp
    rw [e] at h ⊢
    show act p (push st a) = _
    have hp : push st a = a :: st := by
      cases st with
      | nil => rfl
      | cons d r =>
        have hr : Red (a :: d :: r) := red_drop h
        rw [push_cons, if_neg hr.1]
    rw [hp]
    exact act_of_red h
theorem plain_row {w : List Nat} (h : Row w) : Row (plain w) := fun c hc => act_row _ _ h (fun _ q => (by cases q)) c (List.mem_reverse.mp hc)
theorem plain_red {w : List Nat} (h : Row w) : Red (plain w) := by
  unfold plain
  exact (red_reverse (act_row _ _ h fun _ q => (by cases q))).mp (act_red w _ (by trivial))
theorem plain_of_red {w : List Nat} (h : Row w) (r : Red w) : plain w = w := by
  unfold plain
  rw [act_of_red (by rw [List.append_nil]; exact (red_reverse h).mp r), List.append_nil, List.reverse_reverse]
theorem plain_plain {w : List Nat} (h : Row w) : plain (plain w) = plain w := plain_of_red (plain_row h) (plain_red h)
theorem plain_pair {c : Nat} {u v : List Nat} (hc : c ∈ sgns) : plain (u ++ c :: con c :: v) = plain (u ++ v) := by
  unfold plain
  rw [act_pair hc (by trivial)]
theorem push_plain {w : List Nat} {c : Nat} : act (w ++ [c]) [] = push (act w []) c := by rw [act_append]; rfl
/-- a row and it made plain act alike on plain stacks -/
theorem act_plain_aux : ∀ {w : List Nat}, Row w → ∀ {st : List Nat}, Red st → Row st → act (plain w) st = act w st := by
  intro w
  generalize hn : w.length = n
  induction n generalizing w with
  | zero =>
    intro h st _ _
    have : w = [] := List.eq_nil_of_length_eq_zero hn
    subst this
    rfl
  | succ n ih =>
    intro h st hr hs
    obtain ⟨u, c, rfl⟩ : ∃ u c, w = u ++ [c] := ⟨w.dropLast, w.getLast (by intro e; simp [e] at hn), (List.dropLast_concat_getLast _).symm⟩
    have hu : Row u := fun d hd => h d (List.mem_append_left _ hd)
    have hc : c ∈ sgns := h c (by simp)
    have hl : u.length = n := by simp at hn; exact hn
    have e := ih hl hu hr hs
    rw [act_append]
    show act (plain (u ++ [c])) st = push (act u st) c
    rw [← e]
    unfold plain
    rw [push_plain]
    cases hst : act u [] with
    | nil => simp [push, act]
    | cons d r =>
      by_cases q : d = con c
      · simp only [push, if_pos q]
        have e2 : (d :: r).reverse = r.reverse ++ [d] := by simp
        rw [e2, act_append]
        show _ = push (push (act r.reverse st) d) c
        rw [q, push_push' (act_red _ _ hr) hc]
      · simp only [push, if_neg q]
        have e2 : (c :: d :: r).reverse = (d :: r).reverse ++ [c] := by simp
        rw [e2, act_append]
        rfl
theorem act_plain {w st : List Nat} (h : Row w) (hr : Red st) (hs : Row st) : act (plain w) st = act w st := act_plain_aux h hr hs
theorem nil_row : Row [] := fun _ q => (by cases q)
theorem plain_turn {w : List Nat} (h : Row w) : plain (turn w) = turn (plain w) := by
  have hp := plain_row h
  have rp : Red (turn (plain w)) := by
    unfold turn
    have : ∀ l : List Nat, Row l → Red l → Red (l.map con) := by
      intro l
      induction l with
      | nil => intros; trivial
      | cons a l ih =>
        cases l with
        | nil => intros; trivial
        | cons b l =>
          intro hl hr
          refine ⟨fun e => hr.1 ?_, ih (Row.tail hl) hr.2⟩
          have := con_inj (Row.head (Row.tail hl)) (con_mem (Row.head hl)) e
          exact this
    exact this _ (fun c hc => hp c (List.mem_reverse.mp hc)) ((red_reverse hp).mp (plain_red h))
  have e : act (turn w) [] = act (turn (plain w)) [] := by
    have h1 : act w (act (turn w) []) = [] := act_turn' h (by trivial)
    have r1 : Red (act (turn w) []) := act_red _ _ (by trivial)
    have w1 : Row (act (turn w) []) := act_row _ _ (turn_row h) nil_row
    rw [← act_plain h r1 w1] at h1
    have h2 := act_turn (w := plain w) (st := act (turn w) []) hp r1
    rw [h1] at h2
    exact h2.symm
  have e2 : plain (turn w) = plain (turn (plain w)) := by unfold plain at *; rw [e]
  rw [e2, plain_of_red (turn_row hp) rp]
theorem plain_there_back {u : List Nat} (h : Row u) : plain (u ++ turn u) = [] := by
  unfold plain
  rw [act_append, act_turn h (by trivial)]
  rfl
theorem push_length (st : List Nat) (c : Nat) : (push st c).length ≤ st.length + 1 := by
  cases st with
  | nil => simp [push]
  | cons d r =>
    rw [push_cons]
    by_cases q : d = con c
    · rw [if_pos q]; simp; omega
    · rw [if_neg q]; simp
theorem act_length : ∀ (w st : List Nat), (act w st).length ≤ st.length + w.length
  | [], st => by simp [act]
  | a :: w, st => by
    have := act_length w (push st a)
    have h2 := push_length st a
    show (act w (push st a)).length ≤ _
    simp only [List.length_cons]
    omega
theorem plain_length (w : List Nat) : (plain w).length ≤ w.length := by
  unfold plain
  rw [List.length_reverse]
  simpa using act_length w []
/-! ### the order of rows -/
def lexI : List Nat → List Nat → Bool
  | a :: l, b :: m => if a = b then lexI l m else decide (a < b)
  | _, _ => false
def aheadL : List Nat → List Nat → Bool
  | a :: l, b :: m => if a = b then aheadL l m else if lo a ≠ lo b then decide (lo a < lo b) else decide (97 ≤ a)
  | _, _ => false
def before (l m : List Nat) : Bool := if l.length = m.length then lexI (l.map ix) (m.map ix) else decide (l.length < m.length)
theorem ix_inj {a b : Nat} (ha : a ∈ sgns) (hb : b ∈ sgns) : ix a = ix b ↔ a = b := by
  have : ∀ a ∈ sgns, ∀ b ∈ sgns, (ix a = ix b ↔ a = b) := by decide
  exact this a ha b hb
theorem ix_lt {a b : Nat} (ha : a ∈ sgns) (hb : b ∈ sgns) (h : a ≠ b) : decide (ix a < ix b) = (if lo a ≠ lo b then decide (lo a < lo b) else decide (97 ≤ a)) := by
  have : ∀ a ∈ sgns, ∀ b ∈ sgns, a ≠ b → decide (ix a < ix b) = (if lo a ≠ lo b then decide (lo a < lo b) else decide (97 ≤ a)) := by decide
  exact this a ha b hb h
theorem ahead_lex : ∀ {l m : List Nat}, Row l → Row m → aheadL l m = lexI (l.map ix) (m.map ix)
  | [], _, _, _ => by simp [aheadL, lexI]
  | a :: l, [], _, _ => by simp [aheadL, lexI]
  | a :: l, b :: m, hl, hm => by
    have ih := ahead_lex (Row.tail hl) (Row.tail hm)
    simp only [aheadL, List.map_cons, lexI, ix_inj (Row.head hl) (Row.head hm)]
    by_cases e : a = b
    · rw [if_pos e, if_pos e, ih]
    · rw [if_neg e, if_neg e, ix_lt (Row.head hl) (Row.head hm) e]
theorem lexI_trans : ∀ {l m n : List Nat}, l.length = m.length → m.length = n.length → lexI l m = true → lexI m n = true → lexI l n = true
  | [], _, _, _, _, h, _ => by simp [lexI] at h
  | a :: l, [], _, h, _, _, _ => by simp at h
  | a :: l, b :: m, [], _, h, _, _ => by simp at h
  | a :: l, b :: m, c :: n, h1, h2, h3, h4 => by
    simp only [lexI] at h3 h4 ⊢
    have e1 : l.length = m.length := by simpa using h1
    have e2 : m.length = n.length := by simpa using h2
    by_cases p : a = b
    · subst p
      rw [if_pos rfl] at h3
      by_cases q : a = c
      · subst q
        rw [if_pos rfl] at h4 ⊢
        exact lexI_trans e1 e2 h3 h4
      · rw [if_neg q] at h4 ⊢
        exact h4
    · rw [if_neg p] at h3
      have h3' := of_decide_eq_true h3
      by_cases q : b = c
      · subst q
        rw [if_neg p]
        exact h3
      · rw [if_neg q] at h4
        have h4' := of_decide_eq_true h4
        have : a ≠ c := by omega
        rw [if_neg this]
        exact decide_eq_true (by omega)
theorem before_trans {l m n : List Nat} (h1 : before l m = true) (h2 : before m n = true) : before l n = true := by
  unfold before at *
  by_cases e1 : l.length = m.length
  · rw [if_pos e1] at h1
    by_cases e2 : m.length = n.length
    · rw [if_pos e2] at h2
      rw [if_pos (e1.trans e2)]
      exact lexI_trans (by simpa using e1) (by simpa using e2) h1 h2
    · rw [if_neg e2] at h2
      have := of_decide_eq_true h2
      rw [if_neg (by omega)]
      exact decide_eq_true (by omega)
  · rw [if_neg e1] at h1
    have h1' := of_decide_eq_true h1
    by_cases e2 : m.length = n.length
    · rw [if_neg (by omega)]
      exact decide_eq_true (by omega)
    · rw [if_neg e2] at h2
      have := of_decide_eq_true h2
      rw [if_neg (by omega)]
      exact decide_eq_true (by omega)
end RowM

namespace WalkM
open RowM
/-! ### places: a plain row goes on by a sign -/
def on (p : List Nat) (c : Nat) : List Nat := if p.getLast? = some (con c) then p.dropLast else p ++ [c]
theorem on_push (st : List Nat) (c : Nat) : on st.reverse c = (push st c).reverse := by
  cases st with
  | nil => simp [on, push]
  | cons d r =>
    unfold on
    rw [push_cons, List.getLast?_reverse, List.head?_cons]
    by_cases q : d = con c
    · rw [if_pos q, if_pos (by rw [q])]
      simp
    · rw [if_neg q, if_neg (by intro h; injection h with h; exact q h)]
      simp
theorem plain_snoc (w : List Nat) (c : Nat) : plain (w ++ [c]) = on (plain w) c := by
  unfold plain
  rw [act_append, on_push]
  rfl
theorem plain_nil : plain [] = [] := rfl
theorem foldl_on : ∀ (w p : List Nat), w.foldl on p = (act w p.reverse).reverse
  | [], p => by simp [act]
  | c :: w, p => by
    rw [List.foldl_cons, foldl_on w (on p c)]
    have e : (on p c).reverse = push p.reverse c := by
      have := on_push p.reverse c
      rw [List.reverse_reverse] at this
      rw [this, List.reverse_reverse]
    rw [e]
    rfl
theorem plain_fold (w : List Nat) : w.foldl on [] = plain w := foldl_on w []
/-- a plain row -/
def PRow (p : List Nat) : Prop := Row p ∧ Red p
theorem prow_plain {w : List Nat} (h : Row w) : PRow (plain w) := ⟨plain_row h, plain_red h⟩
theorem prow_nil : PRow [] := ⟨nil_row, trivial⟩
theorem plain_prow {p : List Nat} (h : PRow p) : plain p = p := plain_of_red h.1 h.2
theorem prow_iff {p : List Nat} (h : Row p) : plain p = p ↔ PRow p := ⟨fun e => e ▸ prow_plain h, plain_prow⟩
theorem prow_on {p : List Nat} {c : Nat} (h : PRow p) (hc : c ∈ sgns) : PRow (on p c) := by
  have e : on p c = plain (p ++ [c]) := by rw [plain_snoc, plain_prow h]
  rw [e]
  refine prow_plain fun d hd => ?_
  rcases List.mem_append.mp hd with q | q
  · exact h.1 d q
  · rw [List.mem_singleton.mp q]; exact hc
theorem on_plain {p : List Nat} (c : Nat) (h : PRow p) : plain (p ++ [c]) = on p c := by rw [plain_snoc, plain_prow h]
theorem red_init : ∀ {l m : List Nat}, Red (l ++ m) → Red l
  | [], _, _ => trivial
  | [_], _, _ => trivial
  | a :: b :: l, m, h => ⟨h.1, red_init (l := b :: l) (m := m) h.2⟩
theorem prow_drop {p : List Nat} (h : PRow p) : PRow p.dropLast := by
  refine ⟨fun c hc => h.1 c (List.dropLast_subset p hc), ?_⟩
  by_cases e : p = []
  · subst e; trivial
  · have := List.dropLast_concat_getLast e
    exact red_init (m := [p.getLast e]) (by rw [this]; exact h.2)
theorem on_length (p : List Nat) (c : Nat) : (on p c).length ≤ p.length + 1 := by
  unfold on
  split <;> simp
  omega
/-! ### the places of a row, in the order in which they come -/
def addK (ks : List (List Nat)) (p : List Nat) : List (List Nat) := if p ∈ ks then ks else ks ++ [p]
theorem mem_addK {ks : List (List Nat)} {p q : List Nat} : q ∈ addK ks p ↔ q ∈ ks ∨ q = p := by
  unfold addK
  split
  · rename_i h
    exact ⟨.inl, fun z => z.elim id fun e => e ▸ h⟩
  · simp
theorem addK_nodup {ks : List (List Nat)} {p : List Nat} (h : ks.Nodup) : (addK ks p).Nodup := by
  unfold addK
  split
  · exact h
  · rename_i q
    refine List.nodup_append.mpr ⟨h, by simp, ?_⟩
    intro a ha b hb e
    rw [List.mem_singleton.mp hb] at e
    exact q (e ▸ ha)
theorem addK_length (ks : List (List Nat)) (p : List Nat) : (addK ks p).length ≤ ks.length + 1 := by
  unfold addK
  split <;> simp
def goSt (l : List Nat) : List Nat × List (List Nat) := l.foldl (fun st c => (on st.1 c, addK st.2 (on st.1 c))) ([], [[]])
def gone (l : List Nat) : List (List Nat) := (goSt l).2
theorem goSt_snoc (l : List Nat) (c : Nat) : goSt (l ++ [c]) = (on (goSt l).1 c, addK (goSt l).2 (on (goSt l).1 c)) := by
  unfold goSt
  rw [List.foldl_append]
  rfl
theorem snoc_ind {P : List Nat → Prop} (h0 : P []) (h1 : ∀ l c, P l → P (l ++ [c])) (l : List Nat) : P l := by
  have : ∀ m : List Nat, P m.reverse := by
    intro m
    induction m with
    | nil => exact h0
    | cons a m ih => rw [List.reverse_cons]; exact h1 _ _ ih
  have q := this l.reverse
  rwa [List.reverse_reverse] at q
theorem goSt_fst (l : List Nat) : (goSt l).1 = plain l := by
  refine snoc_ind (P := fun l => (goSt l).1 = plain l) rfl (fun l c ih => ?_) l
  rw [goSt_snoc, plain_snoc, ih]
theorem gone_snoc (l : List Nat) (c : Nat) : gone (l ++ [c]) = addK (gone l) (on (plain l) c) := by
  unfold gone
  rw [goSt_snoc, goSt_fst]
theorem gone_nil : gone [] = [[]] := rfl
/-- a tree: plain rows, each once, with each also the one without its last sign -/
structure Tree (ts : List (List Nat)) : Prop where
  nd : ts.Nodup
  pr : ∀ p ∈ ts, PRow p
  cl : ∀ p ∈ ts, p ≠ [] → p.dropLast ∈ ts
theorem end_gone (l : List Nat) : plain l ∈ gone l := by
  refine snoc_ind (P := fun l => plain l ∈ gone l) (by simp [gone_nil, plain_nil]) (fun l c _ => ?_) l
  rw [gone_snoc, plain_snoc]
  exact mem_addK.mpr (.inr rfl)
theorem on_mem {ts : List (List Nat)} {p : List Nat} {c : Nat} (t : Tree ts) (hp : p ∈ ts) (ne : on p c ≠ p ++ [c]) : on p c ∈ ts := by
  unfold on at ne ⊢
  split
  · rename_i q
    exact t.cl p hp fun e => by rw [e] at q; cases q
  · rename_i q
    rw [if_neg q] at ne
    exact absurd rfl ne
theorem on_drop {p : List Nat} {c : Nat} (e : on p c = p ++ [c]) : (on p c).dropLast = p := by rw [e]; simp
theorem tree_gone {l : List Nat} (h : Row l) : Tree (gone l) := by
  refine snoc_ind (P := fun l => Row l → Tree (gone l)) (fun _ => ⟨by simp [gone_nil], fun p hp => ?_, fun p hp ne => ?_⟩) (fun l c ih h => ?_) l h
  · rw [gone_nil] at hp; rw [List.mem_singleton.mp hp]; exact prow_nil
  · rw [gone_nil] at hp; exact absurd (List.mem_singleton.mp hp) ne
  · have hl : Row l := fun d hd => h d (List.mem_append_left _ hd)
    have hc : c ∈ sgns := h c (by simp)
    have t := ih hl
    rw [gone_snoc]
    refine ⟨addK_nodup t.nd, fun p hp => ?_, fun p hp ne => ?_⟩
    · rcases mem_addK.mp hp with q | q
      · exact t.pr p q
      · rw [q]; exact prow_on (prow_plain hl) hc
    · rcases mem_addK.mp hp with q | q
      · exact mem_addK.mpr (.inl (t.cl p q ne))
      · by_cases e : on (plain l) c = plain l ++ [c]
        · rw [q, on_drop e]
          exact mem_addK.mpr (.inl (end_gone l))
        · have := on_mem t (end_gone l) e
          rw [q] at ne ⊢
          exact mem_addK.mpr (.inl (t.cl _ this ne))
theorem gone_length (l : List Nat) : (gone l).length ≤ l.length + 1 := by
  refine snoc_ind (P := fun l => (gone l).length ≤ l.length + 1) (by simp [gone_nil]) (fun l c ih => ?_) l
  rw [gone_snoc, List.length_append]
  have := addK_length (gone l) (on (plain l) c)
  simp only [List.length_singleton]
  omega
theorem gone_pos (l : List Nat) : 1 ≤ (gone l).length := by
  have := List.length_pos_of_mem (end_gone l)
  omega
theorem gone_small (l : List Nat) : ∀ p ∈ gone l, p.length ≤ l.length := by
  refine snoc_ind (P := fun l => ∀ p ∈ gone l, p.length ≤ l.length) (fun p hp => ?_) (fun l c ih p hp => ?_) l
  · rw [gone_nil] at hp; rw [List.mem_singleton.mp hp]; simp
  · rw [gone_snoc] at hp
    rw [List.length_append, List.length_singleton]
    rcases mem_addK.mp hp with q | q
    · have := ih p q; omega
    · have h1 := on_length (plain l) c
      have h2 := plain_length l
      rw [q]; omega
theorem nil_gone (l : List Nat) : [] ∈ gone l := by
  refine snoc_ind (P := fun l => [] ∈ gone l) (by simp [gone_nil]) (fun l c ih => ?_) l
  rw [gone_snoc]
  exact mem_addK.mpr (.inl ih)
/-! ### the order of rows -/
def leR (a b : List Nat) : Bool := !before b a
theorem lexI_asymm : ∀ {l m : List Nat}, lexI l m = true → lexI m l = false
  | [], _, h => by simp [lexI] at h
  | _ :: _, [], h => by simp [lexI] at h
  | a :: l, b :: m, h => by
    simp only [lexI] at h ⊢
    by_cases e : a = b
    · subst e
      rw [if_pos rfl] at h ⊢
      exact lexI_asymm h
    · rw [if_neg e] at h
      have := of_decide_eq_true h
      rw [if_neg (fun z => e z.symm)]
      exact decide_eq_false (by omega)
theorem lexI_eq : ∀ {l m : List Nat}, l.length = m.length → lexI l m = false → lexI m l = false → l = m
  | [], [], _, _, _ => rfl
  | [], _ :: _, h, _, _ => by simp at h
  | _ :: _, [], h, _, _ => by simp at h
  | a :: l, b :: m, h, h1, h2 => by
    simp only [lexI] at h1 h2
    by_cases e : a = b
    · subst e
      rw [if_pos rfl] at h1 h2
      rw [lexI_eq (by simpa using h) h1 h2]
    · rw [if_neg e] at h1
      rw [if_neg (fun z => e z.symm)] at h2
      have := of_decide_eq_false h1
      have := of_decide_eq_false h2
      omega
theorem before_asymm {l m : List Nat} (h : before l m = true) : before m l = false := by
  unfold before at *
  by_cases e : l.length = m.length
  · rw [if_pos e] at h
    rw [if_pos e.symm]
    exact lexI_asymm h
  · rw [if_neg e] at h
    rw [if_neg (fun z => e z.symm)]
    have := of_decide_eq_true h
    exact decide_eq_false (by omega)
theorem map_ix_inj : ∀ {l m : List Nat}, Row l → Row m → l.map ix = m.map ix → l = m
  | [], [], _, _, _ => rfl
  | [], _ :: _, _, _, h => by simp at h
  | _ :: _, [], _, _, h => by simp at h
  | a :: l, b :: m, h1, h2, h => by
    simp only [List.map_cons, List.cons.injEq] at h
    rw [(ix_inj (Row.head h1) (Row.head h2)).mp h.1, map_ix_inj (Row.tail h1) (Row.tail h2) h.2]
theorem before_eq {l m : List Nat} (hl : Row l) (hm : Row m) (h1 : before l m = false) (h2 : before m l = false) : l = m := by
  unfold before at *
  by_cases e : l.length = m.length
  · rw [if_pos e] at h1
    rw [if_pos e.symm] at h2
    exact map_ix_inj hl hm (lexI_eq (by simp [e]) h1 h2)
  · rw [if_neg e] at h1
    rw [if_neg (fun z => e z.symm)] at h2
    have := of_decide_eq_false h1
    have := of_decide_eq_false h2
    omega
theorem lexI_cotrans : ∀ {l m n : List Nat}, l.length = m.length → m.length = n.length → lexI l n = true → lexI l m = true ∨ lexI m n = true
  | [], _, _, _, _, h => by simp [lexI] at h
  | a :: l, [], _, h, _, _ => by simp at h
  | a :: l, b :: m, [], _, h, _ => by simp at h
  | a :: l, b :: m, c :: n, h1, h2, h => by
    simp only [lexI] at h ⊢
    by_cases e1 : a = b
    · subst e1
      by_cases e2 : a = c
      · subst e2
        rw [if_pos rfl] at h ⊢
        rw [if_pos rfl]
        exact lexI_cotrans (by simpa using h1) (by simpa using h2) h
      · rw [if_neg e2] at h ⊢
        exact .inr h
    · by_cases e2 : b = c
      · subst e2
        rw [if_neg e1] at h ⊢
        exact .inl h
      · by_cases e3 : a = c
        · subst e3
          rw [if_neg e1, if_neg e2]
          by_cases q : a < b
          · exact .inl (decide_eq_true q)
          · exact .inr (decide_eq_true (by omega))
        · rw [if_neg e3] at h
          rw [if_neg e1, if_neg e2]
          have := of_decide_eq_true h
          by_cases q : a < b
          · exact .inl (decide_eq_true q)
          · exact .inr (decide_eq_true (by omega))
theorem before_cotrans {l m n : List Nat} (h : before l n = true) : before l m = true ∨ before m n = true := by
  unfold before at *
  by_cases e1 : l.length = m.length
  · by_cases e2 : m.length = n.length
    · rw [if_pos (e1.trans e2)] at h
      rw [if_pos e1, if_pos e2]
      exact lexI_cotrans (by simp [e1]) (by simp [e2]) h
    · rw [if_neg (by omega)] at h
      have := of_decide_eq_true h
      rw [if_neg e2]
      exact .inr (decide_eq_true (by omega))
  · rw [if_neg e1]
    by_cases q : l.length < m.length
    · exact .inl (decide_eq_true q)
    · refine .inr ?_
      by_cases e2 : m.length = n.length
      · rw [if_neg (by omega)] at h
        have := of_decide_eq_true h
        omega
      · rw [if_neg e2]
        by_cases e3 : l.length = n.length
        · exact decide_eq_true (by omega)
        · rw [if_neg e3] at h
          have := of_decide_eq_true h
          exact decide_eq_true (by omega)
theorem leR_trans (a b c : List Nat) (h1 : leR a b = true) (h2 : leR b c = true) : leR a c = true := by
  unfold leR at *
  simp only [Bool.not_eq_true'] at *
  cases h : before c a with
  | false => rfl
  | true =>
    rcases before_cotrans (m := b) h with q | q
    · rw [q] at h2; cases h2
    · rw [q] at h1; cases h1
theorem leR_total (a b : List Nat) : (leR a b || leR b a) = true := by
  unfold leR
  cases h : before b a with
  | false => rfl
  | true => rw [before_asymm h]; rfl
def srt (ts : List (List Nat)) : List (List Nat) := ts.mergeSort leR
theorem srt_perm (ts : List (List Nat)) : (srt ts).Perm ts := List.mergeSort_perm _ _
theorem srt_mem {ts : List (List Nat)} {p : List Nat} : p ∈ srt ts ↔ p ∈ ts := (srt_perm ts).mem_iff
theorem srt_length (ts : List (List Nat)) : (srt ts).length = ts.length := (srt_perm ts).length_eq
theorem srt_pairwise (ts : List (List Nat)) : (srt ts).Pairwise (fun a b => leR a b = true) := List.pairwise_mergeSort (by exact leR_trans) (by exact leR_total) ts
theorem srt_nodup {ts : List (List Nat)} (h : ts.Nodup) : (srt ts).Nodup := (srt_perm ts).nodup_iff.mpr h
theorem srt_tree {ts : List (List Nat)} (t : Tree ts) : Tree (srt ts) := ⟨srt_nodup t.nd, fun p hp => t.pr p (srt_mem.mp hp), fun p hp ne => srt_mem.mpr (t.cl p (srt_mem.mp hp) ne)⟩
/-- one set of rows has one order -/
theorem srt_uniq {ts us : List (List Nat)} (h : ts.Perm us) (hr : ∀ p ∈ ts, Row p) : srt ts = srt us := by
  refine List.Perm.eq_of_pairwise (le := fun a b => leR a b = true) (fun a b ha hb h1 h2 => ?_) (srt_pairwise ts) (srt_pairwise us) ((srt_perm ts).trans (h.trans (srt_perm us).symm))
  have ra := hr a (srt_mem.mp ha)
  have rb := hr b (h.symm.mem_iff.mp (srt_mem.mp hb))
  unfold leR at h1 h2
  simp only [Bool.not_eq_true'] at h1 h2
  exact before_eq ra rb h2 h1
end WalkM

namespace L2
open PySem PySem.Spec PyProof.Rows
/-! ### rules beside the layer's own -/
section
variable {X : Cx}
/-- a constant of the module -/
theorem pe_globC {x : Str} {v : V} {pos : Pos} (h : ∃ u, X.mg x = some u ∧ RelV v u) (hg : Gl X x := by rfl) (hd : (x == ("__debug__" : Str)) = false := by decide) : PE X (.Name x pos) (tC v) := by
  obtain ⟨u, hm, r⟩ := h
  exact pe_glob hg hm r hd
/-- data that are alike: < -/
def rLtD (K : PySem.W.Frag) : R2 := fun x y H Q => ∃ d e, Dp K H x d ∧ Dp K H y e ∧ PySem.W.alike d e = true ∧ d ≠ .none ∧ min d.depth e.depth ≤ 60 ∧ Q (.bl (PySem.W.dataLt d e)) H
theorem op_ltD (hu : X.A.units + 64 < cLine) : OpR X (compareOp .Lt) (rLtD X.K) := by
  intro pins s σ H x y v u Q I rx ry h
  obtain ⟨d, e, hd, he, al, hn, hz, q⟩ := h
  obtain ⟨as, r1⟩ := Dp.reads I d x v hd rx
  obtain ⟨bs, r2⟩ := Dp.reads I e y u he ry
  exact PySem.W.lt_data r1 r2 al hn (by omega) ⟨.bl _, H, I, rfl, q⟩
/-- text[::-1] -/
def tRevS (te : TE) : TE := fun σ H Q => te σ H fun x H1 => ∃ z : Str, x = .str z ∧ z.length ≤ sizeLine ∧ Q (.str ⟨z.cps.toList.reverse.toArray⟩) H1
theorem pick_rev (z : Str) : ((Builtin.Str.strSliceIndices none none (-1) z.length).filterMap (z.cps[·]?)).toArray = z.cps.toList.reverse.toArray := by
  rw [PyProof.Rows.picked_rev]
  congr 1
  rw [PyProof.Rows.filterMap_get _ _ (fun i hi => by
    simp only [List.mem_map, List.mem_range] at hi
    obtain ⟨k, hk, rfl⟩ := hi
    have : z.length = z.cps.size := rfl
    omega)]
  apply List.ext_getElem
  · simp [Str.length]
  · intro i h1 h2
    simp only [List.length_map, List.length_range, Str.length] at h1
    simp only [List.map_map, List.getElem_map, List.getElem_range, List.getElem_reverse, Function.comp, Str.length, Array.length_toList]
    rw [Array.getD_eq_getD_getElem?]
    rw [Array.getElem?_eq_getElem (by omega)]
    simp
theorem pe_revS {e : Expr} {te : TE} {k : Nat} {p1 p2 p3 pos : Pos} (he : PE X e te) : PE X (.Subscript e (.Slice none none (some (.UnaryOp .USub (.Constant (.int 1) k p1) p2)) p3) pos) (tRevS te) := by
  refine ⟨fun pins s σ H Q I h => ?_⟩
  refine Subscript_ (thn (he.run pins s σ H _ I h) fun v s1 ⟨x, H1, I1, r1, q1⟩ => ?_)
  obtain ⟨z, ex, hz, q⟩ := q1
  subst ex
  obtain ⟨t, rfl⟩ := r1
  have hst : PO X (some (.UnaryOp .USub (.Constant (.int 1) k p1) p2)) (tPart (tUn (rU fun i => .int (-i)) (tC (.int 1)))) := po_some (pe_un un_neg pe_int)
  refine wpAny_Slice (thn (po_none.run pins s1 σ H1 (fun o H2 => o = none ∧ H2 = H1) I1 ⟨rfl, rfl⟩) fun vl s2 ⟨l, H2, I2, pl, el, e2⟩ => ?_)
  subst el e2
  refine thn (po_none.run pins s2 σ H2 (fun o H3 => o = none ∧ H3 = H2) I2 ⟨rfl, rfl⟩) fun vu s3 ⟨u, H3, I3, pu, eu, e3⟩ => ?_
  subst eu e3
  refine thn (hst.run pins s3 σ H3 (fun o H4 => o = some (-1) ∧ H4 = H3) I3 ⟨1, rfl, -1, rfl, rfl, rfl⟩) fun vs s4 ⟨o, H4, I4, ps, eo, e4⟩ => ?_
  subst eo e4
  obtain ⟨l1, rfl, hl1⟩ := IsPart.raw pl
  obtain ⟨u1, rfl, hu1⟩ := IsPart.raw pu
  obtain ⟨w1, rfl, hw1⟩ := IsPart.raw ps
  have I5 : Inv X pins σ H4 { s4 with heap := s4.heap.push { cls := .type "slice", data := .fields #[partValue l1, partValue u1, partValue w1] } } := I4.kept (t' := s4.toks) fun b ob q => Heap.get?_push_of_some _ q
  show wpAny (model X.prog X.w) X.A (subscriptTail e (.Slice none none (some (.UnaryOp .USub (.Constant (.int 1) k p1) p2)) p3) (.str z t) (.ref s4.heap.objs.size)) (EP X pins σ Q) X.xe { s4 with heap := s4.heap.push { cls := .type "slice", data := .fields #[partValue l1, partValue u1, partValue w1] } }
  refine tail_any (ops := [.str z t, .ref s4.heap.objs.size]) (typeIs_str _ _ _) F.slot_str_getitem.lookup ?_ (by with_unfolding_all rfl)
  refine wpAny_getItem_str_slice (l := l1) (u := u1) (st := w1) ⟨_, Heap.get?_push_size _ rfl, rfl, rfl⟩ (by rw [hw1]; rfl) ?_
  have hl : (⟨z.cps.toList.reverse.toArray⟩ : Str).length ≤ sizeLine := by
    show z.cps.toList.reverse.toArray.size ≤ sizeLine
    simpa [Str.length] using hz
  show Made.post (if ((w1.map (·.1)).getD 1 == 1 && (Builtin.Str.strSliceIndices (l1.map (·.1)) (u1.map (·.1)) ((w1.map (·.1)).getD 1) z.length).length == z.length) = true then Made.val (.str z t)
    else Made.str ⟨((Builtin.Str.strSliceIndices (l1.map (·.1)) (u1.map (·.1)) ((w1.map (·.1)).getD 1) z.length).filterMap (z.cps[·]?)).toArray⟩) (EP X pins σ Q) _
  rw [hl1, hu1, hw1]
  show Made.post (if ((-1 : Int) == 1 && (Builtin.Str.strSliceIndices none none (-1) z.length).length == z.length) = true then Made.val (.str z t)
    else Made.str ⟨((Builtin.Str.strSliceIndices none none (-1) z.length).filterMap (z.cps[·]?)).toArray⟩) (EP X pins σ Q) _
  rw [if_neg (by simp), pick_rev]
  exact ⟨hl, .str _, H4, I5.tok _, ⟨_, rfl⟩, q⟩
end
end L2

namespace L2
open PySem PySem.Spec PyProof.Rows
/-! ### zip of two texts -/
def Itzs (x y : Str) : It :=
  ⟨fun i _ => i < x.cps.size ∧ i < y.cps.size,
    fun i H v H' => ∃ T c d, v = .ref T ∧ H T = none ∧ H' = upd H T (.tup [.str ⟨#[c]⟩, .str ⟨#[d]⟩]) ∧ x.cps[i]? = some c ∧ y.cps[i]? = some d,
    fun i _ => (i ≤ x.cps.size ∧ i ≤ y.cps.size) ∧ (i = x.cps.size ∨ i = y.cps.size)⟩
theorem turn_zipS {P : Program} {w : World} {K : PySem.W.Frag} {elts : List Expr} {kk : Nat} {tpos : Pos} {z TI TO i1 i2 : Addr} (S : ZipSep2 z TI TO i1 i2 [i1] [i2]) (x y : Str) (t u : Tok) :
    Turn P w K (.Tuple elts kk tpos) (Itzs x y) [z, TI, TO, i1, i2] z
      (fun i h => IsZip h z TI TO .none ∧ IsTupOf2 h TI (.ref i1) (.ref i2) ∧ (∃ a b, IsTupOf2 h TO a b) ∧ h.IsStrIter i1 (strIterType x) x t i ∧ h.IsStrIter i2 (strIterType y) y u i) where
  mem := by simp
  obj := fun i h st c hc => by
    obtain ⟨hz, hTI, ⟨a, b, hTO⟩, ⟨o1, e1, _, d1⟩, ⟨o2, e2, _, d2⟩⟩ := st
    have e' : c = z ∨ c = TI ∨ c = TO ∨ c = i1 ∨ c = i2 := by simpa using hc
    rcases e' with q | q | q | q | q
    · rw [q]; exact ⟨_, hz, fun v q => nomatch q⟩
    · rw [q]; exact ⟨_, hTI, fun v q => nomatch q⟩
    · rw [q]; exact ⟨_, hTO, fun v q => nomatch q⟩
    · rw [q]; exact ⟨o1, e1, fun v q => by rw [d1] at q; cases q⟩
    · rw [q]; exact ⟨o2, e2, fun v q => by rw [d2] at q; cases q⟩
  keep := fun i h h' st k => by
    obtain ⟨hz, hTI, ⟨a, b, hTO⟩, ⟨o1, e1, r1⟩, ⟨o2, e2, r2⟩⟩ := st
    exact ⟨k z (by simp) _ hz, k TI (by simp) _ hTI, ⟨a, b, k TO (by simp) _ hTO⟩, ⟨o1, k i1 (by simp) _ e1, r1⟩, ⟨o2, k i2 (by simp) _ e2, r2⟩⟩
  item := by
    intro X hP hw hK hc i pins s σ H E I hf st hg
    subst hP hw hK
    obtain ⟨hz, hTI, ⟨a0, b0, hTO⟩, h1, h2⟩ := st
    obtain ⟨g1, g2⟩ := hg
    have hh : X.A.in1.handled = none := I.ok.hd hc
    have hzl : z < s.heap.objs.size := Heap.lt_size hz
    refine wpAny_pyNext_zipD2_item S (Draws.text hh i1 x t) (Draws.text hh i2 y u) hz hTI hTO h1 h2 g1 g2 fun x1 x2 h' tk p1 p2 h1' TO' s1 s2 hT hsz hk => ?_
    obtain ⟨c, tc, hc1, rfl⟩ := p1
    obtain ⟨d, td, hd1, rfl⟩ := p2
    refine ⟨_, rfl, wpAny_letOwnedTupleGo_zip (s := { s with heap := h', toks := tk }) h1' fun h'' z'' sb => ?_⟩
    have hT2 : h''.get? s.heap.objs.size = some { cls := .type "tuple", data := .seq #[Value.str ⟨#[c]⟩ tc, Value.str ⟨#[d]⟩ td] } := (sb.2 _ (Nat.ne_of_gt hzl)).trans hT
    have new : ObjOk X.prog X.w (upd H s.heap.objs.size (.tup [.str ⟨#[c]⟩, .str ⟨#[d]⟩])) h'' s.heap.objs.size (.tup [.str ⟨#[c]⟩, .str ⟨#[d]⟩]) :=
      ⟨by show 2 ≤ sizeLine; decide, [Value.str ⟨#[c]⟩ tc, Value.str ⟨#[d]⟩ td], .cons ⟨tc, rfl⟩ (.cons ⟨td, rfl⟩ .nil), ⟨_, hT2, rfl, _, rfl⟩⟩
    have I1 : Inv X pins σ (upd H s.heap.objs.size (.tup [.str ⟨#[c]⟩, .str ⟨#[d]⟩])) { s with heap := h'', toks := tk } :=
      I.turnedNew (t' := tk) (ch := [z, TI, TO, i1, i2]) (fun c o hb q => (sb.2 c (fun q' => hb (by simp [q']))).trans (hk c o (fun q' => hb (by simp [q'])) (fun q' => hb (by simp [q'])) (fun q' => hb (by simp [q'])) (fun q' => hb (by simp [q'])) q)) hf (Nat.le_refl _) new
    have st1 : h''.IsStrIter i1 (strIterType x) x t (i + 1) := by
      obtain ⟨o, e, r⟩ := s1
      exact ⟨o, (sb.2 _ (fun q => S.zf1 (by rw [← q]; simp))).trans e, r⟩
    have st2 : h''.IsStrIter i2 (strIterType y) y u (i + 1) := by
      obtain ⟨o, e, r⟩ := s2
      exact ⟨o, (sb.2 _ (fun q => S.zf2 (by rw [← q]; simp))).trans e, r⟩
    refine ⟨.ref s.heap.objs.size, _, I1, rfl, ⟨_, c, d, rfl, I.hok.fresh (Nat.le_refl _), rfl, hc1, hd1⟩, ⟨z'', ?_, ⟨.str ⟨#[c]⟩ tc, .str ⟨#[d]⟩ td, ?_⟩, st1, st2⟩, fun b hbm => ?_⟩
    · exact (sb.2 _ S.TIz).trans (hk _ _ S.TIz S.TITO S.TIi1 S.TIi2 hTI)
    · exact (sb.2 _ S.TOz).trans TO'
    · have hlt : b < s.heap.objs.size := by
        have e' : b = z ∨ b = TI ∨ b = TO ∨ b = i1 ∨ b = i2 := by simpa using hbm
        rcases e' with q | q | q | q | q
        · rw [q]; exact hzl
        · rw [q]; exact Heap.lt_size hTI
        · rw [q]; exact Heap.lt_size hTO
        · rw [q]; obtain ⟨_, e1, _⟩ := h1; exact Heap.lt_size e1
        · rw [q]; obtain ⟨_, e2, _⟩ := h2; exact Heap.lt_size e2
      rw [upd_ne (Nat.ne_of_lt hlt)]
      exact (hf b hbm).1
  done := by
    intro X hP hw hK hc i pins s σ H E I hf st hg
    subst hP hw hK
    obtain ⟨hz, hTI, ⟨a0, b0, hTO⟩, h1, h2⟩ := st
    obtain ⟨⟨g1, g2⟩, g3⟩ := hg
    have hh : X.A.in1.handled = none := I.ok.hd hc
    exact wpAny_pyNext_zipD2_end S (Draws.text hh i1 x t) (Draws.text hh i2 y u) hz hTI hTO h1 h2 g1 g2 g3 fun h' tk hk => ⟨rfl, I.turnedL (t' := tk) (ch := [z, TI, TO, i1, i2]) (fun c o hb q =>
      hk c o (fun q' => hb (by simp [q'])) (fun q' => hb (by simp [q'])) (fun q' => hb (by simp [q'])) (fun q' => hb (by simp [q'])) q) hf⟩
  self := fun A i s Q E st h => wpAny_pyIter_zip st.1 h
def iZipS (ta : TA) : TI := fun σ H R => ta σ H fun vs H1 => ∃ x y, vs = [.str x, .str y] ∧ R (Itzs x y) H1
theorem pi_zipS {X : Cx} {e e2 : Expr} {ta : TA} {p pos tpos : Pos} {elts : List Expr} {kk : Nat} (hg : Gl X "zip") (hm : X.mg "zip" = none) (ha : PA X [e, e2] ta)
    (hs : starEach [e, e2] X.env = (false, eval e X.env) :: starEach [e2] X.env := by rfl) (hpl : (backTo pos (starEach [e2] X.env)).any (·.1) = false := by rfl) :
    PI X (.Tuple elts kk tpos) (.Call (.Name "zip" p) [e, e2] [] pos) (iZipS ta) := by
  refine ⟨fun pins s σ H R I h => ?_⟩
  refine Call_ (ld_blt I hg hm PyProof.Rows.boot_zip (PyProof.Rows.callWith_type1 (thn (ha.run pos pins s σ H _ I h) fun us s1 ⟨vs, H1, I1, r1, q1⟩ => ?_) hs hpl))
  obtain ⟨x, y, ex, q⟩ := q1
  subst ex
  cases r1 with
  | cons r rr =>
    cases rr with
    | cons r' rr =>
      cases rr
      obtain ⟨t, rfl⟩ := r
      obtain ⟨u, rfl⟩ := r'
      refine zip_begins2 (begins_text x t) (begins_text y u) trivial trivial fun h' hz hTI hTO h1 h2 hsz hk => wpAny_pyIter_zip hz ?_
      have I2 : Inv X pins σ H1 { s1 with heap := h' } := I1.kept (t' := s1.toks) hk
      have S : ZipSep2 (s1.heap.objs.size + 4) (s1.heap.objs.size + 2) (s1.heap.objs.size + 3) s1.heap.objs.size (s1.heap.objs.size + 1) [s1.heap.objs.size] [s1.heap.objs.size + 1] :=
        zip_sep2 (fp1 := []) (fp2 := []) (fun b hb => by cases hb) (fun b hb => by cases hb)
      refine ⟨s1.heap.objs.size + 4, [s1.heap.objs.size + 4, s1.heap.objs.size + 2, s1.heap.objs.size + 3, s1.heap.objs.size, s1.heap.objs.size + 1], _, _, H1, rfl, I2, turn_zipS S x y t u, ⟨hz, hTI, ⟨_, _, hTO⟩, ⟨_, h1, rfl, rfl⟩, ⟨_, h2, rfl, rfl⟩⟩, fun c hcm => ?_, q⟩
      have e' : c = s1.heap.objs.size + 4 ∨ c = s1.heap.objs.size + 2 ∨ c = s1.heap.objs.size + 3 ∨ c = s1.heap.objs.size ∨ c = s1.heap.objs.size + 1 := by simpa using hcm
      have hle : s1.heap.objs.size ≤ c := by
        rcases e' with z | z | z | z | z
        · rw [z]; exact Nat.le_add_right _ _
        · rw [z]; exact Nat.le_add_right _ _
        · rw [z]; exact Nat.le_add_right _ _
        · rw [z]; exact Nat.le_refl _
        · rw [z]; exact Nat.le_add_right _ _
      exact I1.fpOk hle (I1.hok.fresh hle)
theorem walk_zipS {x y : Str} {n : Nat} (hn : n = min x.cps.size y.cps.size) : Walk (Itzs x y) n (fun _ => True) (fun i H v H' => ∃ T c d, v = .ref T ∧ H T = none ∧ H' = upd H T (.tup [.str ⟨#[c]⟩, .str ⟨#[d]⟩]) ∧ x.cps[i]? = some c ∧ y.cps[i]? = some d) := by
  subst hn
  exact ⟨fun _ _ hi _ => ⟨by omega, by omega⟩, fun _ _ => ⟨⟨by omega, by omega⟩, by omega⟩, fun _ _ _ _ _ _ y => y⟩
end L2

namespace L2
open PySem PySem.Spec PyProof.Rows
/-! ### rules whose readings name the written part, over any context that has it (a comprehension's block too) -/
section
variable {X : Cx} {K : PySem.W.Frag}
theorem ix_listK (h : X.K = K := by rfl) : IxR X (rIxL K) := h ▸ ix_list
theorem ix_tupK (h : X.K = K := by rfl) : IxR X (rIxT K) := h ▸ ix_tup
theorem sl_listK (h : X.K = K := by rfl) : SlR X (rSlL K) := h ▸ sl_list
theorem sl_tupK (h : X.K = K := by rfl) : SlR X (rSlT K) := h ▸ sl_tup
theorem op_inK (h : X.K = K := by rfl) : OpR X (compareOp .In) (rIn K false) := h ▸ op_in_seq
theorem op_notInK (h : X.K = K := by rfl) : OpR X (compareOp .NotIn) (rIn K true) := h ▸ op_notIn_seq
theorem op_eqDK (hu : X.A.units + 64 < cLine) (h : X.K = K := by rfl) : OpR X (compareOp .Eq) (rEqD K) := h ▸ op_eqD hu
theorem op_neDK (hu : X.A.units + 64 < cLine) (h : X.K = K := by rfl) : OpR X (compareOp .NotEq) (rNeD K) := h ▸ op_neD hu
theorem op_ltDK (hu : X.A.units + 64 < cLine) (h : X.K = K := by rfl) : OpR X (compareOp .Lt) (rLtD K) := h ▸ op_ltD hu
/-- len of a list or tuple -/
def rLenK (K : PySem.W.Frag) : List V → Hp → VK → Prop := fun xs H Q => ∃ p ys, xs = [.ref p] ∧ (SqL K H p ys ∨ SqT K H p ys) ∧ Q (.int ys.length) H
theorem call_lenK (h : X.K = K := by rfl) : CallR X (.builtin "len") (rLenK K) := h ▸ call_len_seq
def rListK (K : PySem.W.Frag) : List V → Hp → VK → Prop := fun xs H Q => ∃ p ys, xs = [.ref p] ∧ (SqL K H p ys ∨ SqT K H p ys) ∧ ∀ l, H l = none → Q (.ref l) (upd H l (.lst ys))
theorem call_listK (h : X.K = K := by rfl) : CallR X (.type "list") (rListK K) := h ▸ call_list_of
theorem cr_allK (hc : X.calm = true) (h : X.K = K := by rfl) : CallR X (.builtin "all") (rAll K) := h ▸ cr_all hc
theorem cr_anyK (hc : X.calm = true) (h : X.K = K := by rfl) : CallR X (.builtin "any") (rAny K) := h ▸ cr_any hc
theorem cr_sumK (hc : X.calm = true) (h : X.K = K := by rfl) : CallR X (.builtin "sum") (rSum K) := h ▸ cr_sum hc
theorem call_isiK1 (h : X.K = K := by rfl) : CallR X (.builtin "isinstance") (rIsi K) := h ▸ call_isi
theorem call_isiTK (h : X.K = K := by rfl) : CallR X (.builtin "isinstance") (rIsiT K) := h ▸ call_isiT
/-- sep.join(texts) -/
def rJoinK (K : PySem.W.Frag) : V → List V → Hp → VK → Prop := fun x xs H Q => ∃ a p, ∃ ys : List Str, x = .str a ∧ xs = [.ref p] ∧ (SqL K H p (ys.map V.str) ∨ SqT K H p (ys.map V.str)) ∧ (ys.map (·.length)).sum + ys.length * a.length ≤ 16777216 ∧ Q (.str (Txt.join a ys)) H
theorem mt_joinK (h : X.K = K := by rfl) : MtR X "str.join" (rJoinK K) := h ▸ mt_join
end
end L2

namespace L2
open PySem PySem.Spec PyProof.Rows
/-- a def with defaults that lets nothing out -/
theorem FunD.ok0 {P : Program} {w : World} {K : PySem.W.Frag} {mg : Str → Option Value} {base : Heap} {x qual : Str} {st : Stmt} {dvs : List V} {f : Addr} {fd : FuncData} {N ps : List Str} {k : Nat} {sp : Sp}
    (F : FunD K x qual (defArgs st) (defBody st) (defScope st) dvs [] f fd) (S : FnScope N ps (defScope st)) (len : ∀ vs H Q E, sp vs H Q E → vs.length = ps.length)
    (hbody : ∀ (cdv : Value) (A : Around) (outer : List Env) (s : Shared) (H : Hp) (vs : List V) (Q : VK) (E : XK), Room k (A.deeper (envOfC qual (defScope st) s.heap.objs.size f cdv)) → sp vs H Q E →
      ∃ t, PSs (cxOf CX0 P w K mg base N qual (defScope st) f cdv A outer s H E).nox (defBody st) t ∧ t { nx := fun _ H' => Q .non H', rt := Q } (start N vs) H) : FnOk P w K mg base CX0 (k + 1) f fd ps sp :=
  F.ok S len fun cdv A outer s H vs Q E hr hsp => by
    obtain ⟨t, h, q⟩ := hbody cdv A outer s H vs Q E hr hsp
    exact ⟨t, h.nox, q⟩
theorem funD_mk {K : PySem.W.Frag} {x qual : Str} {st : Stmt} {f T : Addr} {oc : Value} {od an : Option Addr} {osl : Array (Option Value)} {kV doc pm cdv ct : Value} {o : Obj} {its : List Value} {n : Nat} {dvs : List V}
    (l : K.lookup f = some ⟨oc, od, .func (PySem.W.fnOf x qual (defArgs st) (defBody st) (defScope st) (.ref T) kV doc pm an cdv ct), osl⟩)
    (c : PySem.W.codeIn K cdv qual = true) (k : PySem.W.keepIn K (.ref f) = true) (lT : K.lookup T = some o) (oT : o.data = .seq its.toArray n) (hv : Vals dvs its) (hd : dvs ≠ []) :
    FunD K x qual (defArgs st) (defBody st) (defScope st) dvs [] f (PySem.W.fnOf x qual (defArgs st) (defBody st) (defScope st) (.ref T) kV doc pm an cdv ct) :=
  ⟨⟨oc, od, .ref T, kV, doc, pm, an, cdv, ct, osl, rfl, l, c, .inr ⟨hd, T, o, its, n, rfl, lT, oT, hv⟩, .inl rfl⟩, k⟩
end L2

namespace L2
open PySem PySem.Spec PyProof.Rows
/-! ### a method called in a try's body; what is asked of an own class -/
section
variable {X : Cx} {CX : CXT} {k : Nat} {f C : Addr} {fd : FuncData} {ps : List Str} {sp : Sp} {dvs : List V} {ds : List Value} {E : St → XK} {o e : Expr} {es : List Expr} {ta : TE} {t : TA} {m : Str} {apos pos : Pos}
/-- o.m(e, ..) in a try's body -/
def tMethSD (C : Addr) (m : Str) (sp : Sp) (dvs : List V) (E : St → XK) (ta : TE) (t : TA) : TE := fun σ H Q => ta σ H fun x H1 => ∃ a dx fs, x = .ref a ∧ H1 a = some (.ins C dx fs) ∧ fs.lookup m = none ∧ t σ H1 fun vs H2 => sp (x :: (vs ++ dvs)) H2 Q (E σ)
theorem pe_methSD {pl : Sem Bool} (he : PE X o ta) (c : Cls X.K C) (hm : Meth X.K C m f) (F : FnOk X.prog X.w X.K X.mg X.base CX k f fd ps sp) (hr : Room k X.A) (hb : Binds X.K fd ps ds) (hd : Vals dvs ds) (hx : ∀ σ, PassesAt CX X σ (E σ)) (ha : PA X (e :: es) t)
    (hst : starEach (e :: es) X.env = (false, eval e X.env) :: starEach es X.env := by rfl) (hpl : (backTo pos (starEach es X.env)).any (·.1) = false := by rfl)
    (ht : eval (.Call (.Attribute o m apos) (e :: es) [] pos) X.env = (do
      let ov ← eval o X.env
      standAt apos.atName
      let (f, first) ← holding [ov] (getMethod ov m pl)
      callWith pos f first (backTo pos (starEach (e :: es) X.env)) (backToKw pos (keywordEach [] X.env))) := by rfl) :
    PE X (.Call (.Attribute o m apos) (e :: es) [] pos) (tMethSD C m sp dvs E ta t) := by
  refine ⟨fun pins s σ H Q I h => PySem.W.methodCall_KW (pl := pl) (thn (he.run pins s σ H _ I h) fun u s1 z => ?_) ht⟩
  obtain ⟨x, H1, J, rx, a, dx, fs, rfl, ea, l, q⟩ := z
  cases (show u = Value.ref a from rx)
  refine getmeth_ok J ea c hm l ?_
  refine PySem.W.callWith_K (first := [.ref a]) (h₀ := X.base) J.ok.mod.kin hm.kp (thn (ha.run pos pins s1 σ H1 _ J q) fun us s2 z => ?_) hst hpl
  obtain ⟨vs, H2, J2, r, q2⟩ := z
  have rr : Vals (V.ref a :: (vs ++ dvs)) (Value.ref a :: (us ++ ds)) := .cons rfl (r.append hd)
  refine ⟨J2.kIn, wpAny_call (codeAny_mono (F.run X.A X.stack s2 H2 ⟨.ref a :: us, []⟩ (.ref a :: (us ++ ds)) (.ref a :: (vs ++ dvs)) Q (E σ) hr J2.env0 (hb s2 (.ref a :: us) J2.kIn (rr.length.symm.trans (F.len _ _ _ _ q2))) rr q2) fun r s' z => ?_)⟩
  cases r with
  | error er => exact hx σ pins H2 s2 er s' J2 z
  | ok fl =>
    cases fl with
    | ret u => exact J2.after z
    | _ => exact False.elim z
end
/-- what the written part says of an own class -/
structure OwnK (K : PySem.W.Frag) (mg : Str → Option Value) (x : Str) (C : Addr) : Prop where
  gC : mg x = some (.ref C)
  cls : Cls K C
  made : PySem.W.makesIn K C = true
  kC : PySem.W.keepIn K (.ref C) = true
end L2

namespace Evl
open PySem L2
/-! ### what evaluates to what: texts -/
section
variable {K : PySem.W.Frag} {σ : L2.St} {H H' : Hp} {ta tb te tl : TE} {t : TT} {x y z v : V}
theorem ev_m0 {C : Str → Prop} {g : Str → V} {a : Str} (h : Ev te σ H (.str a)) (c : C a) : Ev (tM0 (fun x xs H Q => ∃ a, x = .str a ∧ xs = [] ∧ C a ∧ Q (g a) H) te) σ H (g a) := fun H1 e Q q =>
  h H1 e _ fun H2 e2 => ⟨⟨a, rfl⟩, a, rfl, rfl, c, q H2 e2⟩
theorem ev_m1 {g : Str → Str → V} {a b : Str} (h : Ev te σ H (.str a)) (h2 : Ev ta σ H (.str b)) : Ev (tM1 (fun x xs H Q => ∃ a b, x = .str a ∧ xs = [.str b] ∧ Q (g a b) H) te ta) σ H (g a b) := fun H1 e Q q =>
  h H1 e _ fun H2 e2 => ⟨⟨a, rfl⟩, h2 H2 (e.trans e2) _ fun H3 e3 => ⟨a, b, rfl, rfl, q H3 (e2.trans e3)⟩⟩
theorem ev_join {a : Str} {ys : List Str} (h : Ev te σ H (.str a)) (h2 : EvL tl σ H (ys.map V.str)) (hz : (ys.map (·.length)).sum + ys.length * a.length ≤ 16777216) :
    Ev (tM1 (rJoinK K) te tl) σ H (.str (Txt.join a ys)) := fun H1 e Q q =>
  h H1 e _ fun H2 e2 => ⟨⟨a, rfl⟩, h2 H2 (e.trans e2) _ fun p H3 _ e3 h3 => ⟨a, p, ys, rfl, rfl, .inl (sq_of h3), hz, q H3 (e2.trans e3)⟩⟩
theorem rv_addS {a b : Str} (h : a.length + b.length ≤ 100000) : RV (fun x y H Q => ∃ i j, x = .str i ∧ y = .str j ∧ i.length + j.length ≤ sizeLine ∧ Q (.str (i ++ j)) H) (.str a) (.str b) H (.str (a ++ b)) := fun H1 _ _ q => ⟨a, b, rfl, rfl, sz_of h, q H1 (Ex.refl H1)⟩
theorem rv_inS {c : Nat} {z : Str} : RV (fun x y H Q => ∃ (c : Nat) (z : Str), x = .str ⟨#[c]⟩ ∧ y = .str z ∧ Q (.bl (decide (c ∈ z.cps.toList))) H) (.str ⟨#[c]⟩) (.str z) H (.bl (decide (c ∈ z.cps.toList))) := fun H1 _ _ q => ⟨c, z, rfl, rfl, q H1 (Ex.refl H1)⟩
theorem rv_niS {c : Nat} {z : Str} : RV (fun x y H Q => ∃ (c : Nat) (z : Str), x = .str ⟨#[c]⟩ ∧ y = .str z ∧ Q (.bl (!decide (c ∈ z.cps.toList))) H) (.str ⟨#[c]⟩) (.str z) H (.bl (!decide (c ∈ z.cps.toList))) := fun H1 _ _ q => ⟨c, z, rfl, rfl, q H1 (Ex.refl H1)⟩
theorem rv_ltS {a b : Str} : RV (fun x y H Q => ∃ i j, x = .str i ∧ y = .str j ∧ Q (.bl (decide (i.cps.toList < j.cps.toList))) H) (.str a) (.str b) H (.bl (decide (a.cps.toList < b.cps.toList))) := fun H1 _ _ q => ⟨a, b, rfl, rfl, q H1 (Ex.refl H1)⟩
theorem ev_revS {a : Str} (h : Ev te σ H (.str a)) (hz : a.length ≤ 100000) : Ev (tRevS te) σ H (.str ⟨a.cps.toList.reverse.toArray⟩) := fun H1 e Q q => h H1 e _ fun H2 e2 => ⟨a, rfl, sz_of hz, q H2 e2⟩
theorem ev_slS {a : Str} {t1 t2 : TO} {lo hi : Option Int} (h : Ev te σ H (.str a)) (h1 : EvO t1 σ H lo) (h2 : EvO t2 σ H hi) (hz : a.length ≤ 100000) : Ev (tSl rSlS te t1 t2) σ H (.str (cutS a lo hi)) := fun H1 e Q q =>
  h H1 e _ fun H2 e2 => h1 H2 (e.trans e2) _ fun H3 e3 => h2 H3 ((e.trans e2).trans e3) _ fun H4 e4 => ⟨a, rfl, sz_of hz, q H4 ((e2.trans e3).trans e4)⟩
theorem ev_lenS {a : Str} (h : Ev te σ H (.str a)) (hz : a.length ≤ 100000) : Ev (tCB (fun xs H Q => ∃ z, xs = [.str z] ∧ z.length ≤ sizeLine ∧ Q (.int z.length) H) (tCons te tNil)) σ H (.int a.length) := fun H1 e Q q =>
  h H1 e _ fun H2 e2 => ⟨a, rfl, sz_of hz, q H2 e2⟩
theorem ev_intB {b : Bool} (h : Ev te σ H (.bl b)) : Ev (tCB (fun xs H Q => (∃ i, xs = [.int i] ∧ Q (.int i) H) ∨ ∃ k, xs = [.bl k] ∧ Q (.int (if k then 1 else 0)) H) (tCons te tNil)) σ H (.int (if b then 1 else 0)) := fun H1 e Q q =>
  h H1 e _ fun H2 e2 => .inr ⟨b, rfl, q H2 e2⟩
theorem ev_ixNew {xs : List V} {i : Int} (ha : EvL ta σ H xs) (hb : ∀ H1, Ex H H1 → Ev tb σ H1 (.int i)) (hi : atI xs i = some v) : Ev (tOp (rIxL K) ta tb) σ H v := ev_opL1 ha hb fun p H1 hp e => rv_ixL (sq_of hp) hi
theorem ev_isi {tc : TE} {c : V} {ty u : Value} {b : Bool} (h : Ev te σ H x) (h2 : Ev tc σ H c) (hc : ClsV c u) (hx : ∀ H1, Ex H H1 → TyX K H1 x ty) (hb : PySem.W.kitOne K ty u = some b) : Ev (tCB (rIsi K) (tCons te (tCons tc tNil))) σ H (.bl b) := fun H1 e Q q =>
  h H1 e _ fun H2 e2 => h2 H2 (e.trans e2) _ fun H3 e3 => ⟨x, c, ty, u, b, rfl, hc, hx H3 ((e.trans e2).trans e3), hb, q H3 (e2.trans e3)⟩
theorem ev_isiN {tc : TE} {c : V} {xs : List V} {ty u : Value} {b : Bool} (h : EvL te σ H xs) (h2 : ∀ H1, Ex H H1 → Ev tc σ H1 c) (hc : ClsV c u) (hx : ∀ p H1, H1 p = some (.lst xs) → TyX K H1 (.ref p) ty) (hb : PySem.W.kitOne K ty u = some b) : Ev (tCB (rIsi K) (tCons te (tCons tc tNil))) σ H (.bl b) := fun H1 e Q q =>
  h H1 e _ fun p H2 _ e2 hp => h2 H2 (e.trans e2) H2 (Ex.refl H2) _ fun H3 e3 => ⟨.ref p, c, ty, u, b, rfl, hc, hx p H3 (e3 _ _ hp), hb, q H3 (e2.trans e3)⟩
theorem ev_allN {bs : List Bool} (h : EvL te σ H (bs.map V.bl)) : Ev (tCB (rAll K) (tCons te tNil)) σ H (.bl (bs.all id)) := fun H1 e Q q =>
  h H1 e _ fun p H2 _ e2 hp => ⟨p, bs, rfl, sq_of hp, q H2 e2⟩
theorem ev_ifv {b : Bool} {v w : V} (h : EvT t σ H b) (h1 : b = true → Ev ta σ H v) (h2 : b = false → Ev tb σ H w) : Ev (tIf t ta tb) σ H (if b = true then v else w) := by
  refine ev_if h (fun e => ?_) (fun e => ?_)
  · rw [if_pos e]; exact h1 e
  · rw [if_neg (by rw [e]; decide)]; exact h2 e
theorem et_yes : EvT tYes σ H true := fun H1 _ _ q => q H1 (Ex.refl H1)
theorem given_all (n : Nat) (v : Nat → V) : given n (fun _ => true) v = (List.range n).map v := by
  unfold given
  congr 1
  exact List.filter_eq_self.mpr fun _ _ => rfl
theorem range_map {α : Type} (l : List α) (g : α → V) (d : α) : (List.range l.length).map (fun i => g (l.getD i d)) = l.map g := by
  apply List.ext_getElem
  · simp
  · intro i h1 h2
    simp at h1
    simp [List.getD, h1]
/-- [e for sign in text] -/
theorem el_lcS {s : Str} {j : Nat} {vs : List Nat} (f : Nat → Bool) (v : Nat → V) (h : Ev tl σ H (.str s)) (hz : s.length ≤ 40000) (hw : ∀ x, wipe ((wipe σ vs).set j (some x)) vs = wipe σ vs)
    (ht : ∀ (i c : Nat) H1, Ex H H1 → s.cps.toList[i]? = some c → EvT t ((wipe σ vs).set j (some (.str ⟨#[c]⟩))) H1 (f i))
    (he : ∀ (i c : Nat) H1, Ex H H1 → s.cps.toList[i]? = some c → f i = true → Ev te ((wipe σ vs).set j (some (.str ⟨#[c]⟩))) H1 (v i)) :
    EvL (tLc (iStr tl) (gName j) t te vs) σ H (given s.length f v) := fun H0 e Q q => h H0 e _ fun H1 e1 => ⟨s, rfl, fun Dl hD =>
  lc_it walk_str (Cw H1 f v Dl) ⟨hD, Ex.new hD, upd_same⟩ (fun _ _ _ _ => trivial) (fun i x H2 H' hi p hy => by
    obtain ⟨rfl, c, hc, rfl⟩ := hy
    have hc' : s.cps.toList[i]? = some c := by rw [Array.getElem?_toList]; exact hc
    exact ⟨hw _, cw_turn p (by have : s.length = s.cps.size := rfl; omega) (ht i c H1 (e.trans e1) hc') (fun hf => he i c H1 (e.trans e1) hc' hf)⟩)
    (fun H' p => q Dl H' (fresh_back e1 p.1) (e1.trans p.2.1) p.2.2)⟩
theorem el_mapS {s : Str} {j : Nat} {vs : List Nat} (g : Nat → V) (h : Ev tl σ H (.str s)) (hz : s.length ≤ 40000) (hw : ∀ x, wipe ((wipe σ vs).set j (some x)) vs = wipe σ vs)
    (he : ∀ (c : Nat) H1, Ex H H1 → c ∈ s.cps.toList → Ev te ((wipe σ vs).set j (some (.str ⟨#[c]⟩))) H1 (g c)) :
    EvL (tLc (iStr tl) (gName j) tYes te vs) σ H (s.cps.toList.map g) := by
  have := el_lcS (te := te) (t := tYes) (fun _ => true) (fun i => g (s.cps.toList.getD i 0)) h hz hw (fun _ _ _ _ _ => et_yes) (fun i c H1 e hc _ => by
    have : s.cps.toList.getD i 0 = c := by rw [List.getD_eq_getElem?_getD, hc]; rfl
    rw [this]
    exact he c H1 e (List.mem_of_getElem? hc))
  rw [given_all] at this
  have e2 : s.length = s.cps.toList.length := rfl
  rw [e2, range_map] at this
  exact this
end
end Evl

namespace L2
open PySem PySem.Spec PyProof.Rows
/-! ### sorted(list, key=f), f an own def whose keys read as data (lists too) -/
section
variable {X : Cx}
def rSortF (K : PySem.W.Frag) (f : Addr) (sp : Sp) (dvs : List V) : List V → List V → Hp → VK → Prop := fun vs zs H Q =>
  ∃ (p : Addr) (bs : List (V × PyData)), vs = [.ref p] ∧ zs = [.ref f] ∧ SqL K H p (bs.map (·.1)) ∧ PySem.W.AllAlike (bs.map (·.2)) ∧ PySem.W.Sortable (bs.map (·.2)) ∧ bs.length ≤ 100000 ∧ (∀ b ∈ bs, b.2.depth ≤ 50) ∧
    (∀ b ∈ bs, ∀ H1, Same H H1 → ∀ Q1 : VK, (∀ v H2, Same H1 H2 → (∀ H3, Same H2 H3 → Dp K H3 v b.2) → Q1 v H2) → sp (b.1 :: dvs) H1 Q1 fun _ _ _ => False) ∧
    ∀ q H2, Same H H2 → H q = none → H2 q = some (.lst ((bs.mergeSort (PySem.W.dataLe false (·.2))).map (·.1))) → Q (.ref q) H2
theorem each_ofF {R : Value → V × PyData → Prop} : ∀ {bs : List (V × PyData)} {us : List Value}, Vals (bs.map (·.1)) us → (∀ b ∈ bs, ∀ u, RelV b.1 u → R u b) → PySem.W.EachIs R us bs
  | [], _, r, _ => by cases r; exact .nil
  | b :: bs, _, r, h => by
    cases r with
    | cons a t => exact .cons (h b List.mem_cons_self _ a) (each_ofF t fun c hc => h c (List.mem_cons_of_mem _ hc))
theorem vals_eachF : ∀ {bs : List (V × PyData)} {us : List Value}, PySem.W.EachIs (fun u (b : V × PyData) => RelV b.1 u) us bs → Vals (bs.map (·.1)) us
  | _, _, .nil => .nil
  | _, _, .cons a t => .cons a (vals_eachF t)
/-- two new records of ours were changed, one of them is a list from now on -/
theorem Inv.two {pins : List (Addr × Obj)} {σ : St} {H : Hp} {s : Shared} {h' : Heap} {t' : Nat} {x a : Addr} {xs : List V} (I : Inv X pins σ H s) (k : ∀ b o, b ≠ x → b ≠ a → s.heap.get? b = some o → h'.get? b = some o)
    (hx : H x = none) (ha : H a = none) (lx : x ≠ X.env.locals) (la : a ≠ X.env.locals) (zx : X.s_0.heap.objs.size ≤ x) (za : X.s_0.heap.objs.size ≤ a) (cx : ∀ y c, X.env.cells.lookup y = some c → c ≠ x) (ca : ∀ y c, X.env.cells.lookup y = some c → c ≠ a)
    (px : ∀ p ∈ X.pn ++ pins, p.1 ≠ x) (pa : ∀ p ∈ X.pn ++ pins, p.1 ≠ a) (hne : x ≠ a) (new : ObjOk X.prog X.w (upd H a (.lst xs)) h' a (.lst xs)) : Inv X pins σ (upd H a (.lst xs)) { s with heap := h', toks := t' } := by
  have nx : ∀ b u, H b = some u → b ≠ x := fun b u e z => by rw [z, hx] at e; cases e
  have na : ∀ b u, H b = some u → b ≠ a := fun b u e z => by rw [z, ha] at e; cases e
  refine I.step (g' := s.gens) (d' := s.drawn) (ch := [x, a]) (fun b hb => ?_) (fun b o _ _ hc e _ => k b o (fun z => hc (by simp [z])) (fun z => hc (by simp [z])) e)
    (fun b o _ _ hc e _ => ⟨o.slots, k b o (fun z => hc (by simp [z])) (fun z => hc (by simp [z])) e⟩) (fun b o hc e n => by rw [upd_ne fun z => hc (by simp [z])]; exact n)
    (fun b o hc e => ⟨o, k b o (fun z => hc (by simp [z])) (fun z => hc (by simp [z])) e⟩) (fun b _ e => by rw [upd_ne (na b _ e)]; exact e) (fun b _ _ e => by rw [upd_ne (na b _ e)]; exact e)
    (fun b ps e => ⟨#[], by rw [upd_ne (na b _ e), e]; simp⟩) (fun m hm => ?_) (fun b u e => ?_) I.bare
  · rcases List.mem_cons.mp hb with rfl | hb
    · exact ⟨.inr zx, lx, cx, px⟩
    · rw [List.mem_singleton.mp hb]
      exact ⟨.inr za, la, ca, pa⟩
  · obtain ⟨o, es, ep, ho, r⟩ := hm
    exact ⟨o, es, ep, k _ o (Ne.symm lx) (Ne.symm la) ho, r⟩
  · by_cases q : b = a
    · subst q
      rw [upd_same] at e
      cases e
      exact new
    · rw [upd_ne q] at e
      refine (I.hok b u e).stay (fun c v hc g => ?_) (fun c g => by rw [upd_ne (na c _ g)]; exact g) fun c ys g => by rw [upd_ne (na c _ g)]; exact g
      refine k c v ?_ ?_ g
      · rcases hc with z | z
        · rw [z]; exact nx b u e
        · exact nx c _ z
      · rcases hc with z | z
        · rw [z]; exact q
        · exact na c _ z
/-- the keys, one by one -/
theorem keys_run {K : PySem.W.Frag} {k : Nat} {f : Addr} {fd : FuncData} {ps : List Str} {sp : Sp} {dvs : List V} {ds : List Value} {pins : List (Addr × Obj)} {σ : St} {H : Hp} {s : Shared} {bs : List (V × PyData)} {its : List Value} {x a : Addr} {e1 : Nat} {P : PySem.Fin → Shared → Prop} {E : Value → Shared → Prop}
    (F : FnOk X.prog X.w X.K X.mg X.base CX0 k f fd ps sp) (hr : Room (k + 2) X.A) (hb : Binds X.K fd ps ds) (hd : Vals dvs ds) (hK : X.K = K)
    (I : Inv X pins σ H s) (rv : Vals (bs.map (·.1)) its) (hx : H x = none) (ha : H a = none) (lx : x ≠ X.env.locals) (la : a ≠ X.env.locals) (zx : X.s_0.heap.objs.size ≤ x) (za : X.s_0.heap.objs.size ≤ a)
    (cx : ∀ y c, X.env.cells.lookup y = some c → c ≠ x) (ca : ∀ y c, X.env.cells.lookup y = some c → c ≠ a) (px : ∀ p ∈ X.pn ++ pins, p.1 ≠ x) (pa : ∀ p ∈ X.pn ++ pins, p.1 ≠ a) (fx : x ∉ X.fs) (fa : a ∉ X.fs) (hne : x ≠ a)
    (ox : s.heap.get? x = some (seqObj "list" #[] 0)) (oa : s.heap.get? a = some (seqObj "list" #[] e1)) (hz : bs.length ≤ 100000) (al : PySem.W.AllAlike (bs.map (·.2))) (so : PySem.W.Sortable (bs.map (·.2))) (dp : ∀ b ∈ bs, b.2.depth ≤ 50)
    (turn : ∀ b ∈ bs, ∀ H1, Same H H1 → ∀ Q1 : VK, (∀ v H2, Same H1 H2 → (∀ H3, Same H2 H3 → Dp K H3 v b.2) → Q1 v H2) → sp (b.1 :: dvs) H1 Q1 fun _ _ _ => False)
    (done : ∀ s' H' ys, Inv X pins σ (upd H' a (.lst ys)) s' → Same H H' → H' a = none → ys = (bs.mergeSort (PySem.W.dataLe false (·.2))).map (·.1) → P (.done (.ret .none)) s') :
    wpAny (model X.prog X.w) X.A.in1.in1 (PyProof.Rows.ksk_rest a (.ref f) false its.toArray e1 (.ref x)) P E s := by
  subst hK
  have hlen : its.length = bs.length := by rw [← rv.length, List.length_map]
  have big : (100000 : Nat) ≤ sizeLine := by decide
  unfold PyProof.Rows.ksk_rest
  refine wpAny_bind (wpAny_rule ?_)
  rw [List.forIn_toArray]
  refine wpAny_bind (PyProof.Rows.ksk_fold (fun i s' => ∃ H' us e, Inv X pins σ H' s' ∧ Same H H' ∧ H' x = none ∧ H' a = none ∧ s'.heap.get? x = some (seqObj "list" us e) ∧ s'.heap.get? a = some (seqObj "list" #[] e1) ∧
    PySem.W.EachIs (fun u (b : V × PyData) => ∃ v, RelV v u ∧ ∀ H3, Same H' H3 → Dp X.K H3 v b.2) us.toList (bs.take i)) its 0 s ⟨H, #[], 0, I, Same.refl H, hx, ha, ox, oa, by rw [List.take_zero]; exact .nil⟩ ?one ?all)
  case one =>
    rintro j u0 s1 hj ⟨H1, us, e, I1, s01, nx, na, g1, g2, hk⟩
    rw [Nat.zero_add] at hk ⊢
    have jl : j < bs.length := by have := (List.getElem?_eq_some_iff.mp hj).1; omega
    have bj : bs[j]? = some bs[j] := List.getElem?_eq_getElem jl
    have uz : us.size ≤ 100000 := by
      have := hk.length
      rw [Array.length_toList, List.length_take] at this
      omega
    have rj : RelV bs[j].1 u0 := by
      obtain ⟨u, hu, ru⟩ := rv.get (i := j) (x := bs[j].1) (by rw [List.getElem?_map, bj]; rfl)
      rw [hj] at hu
      cases hu
      exact ru
    have rr : Vals (bs[j].1 :: dvs) (u0 :: ds) := .cons rj hd
    refine wpAny_bind (wpAny_attempt ?_)
    refine wpAny_mono (Q := fun u s2 => ∃ v H2, Inv X pins σ H2 s2 ∧ RelV v u ∧ Same H1 H2 ∧ (∀ H3, Same H2 H3 → Dp X.K H3 v bs[j].2) ∧ H2 x = none ∧ H2 a = none ∧ s2.heap.get? x = some (seqObj "list" us e) ∧ s2.heap.get? a = some (seqObj "list" #[] e1)) (E := fun _ _ => False)
      (wpAny_call (codeAny_mono (F.run X.A.in1.in1 X.stack s1 H1 ⟨[u0], []⟩ (u0 :: ds) (bs[j].1 :: dvs) (fun v H2 => Same H1 H2 ∧ ∀ H3, Same H2 H3 → Dp X.K H3 v bs[j].2) (fun _ _ _ => False) hr.in1.in1 I1.env0.in1.in1
        (hb s1 [u0] I1.kIn (by rw [← F.len _ _ _ _ (turn _ (List.getElem_mem jl) H1 s01 (fun _ _ => True) fun _ _ _ _ => trivial)]; exact rr.length.symm)) rr (turn _ (List.getElem_mem jl) H1 s01 _ fun v H2 a b => ⟨a, b⟩)) fun r s2 hq => ?_)) (fun u s2 z => ?_) (fun _ _ z => z.elim)
    · cases r with
      | error er => exact hq.elim
      | ok fl =>
        cases fl with
        | ret u =>
          obtain ⟨v, H2, os, bare, un, hok, rv2, hs2, hd2⟩ := hq
          have nf : ∀ y, y ≠ X.env.locals → y ∉ X.fs → y ∉ frs X.stack := fun y ly fy z => by
            rcases List.mem_cons.mp (I1.stkSub y z) with q | q
            · exact ly q
            · exact fy q
          obtain ⟨hh, g, d, t, os'⟩ := s2
          obtain rfl : os' = s1.os := os
          exact ⟨v, H2, I1.call (h' := hh) (g' := g) (d' := d) (t' := t) (ch := []) un hok bare (fun b z => absurd z (by simp)), rv2, hs2, hd2, un.free x _ g1 nx (by simp), un.free a _ g2 na (by simp), un.keep x _ g1 nx (nf x lx fx) (by simp), un.keep a _ g2 na (nf a la fa) (by simp)⟩
        | next => exact hq.elim
        | brk => exact hq.elim
        | cont => exact hq.elim
    obtain ⟨v, H2, I2, rv2, s12, hd2, nx2, na2, g3, g4⟩ := z
    dsimp only
    have up := Heap.SameBut.update s2.heap x (Obj.mapSeq (·.push u))
    obtain ⟨c2, hc2⟩ : ∃ c2, (s2.heap.update x (Obj.mapSeq (·.push u))).get? x = some (seqObj "list" (us.push u) c2) := ⟨_, get?_update_seq g3 (·.push u)⟩
    refine wpAny_bind (listUpdate_at g3 rfl ?_ (by show us.size ≤ _; omega) (by show (us.push u).size ≤ _; rw [Array.size_push]; omega))
    refine wpAny_pure ⟨rfl, H2, us.push u, c2, I2.turned (fun b o hbx e => (up.2 b hbx).trans e) nx2 lx (.inr zx) cx px, Same.trans s01 s12, nx2, na2, hc2, (up.2 a hne.symm).trans g4, ?_⟩
    have et : bs.take (j + 1) = bs.take j ++ [bs[j]] := by rw [List.take_add_one, bj]; rfl
    rw [et, Array.toList_push]
    exact PySem.W.each_snoc (R := fun u (b : V × PyData) => ∃ v, RelV v u ∧ ∀ H3, Same H2 H3 → Dp X.K H3 v b.2) ⟨v, rv2, hd2⟩ (hk.mono fun u b ⟨w, rw', dw⟩ => ⟨w, rw', fun H3 s3 => dw H3 (Same.trans s12 s3)⟩)
  case all =>
    rintro s1 ⟨H1, us, e, I1, s01, nx, na, g1, g2, hk⟩
    rw [Nat.zero_add, List.take_of_length_le (by omega)] at hk
    have uz : us.size = bs.length := by
      have := hk.length
      rwa [Array.length_toList] at this
    refine wpAny_bind (listItems_at g1 rfl ?_)
    have hk2 : PySem.W.EachIs (fun u (b : V × PyData) => ∃ as, Reads s1.heap u b.2 as) us.toList bs := hk.mono fun u b ⟨v, ru, dv⟩ => Dp.reads I1 b.2 v u (dv H1 (Same.refl H1)) ru
    have hk3 : PySem.W.EachIs (fun u d => ∃ as, Reads s1.heap u d as) us.toList (bs.map (·.2)) := PySem.W.each_map (R := fun u d => ∃ as, Reads s1.heap u d as) (fun b : V × PyData => b.2) hk2
    have S := PySem.W.SortsAt.data (prog := X.prog) (w := X.w) (A := X.A.in1.in1) (s := s1) hk3 al so (fun d hd' => by
      obtain ⟨b, hb', rfl⟩ := List.mem_map.mp hd'
      have h1 := dp b hb'
      have h2 := hr.un
      show X.A.units + 1 + 1 + b.2.depth < cLine
      omega)
    refine PySem.W.keyH_end (κ := PySem.W.dataKind s1.heap (bs.map (·.2))) (h₁ := s1.heap.hide x) (s := s1) (fun b o _ q => Heap.of_hide q) (Heap.hide_self _ _) g1 g2 hne S (by rw [uz, hlen]) (by rw [hlen]; omega) fun h' tk c kp ga => ?_
    have hko : PySem.W.KeyedOut false (bs.map (·.2)) its (PySem.W.sortVals (PySem.W.dataKind s1.heap (bs.map (·.2))) false us.toList its) := ⟨s1.heap, us.toList, al, rfl, hk3⟩
    have ho := PySem.W.keyedOut_each (R := fun u (b : V × PyData) => RelV b.1 u) (fun b : V × PyData => b.2) hko (each_ofF rv fun b _ u ru => ru)
    have rv2 := vals_eachF ho
    refine done _ H1 _ (I1.two (fun b o n1 n2 q => kp b o n2 ((Heap.hide_ne _ n1).trans q)) nx na lx la zx za cx ca px pa hne ?_) s01 na rfl
    exact ⟨by rw [List.length_map, List.length_mergeSort]; omega, _, c, rv2, ga⟩
theorem call_sortF {K : PySem.W.Frag} {k : Nat} {f : Addr} {fd : FuncData} {ps : List Str} {sp : Sp} {dvs : List V} {ds : List Value} (F : FnOk X.prog X.w X.K X.mg X.base CX0 k f fd ps sp) (hr : Room (k + 2) X.A) (hb : Binds X.K fd ps ds) (hd : Vals dvs ds) (hK : X.K = K := by rfl) :
    CallRK X (.builtin "sorted") [Str.ofString "key"] (rSortF K f sp dvs) := by
  intro pins s σ H xs zs us ws Q I r1 r2 h
  obtain ⟨p, bs, rfl, rfl, hS, al, so, hz, dp, turn, q⟩ := h
  obtain ⟨u, rfl, ru⟩ := vals1 r1
  cases (show u = Value.ref p from ru)
  obtain ⟨g, rfl, rg⟩ := vals1 r2
  cases (show g = Value.ref f from rg)
  obtain ⟨its, rv, hl, _⟩ := I.list (hK ▸ hS)
  have hlen : its.length = bs.length := by rw [← rv.length, List.length_map]
  have big : (100000 : Nat) ≤ sizeLine := by decide
  have hle : its.length ≤ sizeLine := by omega
  refine PySem.W.sorted_of_sort (A := X.A) hl.isList hle (PyProof.Rows.ksk_s1 _ _) (fun _ => PyProof.Rows.ksk_l1 _ _) fun E' => ?_
  show wpAny _ _ (Builtin.«list.sort» ⟨[.ref (s.heap.objs.size + 1)], [(Str.ofString "key", .ref f)]⟩) _ _ _
  rw [PyProof.Rows.ksk_t1]
  have I1 : Inv X pins σ H { s with heap := PySem.W.copyHeap s.heap its } := I.kept (t' := s.toks) fun b o e => PySem.W.copyHeap_old e
  have ha : H (s.heap.objs.size + 1) = none := I.hok.fresh (Nat.le_succ _)
  have hx : H (s.heap.objs.size + 3) = none := I.hok.fresh (by omega)
  have ho : (PySem.W.copyHeap s.heap its).get? (s.heap.objs.size + 1) = some (seqObj "list" its.toArray 0) := PySem.W.copyHeap_at s.heap its
  have csz : (PySem.W.copyHeap s.heap its).objs.size = s.heap.objs.size + 2 := by
    unfold PySem.W.copyHeap
    rw [size_push', Heap.size_update, size_push']
  have lt := I.lt
  have sz := I.sz
  have nl : ∀ n, s.heap.objs.size ≤ n → n ≠ X.env.locals := fun n hn e => by
    rw [← e] at lt
    exact absurd lt (Nat.not_lt.mpr hn)
  have zl : ∀ n, s.heap.objs.size ≤ n → X.s_0.heap.objs.size ≤ n := fun n hn => Nat.le_trans sz hn
  have fa : s.heap.objs.size + 1 ∉ X.fs := I.nofs (Nat.le_succ _)
  have fx : s.heap.objs.size + 3 ∉ X.fs := I.nofs (by omega)
  have cc : ∀ n, s.heap.objs.size ≤ n → ∀ y c, X.env.cells.lookup y = some c → c ≠ n := fun n hn y c e z => by
    obtain ⟨v, o, e2, _⟩ := I.cell y c e
    have e3 := Heap.lt_size e2
    rw [z] at e3
    exact absurd e3 (Nat.not_lt.mpr hn)
  have pp : ∀ n, s.heap.objs.size ≤ n → ∀ p ∈ X.pn ++ pins, p.1 ≠ n := fun n hn p hp z => by
    have e3 := Heap.lt_size (I.pin p hp).1
    rw [z] at e3
    exact absurd e3 (Nat.not_lt.mpr hn)
  unfold PyProof.Rows.ksk_tree
  refine wpAny_bind (listItems_at ho rfl ?_)
  refine wpAny_bind (listUpdate_at ho rfl ?_ (by rw [List.size_toArray]; exact hle) (Nat.zero_le _))
  obtain ⟨e1, ho1⟩ : ∃ e1, ((PySem.W.copyHeap s.heap its).update (s.heap.objs.size + 1) (Obj.mapSeq fun _ => (#[] : Array Value))).get? (s.heap.objs.size + 1) = some (seqObj "list" #[] e1) := ⟨_, get?_update_seq ho fun _ => #[]⟩
  have up := Heap.SameBut.update (PySem.W.copyHeap s.heap its) (s.heap.objs.size + 1) (Obj.mapSeq fun _ => (#[] : Array Value))
  have I2 := I1.turned (t' := s.toks) (it := s.heap.objs.size + 1) (fun b o hbx e => (up.2 b hbx).trans e) ha (nl _ (Nat.le_succ _)) (.inr (zl _ (Nat.le_succ _))) (cc _ (Nat.le_succ _)) (pp _ (Nat.le_succ _))
  refine wpAny_bind (seqEpoch_at ho1 rfl ?_)
  refine wpAny_bind (wpAny_newTuple ?_ (by show its.length ≤ _; exact hle))
  refine wpAny_bind (wpAny_newList ?_ (Nat.zero_le _))
  refine wpAny_holding ?_
  dsimp only
  have us2 : ((PySem.W.copyHeap s.heap its).update (s.heap.objs.size + 1) (Obj.mapSeq fun _ => (#[] : Array Value))).objs.size = s.heap.objs.size + 2 := by rw [Heap.size_update, csz]
  have us3 : (((PySem.W.copyHeap s.heap its).update (s.heap.objs.size + 1) (Obj.mapSeq fun _ => (#[] : Array Value))).push (seqObj "tuple" its.toArray 0)).objs.size = s.heap.objs.size + 3 := by rw [size_push', us2]
  have I3 := I2.kept (t' := s.toks) (h' := (((PySem.W.copyHeap s.heap its).update (s.heap.objs.size + 1) (Obj.mapSeq fun _ => (#[] : Array Value))).push (seqObj "tuple" its.toArray 0)).push (seqObj "list" #[] 0)) fun b o e => Heap.get?_push_of_some _ (Heap.get?_push_of_some _ e)
  have gx : ((((PySem.W.copyHeap s.heap its).update (s.heap.objs.size + 1) (Obj.mapSeq fun _ => (#[] : Array Value))).push (seqObj "tuple" its.toArray 0)).push (seqObj "list" #[] 0)).get? (s.heap.objs.size + 3) = some (seqObj "list" #[] 0) := by
    have := Heap.get?_push_size (h := ((PySem.W.copyHeap s.heap its).update (s.heap.objs.size + 1) (Obj.mapSeq fun _ => (#[] : Array Value))).push (seqObj "tuple" its.toArray 0)) (o := seqObj "list" #[] 0) rfl
    rw [us3] at this
    exact this
  have ga := Heap.get?_push_of_some (seqObj "list" #[] 0) (Heap.get?_push_of_some (seqObj "tuple" its.toArray 0) ho1)
  have go := keys_run (x := s.heap.objs.size + 3) (a := s.heap.objs.size + 1) (e1 := e1) (E := E') (P := fun f s' => f = .done (.ret .none) ∧ EP X pins σ Q (.ref (s.heap.objs.size + 1)) s') F hr hb hd hK I3 rv hx ha (nl _ (by omega)) (nl _ (Nat.le_succ _)) (zl _ (by omega)) (zl _ (Nat.le_succ _)) (cc _ (by omega)) (cc _ (Nat.le_succ _)) (pp _ (by omega)) (pp _ (Nat.le_succ _)) fx fa (show (s.heap.objs.size + 3 : Nat) ≠ s.heap.objs.size + 1 by omega) gx ga hz al so dp turn
    (fun s' H' ys J sH na e => ⟨rfl, .ref (s.heap.objs.size + 1), _, J, rfl, q _ _ (Same.trans sH (fun b o e2 => by rw [upd_ne (fun z => by rw [z, na] at e2; cases e2)]; exact e2)) ha (by rw [upd_same, e])⟩)
  have ek : (((PySem.W.copyHeap s.heap its).update (s.heap.objs.size + 1) (Obj.mapSeq fun _ => (#[] : Array Value))).push { cls := .type "tuple", data := .seq its.toArray }).objs.size = s.heap.objs.size + 3 := us3
  rw [ek]
  exact go
end
end L2

namespace L2
open PySem PySem.Spec PyProof.Rows
/-! ### xs[::e] of a list, e being 1 or -1 -/
section
variable {X : Cx}
def tStepL (K : PySem.W.Frag) (te ti : TE) : TE := fun σ H Q => te σ H fun x H1 => ti σ H1 fun y H2 => ∃ a xs, x = .ref a ∧ SqL K H2 a xs ∧
  ((y = .int 1 ∧ ∀ p, H2 p = none → Q (.ref p) (upd H2 p (.lst xs))) ∨ (y = .int (-1) ∧ ∀ p, H2 p = none → Q (.ref p) (upd H2 p (.lst xs.reverse))))
theorem pick_fwd (its : List Value) : slicePick its.toArray none none (some 1) = its.toArray := by
  have h : slicePick its.toArray none none (some 1) = slicePick its.toArray none none none := rfl
  rw [h, slicePick_cut, HT.sIx_none, HT.sIx_none]
  simp
theorem pe_stepL {K : PySem.W.Frag} {e st : Expr} {te ti : TE} {p3 pos : Pos} (he : PE X e te) (hs : PE X st ti) (hK : X.K = K := by rfl) : PE X (.Subscript e (.Slice none none (some st) p3) pos) (tStepL K te ti) := by
  subst hK
  refine ⟨fun pins s σ H Q I h => ?_⟩
  refine Subscript_ (thn (he.run pins s σ H _ I h) fun v s1 z => ?_)
  obtain ⟨x, H1, I1, r1, q1⟩ := z
  refine wpAny_Slice (thn (po_none.run pins s1 σ H1 (fun o H2 => o = none ∧ H2 = H1) I1 ⟨rfl, rfl⟩) fun vl s2 z => ?_)
  obtain ⟨l, H2, I2, pl, el, e2⟩ := z
  subst el e2
  refine thn (po_none.run pins s2 σ H2 (fun o H3 => o = none ∧ H3 = H2) I2 ⟨rfl, rfl⟩) fun vu s3 z => ?_
  obtain ⟨u, H3, I3, pu, eu, e3⟩ := z
  subst eu e3
  have q2 : tPart ti σ H3 (fun o H4 => ∃ i, o = some i ∧ (i = 1 ∨ i = -1) ∧ ∃ a xs, x = .ref a ∧ SqL X.K H4 a xs ∧ ∀ p, H4 p = none → Q (.ref p) (upd H4 p (.lst (if i = 1 then xs else xs.reverse)))) := by
    refine (?_ : ti σ H3 _)
    have mono : (fun y H2 => ∃ a xs, x = V.ref a ∧ SqL X.K H2 a xs ∧ ((y = .int 1 ∧ ∀ p, H2 p = none → Q (.ref p) (upd H2 p (.lst xs))) ∨ (y = .int (-1) ∧ ∀ p, H2 p = none → Q (.ref p) (upd H2 p (.lst xs.reverse))))) =
        (fun (y : V) (H2 : Hp) => ∃ i, y = .int i ∧ ∃ j, some i = some j ∧ (j = 1 ∨ j = -1) ∧ ∃ a xs, x = .ref a ∧ SqL X.K H2 a xs ∧ ∀ p, H2 p = none → Q (.ref p) (upd H2 p (.lst (if j = 1 then xs else xs.reverse)))) := by
      funext y H2
      refine propext ⟨?_, ?_⟩
      · rintro ⟨a, xs, rfl, hx, ⟨rfl, q⟩ | ⟨rfl, q⟩⟩
        · exact ⟨1, rfl, 1, rfl, .inl rfl, a, xs, rfl, hx, q⟩
        · exact ⟨-1, rfl, -1, rfl, .inr rfl, a, xs, rfl, hx, q⟩
      · rintro ⟨i, rfl, j, e, hj, a, xs, rfl, hx, q⟩
        injection e with e
        subst e
        rcases hj with rfl | rfl
        · exact ⟨a, xs, rfl, hx, .inl ⟨rfl, q⟩⟩
        · exact ⟨a, xs, rfl, hx, .inr ⟨rfl, q⟩⟩
    exact mono ▸ q1
  refine thn ((po_some hs).run pins s3 σ H3 _ I3 q2) fun vs s4 z => ?_
  obtain ⟨o, H4, I4, ps, i, rfl, hi, a, xs, rfl, hx, q⟩ := z
  cases r1
  have I5 : Inv X pins σ H4 { s4 with heap := s4.heap.push { cls := .type "slice", data := .fields #[vl, vu, vs] } } := I4.kept (t' := s4.toks) fun b ob q => Heap.get?_push_of_some _ q
  obtain ⟨its, r, ht, hz⟩ := I5.list hx
  have hlen := r.length
  show wpAny (model X.prog X.w) X.A (subscriptTail e (.Slice none none (some st) p3) (.ref a) (.ref s4.heap.objs.size)) (EP X pins σ Q) X.xe { s4 with heap := s4.heap.push { cls := .type "slice", data := .fields #[vl, vu, vs] } }
  refine tail_any (ops := [.ref a, .ref s4.heap.objs.size]) ht.isList.typeIs (PySem.slot_list_getitem.lookup) ?_ (by with_unfolding_all rfl)
  refine wpAny_getItem_list_slice ht.isList (Heap.IsSliceOf.new _ vl vu vs) pl pu ps (by rcases hi with rfl | rfl <;> decide) ?_ (by rw [List.size_toArray]; omega)
  rcases hi with rfl | rfl
  · rw [pick_fwd]
    exact ⟨.ref _, _, I5.laid (t' := s4.toks) (o := .lst xs) (fun b ob q => Heap.get?_push_of_some _ q) (Nat.le_refl _) ⟨hz, _, 0, r, Heap.get?_push_size _ rfl⟩, rfl, q _ (I5.hok.fresh (Nat.le_refl _))⟩
  · rw [PySem.W.krv_pick]
    exact ⟨.ref _, _, I5.laid (t' := s4.toks) (o := .lst xs.reverse) (fun b ob q => Heap.get?_push_of_some _ q) (Nat.le_refl _) ⟨by rw [List.length_reverse]; exact hz, _, 0, r.reverse, Heap.get?_push_size _ rfl⟩, rfl, q _ (I5.hok.fresh (Nat.le_refl _))⟩
end
end L2

namespace L2
open PySem PySem.Spec PyProof.Rows
/-! ### text * number -/
section
variable {X : Cx}
theorem op_repS : OpR X (binaryOp .Mult) (fun x y H Q => ∃ (z : Str) (n : Int), x = .str z ∧ y = .int n ∧ MulOk z n ∧ Q (.str (Txt.mul z n)) H) := by
  intro pins s σ H x y v u Q I rx ry h
  obtain ⟨z, n, rfl, rfl, ok, q⟩ := h
  obtain ⟨t, rfl⟩ := rx
  obtain ⟨t', rfl⟩ := ry
  exact SB.mul ok fun t' tk => ⟨.str (Txt.mul z n), H, I.tok _, ⟨_, rfl⟩, q⟩
end
theorem rep_one (c : Nat) : ∀ (n : Nat) (a : Array Nat), ((List.replicate n (#[c] : Array Nat)).foldl (· ++ ·) a) = a ++ (List.replicate n c).toArray
  | 0, a => by simp
  | n + 1, a => by
    rw [List.replicate_succ, List.foldl_cons, rep_one c n, List.replicate_succ]
    apply Array.ext'
    simp
theorem mul_one {c n : Nat} (h : 2 ≤ n) : Txt.mul (⟨#[c]⟩ : Str) (n : Int) = ⟨(List.replicate n c).toArray⟩ := by
  unfold Txt.mul
  have e2 : ((n : Int) == 1 || (⟨#[c]⟩ : Str).length == 0) = false := by
    have : ((n : Int) == 1) = false := beq_eq_false_iff_ne.mpr (by omega)
    rw [this]
    rfl
  rw [if_neg (by omega), e2, if_neg (by decide), Int.toNat_natCast, rep_one]
  simp
end L2

namespace L2
open PySem PySem.Spec PyProof.Rows
/-! ### len(x) by an own __len__ -/
section
variable {X : Cx}
/-- an own function called from within a builtin -/
theorem own_run {CX : CXT} {n : Nat} {f : Addr} {fd : FuncData} {ps : List Str} {sp : Sp} {E : XK} {A : Around} {pins : List (Addr × Obj)} {σ : St} {H : Hp} {s : Shared} {vs : List V} {us : List Value} {Q : VK}
    (F : FnOk X.prog X.w X.K X.mg X.base CX n f fd ps sp) (hb : Binds X.K fd ps []) (hx : Passes CX X E) (sb : Sub X n A) (I : Inv X pins σ H s) (r : Vals vs us) (hsp : sp vs H Q E) :
    wpAny (model X.prog X.w) A (call (.ref f) us) (fun u s' => ∃ v H', Inv X pins σ H' s' ∧ RelV v u ∧ Q v H') X.xe s := by
  have e0 : Env0 X.prog X.w X.K X.mg X.base A X.stack s H := by
    have e := I.env0
    exact ⟨by rw [sb.fr]; exact e.frames, e.mod, e.bs, e.bsz, e.funs, e.frf, e.hok, e.bare⟩
  have hl := F.len _ _ _ _ hsp
  refine wpAny_call (codeAny_mono (F.run A X.stack s H ⟨us, []⟩ us vs _ E sb.room e0 (by
    have := hb s us I.kIn (by rw [List.append_nil, ← r.length]; exact hl)
    simpa using this) r hsp) fun r s' hq => ?_)
  cases r with
  | error e => exact hx pins σ H s e s' I hq
  | ok fl =>
    cases fl with
    | ret w => exact I.after hq
    | next => exact False.elim hq
    | brk => exact False.elim hq
    | cont => exact False.elim hq
def rLenO (C : Addr) (sp : Sp) (E : XK) : List V → Hp → VK → Prop := fun vs H Q => ∃ (a dx : Addr) (fs : List (Str × V)), vs = [.ref a] ∧ H a = some (.ins C dx fs) ∧
  sp [.ref a] H (fun v H' => ∃ n : Nat, v = .int n ∧ n < 9223372036854775808 ∧ Q (.int n) H') E
theorem call_lenO {CX : CXT} {n : Nat} {C f : Addr} {fd : FuncData} {ps : List Str} {ds : List Value} {sp : Sp} {E : XK} (hs : PySem.W.findIn X.K (.ref C) "__len__" = some (some (.ref f))) (hf : PySem.W.isFn X.K (.ref f) = true)
    (F : FnOk X.prog X.w X.K X.mg X.base CX n f fd ps sp) (hr : Room (n + 1) X.A) (hb : Binds X.K fd ps ds) (hd : Vals [] ds) (hx : Passes CX X E) : CallR X (.builtin "len") (rLenO C sp E) := by
  cases hd
  intro pins s σ H xs us Q I r h
  obtain ⟨a, dx, fs, rfl, ha, hsp⟩ := h
  obtain ⟨u, rfl, ru⟩ := vals1 r
  cases (show u = Value.ref a from ru)
  obtain ⟨mA, J, _⟩ := ins_get I.hok ha
  obtain ⟨od, J, _⟩ := J.look
  refine Calls.call_function_entry kind_len plain_len entry_len (args_len1 _) ?_
  unfold Builtin.«len»
  refine wpAny_bind (m := oneArg "len" _) (wpAny_pure ?_)
  refine wpAny_bind (m := callSpecial? (.ref a) (Str.ofString "__len__")) (PySem.W.special_fn (name := "__len__") I.kIn J hs (beq_iff_eq.mp hf) ?_)
  refine wpAny_mono (own_run F hb hx (Sub.in1 ⟨hr, rfl⟩) I (show Vals [V.ref a] [Value.ref a] from .cons rfl .nil) hsp) (fun v s' z => ?_) fun _ _ e => e
  obtain ⟨x, H', I', rx, m, rfl, hm, q⟩ := z
  obtain ⟨tk, rfl⟩ := rx
  refine wpAny_bind (wpAny_holding (wpAny_pure ?_))
  refine wpAny_bind (wpAny_letGo ?_)
  show wpAny _ _ (if ((m : Nat) : Int) < 0 then _ else _) _ _ _
  rw [if_neg (by omega)]
  show wpAny _ _ (if ((m : Nat) : Int) ≥ 2 ^ 63 then _ else _) _ _ _
  rw [if_neg (by omega)]
  exact wpAny_bind (wpAny_mkInt (wpAny_pure ⟨_, rfl, ⟨.int m, H', I'.tok _, ⟨_, rfl⟩, q⟩⟩))
/-- == by an own __eq__ -/
def rEqO (C : Addr) (sp : Sp) (E : XK) : V → V → Hp → VK → Prop := fun x y H Q => ∃ (a b dx dy : Addr) (fs gs : List (Str × V)), x = .ref a ∧ y = .ref b ∧ H a = some (.ins C dx fs) ∧ H b = some (.ins C dy gs) ∧
  sp [.ref a, .ref b] H (fun v H' => ∃ r : Bool, v = .bl r ∧ Q (.bl r) H') E
theorem op_eqO {CX : CXT} {n : Nat} {C f : Addr} {fd : FuncData} {ps : List Str} {ds : List Value} {sp : Sp} {E : XK} (hs : PySem.W.findIn X.K (.ref C) "__eq__" = some (some (.ref f))) (hf : PySem.W.isFn X.K (.ref f) = true)
    (F : FnOk X.prog X.w X.K X.mg X.base CX n f fd ps sp) (hr : Room n X.A) (hb : Binds X.K fd ps ds) (hd : Vals [] ds) (hx : Passes CX X E) : OpR X (compareOp .Eq) (rEqO C sp E) := by
  cases hd
  intro pins s σ H x y v u Q I rx ry h
  obtain ⟨a, b, dx, dy, fs, gs, rfl, rfl, ha, hb', hsp⟩ := h
  cases rx
  cases ry
  obtain ⟨mA, J, _⟩ := ins_get I.hok ha
  obtain ⟨mB, J', _⟩ := ins_get I.hok hb'
  obtain ⟨od, J, _⟩ := J.look
  obtain ⟨od', J', _⟩ := J'.look
  obtain ⟨m, hF⟩ := I.fr
  show wpAny (model X.prog X.w) X.A (richCompare .Eq (.ref a) (.ref b)) (EP X pins σ Q) X.xe s
  refine PySem.W.cmp_K (op := .Eq) (tb := .ref C) hr.units0 hF I.ok.mod.kin J J'.type (by simp [PySem.W.notFirst]) hs hf ?_
  refine wpAny_mono (own_run F hb hx ⟨hr, rfl⟩ I (show Vals [V.ref a, V.ref b] [Value.ref a, Value.ref b] from .cons rfl (.cons rfl .nil)) hsp) (fun v s' z => ?_) fun _ _ e => e
  obtain ⟨x, H', I', rv, r, rfl, q⟩ := z
  cases rv
  exact ⟨.bl r, H', I', rfl, q⟩
end
end L2

namespace L2
open PySem PySem.Spec PyProof.Rows
/-! ### set(text): its signs; sorted of it -/
def keyT (e : Int × Value) : Str := match e.2 with | .str k _ => k | _ => Str.empty
def GoodT (w : World) (e : Int × Value) : Prop := ∃ k tk, e.2 = Value.str k tk ∧ e.1 = hashStr w k
/-- the set of texts at a: S its members, n their number -/
def SetT (w : World) (h : Heap) (a : Addr) (S : Str → Bool) (n : Nat) : Prop :=
  ∃ o es ep t, h.get? a = some o ∧ o.ExactSet ∧ o.data = .set es ep t ∧ (∀ e ∈ es.toList, GoodT w e) ∧ (es.toList.map keyT).Nodup ∧ (∀ k, S k = true ↔ k ∈ es.toList.map keyT) ∧
    es.size < scanBound ∧ t.fits es.size = true ∧ es.size = n ∧ Ris t.place.toList ∧ (w.params.followText "set-order" = true ∨ t.led = true)
section
variable {P : Program} {w : World} {h h' : Heap} {a : Addr} {S : Str → Bool} {n : Nat}
theorem SetT.at (R : SetT w h a S n) (k : ∀ o, h.get? a = some o → h'.get? a = some o) : SetT w h' a S n := by
  obtain ⟨o, es, ep, t, ho, r⟩ := R
  exact ⟨o, es, ep, t, k o ho, r⟩
theorem goodT_elems {l : List (Int × Value)} (g : ∀ e ∈ l, GoodT w e) : ElemsOf (PySem.strKind P w) l := fun e he => by
  obtain ⟨k, tk, h1, h2⟩ := g e he
  exact ⟨⟨k, by rw [h1]; exact strKind_is P w k tk, h2⟩, by rw [h1] <;> rfl⟩
theorem goodT_is {e : Int × Value} (g : GoodT w e) (k : Str) : (PySem.strKind P w).is k e.2 = true ↔ keyT e = k := by
  obtain ⟨k0, tk, h1, _⟩ := g
  unfold keyT
  rw [h1]
  exact ⟨fun q => (PySem.strKind P w).inj _ _ _ (strKind_is P w k0 tk) q, fun q => by subst q; exact strKind_is P w _ tk⟩
theorem goodT_mem {l : List (Int × Value)} (g : ∀ e ∈ l, GoodT w e) (k : Str) : k ∈ l.map keyT ↔ ∃ e ∈ l, (PySem.strKind P w).is k e.2 = true := by
  rw [List.mem_map]
  constructor
  · rintro ⟨e, he, q⟩
    exact ⟨e, he, (goodT_is (g e he) k).2 q⟩
  · rintro ⟨e, he, q⟩
    exact ⟨e, he, (goodT_is (g e he) k).1 q⟩
end
section
variable {P : Program} {w : World} {A : Around} {E : Value → Shared → Prop} {s : Shared} {a : Addr} {S : Str → Bool} {n : Nat}
theorem setT_add_tail {g : Bool → Sem Unit} (hg : ∀ (b : Bool) (s₁ : Shared) (Q' : Unit → Shared → Prop), Q' () s₁ → wpAny (model P w) A (g b) Q' E s₁)
    {o : Obj} {es : Array (Int × Value)} {ep : Nat} {t : SetTable} (ho : s.heap.get? a = some o) (hex : o.ExactSet) (hd : o.data = .set es ep t)
    {es1 : Array (Int × Value)} {t2 : SetTable} {S' : Str → Bool} (g1 : ∀ e ∈ es1.toList, GoodT w e) (nd1 : (es1.toList.map keyT).Nodup) (m1 : ∀ k, S' k = true ↔ k ∈ es1.toList.map keyT)
    (hb1 : es1.size < scanBound) (hf2 : t2.fits es1.size = true) (hr : Ris t2.place.toList) (hl : w.params.followText "set-order" = true ∨ t2.led = true) {wasDummy : Bool} {R : Option Bool → Shared → Prop}
    (hR : ∀ h', Heap.SameBut a s.heap h' → SetT w h' a S' es1.size → R (some true) { s with heap := h' }) :
    wpAny (model P w) A (do
        storeSet a es1 t2
        if (!wasDummy && t2.tooFull) = true then do
            g (relayAll t2 es1 (SetTable.grown es1.size)).2.2
            storeSet a (relayAll t2 es1 (SetTable.grown es1.size)).1 (relayAll t2 es1 (SetTable.grown es1.size)).2.1
            pure (some true)
          else pure (some true)) R E s := by
  refine wpAny_bind (wpAny_storeSet_of ho hd ?_ (fits_of_scanBound hb1))
  have ho1 := store_at (es' := es1) (t' := t2) ho hd
  have sb1 := Heap.SameBut.update s.heap a (Obj.putSet es1 t2)
  split
  · have pm := relayAll_perm t2 es1 (SetTable.grown es1.size)
    have hf3 := relayAll_fits t2 es1 (SetTable.grown es1.size)
    have hr3 := relayAll_ris t2 es1 (SetTable.grown es1.size)
    have hl3 := relayAll_led t2 es1 (SetTable.grown es1.size)
    generalize relayAll t2 es1 (SetTable.grown es1.size) = Z at pm hf3 hr3 hl3 ⊢
    obtain ⟨es2, t3, gave⟩ := Z
    dsimp only at pm hf3 hr3 hl3 ⊢
    have hsz : es2.size = es1.size := by rw [← Array.length_toList, pm.length_eq, Array.length_toList]
    have hb2 : es2.size < scanBound := by rw [hsz]; exact hb1
    refine wpAny_bind (hg _ _ _ ?_)
    refine wpAny_bind (wpAny_storeSet_of ho1 rfl ?_ (fits_of_scanBound hb2))
    have ho2 := store_at (es' := es2) (t' := t3) ho1 rfl
    refine wpAny_pure (hR _ (sb1.trans (Heap.SameBut.update _ a _)) ?_)
    exact ⟨_, es2, _, t3, ho2, hex, rfl, fun e he => g1 e (pm.mem_iff.mp he), (pm.map keyT).nodup_iff.mpr nd1, fun k => (m1 k).trans (pm.map keyT).mem_iff.symm, hb2, hf3, hsz, hr3,
      hl.imp id fun z => by rw [hl3]; exact z⟩
  · exact wpAny_pure (hR _ sb1 ⟨_, es1, _, t2, ho1, hex, rfl, g1, nd1, m1, hb1, hf2, rfl, hr, hl⟩)
theorem setT_add_hashed {k : Str} {tk : Tok} {Q : Bool → Shared → Prop} (R : SetT w s.heap a S n) (room : n + 1 < scanBound)
    (hQ : ∀ h', Heap.SameBut a s.heap h' → SetT w h' a (fun j => S j || decide (j = k)) (if S k = true then n else n + 1) → Q (!S k) { s with heap := h' }) :
    wpAny (model P w) A (setAddHashed a (.str k tk) ((PySem.strKind P w).hash k)) Q E s := by
  obtain ⟨o, es, ep, t, ho, hex, hd, g, nd, hm, hb, hf, hn, hr, hl⟩ := R
  have hkey : (PySem.strKind P w).is k (.str k tk) = true := strKind_is P w k tk
  have hsc : (Value.str k tk).scannable = true := rfl
  have hel : ElemsOf (PySem.strKind P w) es.toList := goodT_elems g
  unfold setAddHashed setAddHashedIn
  refine wpAny_holding (wpAny_bind (wpAny_setState_of ho hd hf ?_))
  dsimp only
  rw [byScan_of hsc hb hel]
  simp only [↓reduceIte]
  unfold setAddByScan
  refine wpAny_bind ?_
  refine wpAny_bind (wpAny_rule ?_)
  refine wpAny_bind (wpAny_setScan_of hkey ho hd hf hel ?_)
  cases hfi : List.findIdx? (fun e => (PySem.strKind P w).is k e.2) es.toList with
  | some j =>
    dsimp only
    obtain ⟨hj, pj, _⟩ := List.findIdx?_eq_some_iff_getElem.mp hfi
    have hSk : S k = true := (hm k).2 ((goodT_mem (P := P) (w := w) g k).2 ⟨es.toList[j], List.getElem_mem hj, pj⟩)
    refine wpAny_pure (wpAny_pure ?_)
    have q := hQ s.heap (Heap.SameBut.refl a s.heap) ⟨o, es, ep, t, ho, hex, hd, g, nd, fun i => by
      rw [Bool.or_eq_true, decide_eq_true_eq, ← hm i]
      exact ⟨fun z => z.elim id (fun e => e ▸ hSk), .inl⟩, hb, hf, by rw [if_pos hSk]; exact hn, hr, hl⟩
    rw [hSk] at q
    exact q
  | none =>
    dsimp only
    have hnk : k ∉ es.toList.map keyT := fun z => by
      obtain ⟨e, he, q⟩ := (goodT_mem (P := P) (w := w) g k).1 z
      have c := List.findIdx?_eq_none_iff.mp hfi e he
      rw [q] at c
      cases c
    have hSk : S k = false := by
      cases q : S k with
      | false => rfl
      | true => exact absurd ((hm k).1 q) hnk
    have hgw : ∀ (b : Bool) {s₁ : Shared} {Q' : Unit → Shared → Prop}, Q' () s₁ → wpAny (model P w) A (match b with | true => rule "set.scan.the-table-gave-way" | false => pure ()) Q' E s₁ :=
      fun b s₁ Q' q => by cases b <;> first | exact wpAny_pure q | exact wpAny_rule q
    have pm := layNew_perm t es ((PySem.strKind P w).hash k) (.str k tk)
    have hf1 := layNew_fits t es ((PySem.strKind P w).hash k) (.str k tk)
    have hr1 := layNew_ris t es ((PySem.strKind P w).hash k) (.str k tk) hr
    have hl1 := layNew_led t es ((PySem.strKind P w).hash k) (.str k tk)
    generalize layNew t es ((PySem.strKind P w).hash k) (.str k tk) = Z at pm hf1 hr1 hl1 ⊢
    obtain ⟨es1, t1, wasDummy, gave⟩ := Z
    dsimp only at pm hf1 hr1 hl1 ⊢
    rw [Array.toList_push] at pm
    have pc : es1.toList.Perm (((PySem.strKind P w).hash k, Value.str k tk) :: es.toList) := pm.trans (List.perm_append_singleton _ _)
    have pk : (es1.toList.map keyT).Perm (k :: es.toList.map keyT) := pc.map keyT
    have g1 : ∀ e ∈ es1.toList, GoodT w e := fun e he => by
      rcases List.mem_cons.mp (pc.mem_iff.mp he) with z | z
      · rw [z]; exact ⟨k, tk, rfl, rfl⟩
      · exact g e z
    have nd1 : (es1.toList.map keyT).Nodup := pk.nodup_iff.mpr (List.nodup_cons.mpr ⟨hnk, nd⟩)
    have m1 : ∀ i, (S i || decide (i = k)) = true ↔ i ∈ es1.toList.map keyT := fun i => by
      rw [Bool.or_eq_true, decide_eq_true_eq, hm i, pk.mem_iff, List.mem_cons]
      exact Or.comm
    have hsz : es1.size = n + 1 := by rw [← Array.length_toList, pc.length_eq, List.length_cons, Array.length_toList, hn]
    have hb1 : es1.size < scanBound := by rw [hsz]; exact room
    have hled : w.params.followText "set-order" = true ∨ t1.led = true := hl.imp id fun z => by rw [hl1]; exact z
    have fin : ∀ h', Heap.SameBut a s.heap h' → SetT w h' a (fun j => S j || decide (j = k)) es1.size → Q true { s with heap := h' } := fun h' sb r => by
      have q := hQ h' sb
      rw [hSk] at q
      rw [hsz] at r
      exact q r
    refine wpAny_bind (hgw _ ?_)
    split
    · refine wpAny_bind ?_
      rw [hashByValue_scannable 8 hsc]
      refine wpAny_pure ?_
      refine setT_add_tail ?_ ho hex hd g1 nd1 m1 hb1 ?_ ?_ ?_ ?_
      · intro b s₁ Q' q; cases b <;> first | exact wpAny_pure q | exact wpAny_rule q
      · first | (split <;> first | exact hf1 | exact SetTable.fits_plain_off hf1) | exact hf1
      · first | (split <;> exact hr1) | exact hr1
      · first | (split <;> exact hled) | exact hled
      · intro h' sb r; dsimp only; exact wpAny_pure (fin h' sb r)
    · refine wpAny_bind (wpAny_pure ?_)
      simp only [↓reduceIte]
      refine setT_add_tail ?_ ho hex hd g1 nd1 m1 hb1 hf1 hr1 hled ?_
      · intro b s₁ Q' q; cases b <;> first | exact wpAny_pure q | exact wpAny_rule q
      · intro h' sb r; dsimp only; exact wpAny_pure (fin h' sb r)
end
/-- the signs of a text up to a place, as texts -/
def sgnT (x : Str) (i : Nat) (k : Str) : Bool := ((x.cps.toList.take i).map fun c => (⟨#[c]⟩ : Str)).any (· == k)
theorem sgnT_succ {x : Str} {i c : Nat} (h : x.cps[i]? = some c) (k : Str) : sgnT x (i + 1) k = (sgnT x i k || decide (k = ⟨#[c]⟩)) := by
  have e : x.cps.toList[i]? = some c := by rw [Array.getElem?_toList]; exact h
  unfold sgnT
  rw [List.take_add_one, e, List.map_append, List.any_append]
  congr 1
  show ((⟨#[c]⟩ : Str) == k || false) = decide (k = ⟨#[c]⟩)
  rw [Bool.or_false]
  by_cases q : k = ⟨#[c]⟩
  · rw [q, beq_self_eq_true, decide_eq_true rfl]
  · rw [decide_eq_false q]
    exact beq_eq_false_iff_ne.mpr fun z => q z.symm
section
variable {prog : Program} {w : World} {A : Around} {R : Result → Shared → Prop} {I : Addr} {fp wr : List Addr} {G : Array GenState → Array GenState → Prop} {St : Nat → Shared → Prop} {x : Str}
theorem loopT (W : WalksS prog w A.in1 I fp wr G x.cps.size (SignAt x) St) (S : Addr) (hSf : S ∉ fp) (hb : x.cps.size + 1 < scanBound) :
    ∀ (k i m : Nat) (s : Shared), x.cps.size - i = k → i ≤ x.cps.size → St i s → m ≤ i → SetT w s.heap S (sgnT x i) m →
      (∀ s' m', Moved (S :: wr) G s s' → m' ≤ x.cps.size → SetT w s'.heap S (sgnT x x.cps.size) m' → R (.ok (.ret .none)) s') →
      codeAny (model prog w) A (.builtin "set.update.loop" ⟨[.ref S, .ref I], []⟩) R s := by
  have hSw : S ∉ wr := fun h => hSf (W.sub _ h)
  have hsub : ∀ b ∈ wr, b ∈ S :: wr := fun b hb => List.mem_cons_of_mem _ hb
  intro k
  induction k with
  | zero =>
    intro i m s hk hi hst hm0 hS hR
    have hin : i = x.cps.size := by omega
    refine codeAny_builtin F.entry_set_update_loop ?_
    rw [Around.under_plainId F.plain_set_update_loop _]
    show wpAny _ A.in1 (pyNext (.ref I) >>= _) _ _ s
    refine wpAny_bind (W.done s _ _ (hin ▸ hst) fun s' hm => ?_)
    show wpAny _ A.in1 (ret Value.none) _ _ s'
    refine wpAny_pure (hR s' m (hm.mono hsub) (by omega) ?_)
    rw [← hin]
    exact hS.at fun o ho => hm.heap S _ hSw ho
  | succ k ih =>
    intro i m s hk hi hst hm0 hS hR
    have hlt : i < x.cps.size := by omega
    refine codeAny_builtin F.entry_set_update_loop ?_
    rw [Around.under_plainId F.plain_set_update_loop _]
    show wpAny _ A.in1 (pyNext (.ref I) >>= _) _ _ s
    refine wpAny_bind (W.item i s _ _ hlt hst fun v s' hP hst' hm => ?_)
    obtain ⟨c, t, hc, rfl⟩ := hP
    have hS' : SetT w s'.heap S (sgnT x i) m := hS.at fun o ho => hm.heap S _ hSw ho
    show wpAny _ A.in1 (holding [Value.str ⟨#[c]⟩ t] (setAdd S (.str ⟨#[c]⟩ t)) >>= _) _ _ s'
    refine wpAny_bind (wpAny_holding ?_)
    unfold setAdd
    refine wpAny_holding ?_
    refine wpAny_bind ((PySem.strKind prog w).pyHash (k := (⟨#[c]⟩ : Str)) (strKind_is _ _ _ _) ?_)
    refine setT_add_hashed (s := { s' with toks := s'.toks + 1 }) hS' (by omega) fun h' hsb hS2 => ?_
    have hSi : SetT w h' S (sgnT x (i + 1)) (if sgnT x i ⟨#[c]⟩ = true then m else m + 1) := by
      have e : (fun j => sgnT x i j || decide (j = ⟨#[c]⟩)) = sgnT x (i + 1) := funext fun j => (sgnT_succ hc j).symm
      rw [← e]
      exact hS2
    refine wpAny_pure ⟨plainId_quiet F.plain_set_update_loop _, ih (i + 1) _ _ (by omega) hlt (W.frame _ s' _ _ hst' (Nat.le_succ _) fun b hb o e => ?_) (by split <;> omega) hSi fun s'' m' hm'' hz hS'' => ?_⟩
    · rw [hsb.2 b (fun h : b = S => hSf (by rw [← h]; exact hb))]; exact e
    · refine hR s'' m' (Moved.trans W.gtrans ((hm.mono hsub).then_heap (Nat.le_succ _) fun b o hb e => ?_) hm'') hz hS''
      rw [hsb.2 b (fun h : b = S => hb (by rw [h]; exact List.mem_cons_self))]; exact e
end
section
variable {prog : Program} {w : World} {A : Around} {E : Value → Shared → Prop} {s : Shared}
theorem code_set_led1 (a : Value) {Q₁ : Value → Shared → Prop}
    (h : Q₁ (.ref s.heap.objs.size) { s with heap := s.heap.push { cls := .type "set", dict := none, data := .set #[] 0 (.fresh 0 0 (!w.params.followText "set-order")) } }) :
    codeAny (model prog w) A (.call (.builtin "set.__new__") ⟨[.type "set", a], []⟩) (wants Q₁ E) s := by
  refine codeAny_of_tree ?_
  show wpAny _ A.in1 (do checkBuiltinCall "set.__new__" ⟨[.type "set", a], []⟩; again (.builtin "set.__new__" ⟨[.type "set", a], []⟩)) _ _ s
  refine wpAny_bind (wpAny_of_eq (F.newCall_set_1 a) (wpAny_pure ⟨plainId_quiet F.plain_set_new _, codeAny_builtin F.entry_set_new ?_⟩))
  rw [Around.under_plainId F.plain_set_new _]
  unfold Builtin.«set.__new__» Builtin.Frozenset.newClass
  have hsub := sub_set_self
  obtain ⟨hp, g, d, tk, os⟩ := s
  dsimp only
  wp_walk
  refine wpAny_askSetting (wpAny_pure ?_)
  dsimp only
  simp only [newObj]
  refine wpAny_bind (wpAny_alloc (wpAny_pure ?_))
  exact wpAny_pure h
theorem setT_fresh {h : Heap} (w : World) : SetT w (h.push { cls := .type "set", dict := none, data := .set #[] 0 (.fresh 0 0 (!w.params.followText "set-order")) }) h.objs.size (fun _ => false) 0 :=
  ⟨_, #[], 0, _, Heap.get?_push_size _ rfl, ⟨rfl, rfl, rfl⟩, rfl, (fun e he => by simp at he), (by simp), (fun k => by simp), (by decide), (by rfl), rfl, List.Pairwise.nil, by
    show _ ∨ (!w.params.followText "set-order") = true
    cases w.params.followText "set-order"
    · exact .inr rfl
    · exact .inl rfl⟩
theorem sub_str_set : isSubtype (.type "str") (.type "set") = pure false := by rw [isSubtype_type]; kernel_rfl
theorem sub_str_frozenset : isSubtype (.type "str") (.type "frozenset") = pure false := by rw [isSubtype_type]; kernel_rfl
set_option maxHeartbeats 3200000 in
theorem call_set_str {x : Str} {t : Tok} {Q : Value → Shared → Prop}
    (hh : A.handled = none) (hb : x.cps.size + 1 < scanBound)
    (h : ∀ (h' : Heap) (tk m : Nat), m ≤ x.cps.size → SetT w h' s.heap.objs.size (sgnT x x.cps.size) m →
      (∀ b o, b < s.heap.objs.size → s.heap.get? b = some o → h'.get? b = some o) → Q (.ref s.heap.objs.size) { s with heap := h', toks := tk }) :
    wpAny (model prog w) A (call (.type "set") [.str x t]) Q E s := by
  obtain ⟨c, tl, hmro⟩ := PySem.F.called_set.mro
  have hmade := PySem.F.called_set.made
  have hsub := PySem.F.called_set.sub
  refine wpAny_call (codeAny_of_tree ?_)
  show wpAny _ _ (callAny (.type "set") _) _ _ _
  refine wpAny_pure ⟨Code.quiet_builtin _ (by decide +kernel), codeAny_builtin PySem.F.entry_type_call ?_⟩
  rw [Around.under_plain (weight_type_call_type "set" [.str x t] []) rfl]
  have h1 := PySem.F.called_set.notType
  have h2 := PySem.F.called_set.canCreate
  have hct := PySem.F.typeCall_set_1 (.str x t)
  repeat (any_goals (first | assumption | wp_step))
  refine codeAny_mono (code_set_led1 (.str x t) (E := E) (Q₁ := fun obj s₁ => obj = .ref s.heap.objs.size ∧ s₁ = { s with heap := s.heap.push { cls := .type "set", dict := none, data := .set #[] 0 (.fresh 0 0 (!w.params.followText "set-order")) } }) ⟨rfl, rfl⟩) fun r s₁ hr => ?_
  cases r with
  | error e => exact hr
  | ok fl =>
    cases fl with
    | ret obj =>
      obtain ⟨rfl, rfl⟩ := hr
      have hS : (s.heap.push { cls := .type "set", dict := none, data := .set #[] 0 (.fresh 0 0 (!w.params.followText "set-order")) }).get? s.heap.objs.size = some { cls := .type "set", dict := none, data := .set #[] 0 (.fresh 0 0 (!w.params.followText "set-order")) } := Heap.get?_push_size _ rfl
      have hT : Shared.TypeIs { s with heap := s.heap.push { cls := .type "set", dict := none, data := .set #[] 0 (.fresh 0 0 (!w.params.followText "set-order")) } } (.ref s.heap.objs.size) "set" := ⟨_, hS, rfl⟩
      have hli := PySem.F.called_set.init.lookup
      have hbi := PySem.F.called_set.init.bind (.ref s.heap.objs.size)
      repeat (any_goals (first | assumption | wp_step))
      refine codeAny_mono (codeAny_call_builtin (R := wants (fun r s₂ => r = .none ∧ ∃ h' tk m, s₂ = { s with heap := h', toks := tk } ∧ m ≤ x.cps.size ∧
          SetT w h' s.heap.objs.size (sgnT x x.cps.size) m ∧
          (∀ b o, b < s.heap.objs.size → s.heap.get? b = some o → h'.get? b = some o)) E) PySem.F.called_set.init.plain PySem.F.entry_set_init (check_set_init_1 hT ?_)) fun r₂ s₂ hr₂ => ?_
      · have hsls := sub_str_set
        have hslf := sub_str_frozenset
        have hne : (Value.type "str" == Value.type "dict") = false := by decide
        unfold Builtin.«set.__init__» noKeywords Builtin.Frozenset.updateFrom
        generalize hPI : pyIter = PI
        wp_walk
        subst hPI
        refine wpAny_pyIter_str (s := { s with heap := s.heap.push { cls := .type "set", dict := none, data := .set #[] 0 (.fresh 0 0 (!w.params.followText "set-order")) } }) fun oi St hW hst => ?_
        refine wpAny_bind (wpAny_runValue ?_)
        have hSf : s.heap.objs.size ∉ [(s.heap.push { cls := .type "set", dict := none, data := .set #[] 0 (.fresh 0 0 (!w.params.followText "set-order")) }).objs.size] := by
          rw [Heap.size_push]; simp only [List.mem_singleton]
          exact Nat.ne_of_lt (Nat.lt_succ_self _)
        refine loopT ((hW _ (by simp [hh])).toS) s.heap.objs.size hSf hb (x.cps.size - 0) 0 0 _ (by omega) (Nat.zero_le _) hst (Nat.le_refl _) ?hS0 ?hR
        case hS0 =>
          exact (setT_fresh w).at fun o ho => Heap.get?_push_of_some _ ho
        case hR =>
          intro s' m' hm hz hS'
          obtain ⟨h', g', d', tk', os'⟩ := s'
          have eg : g' = s.gens := hm.gens
          have ed : d' = s.drawn := hm.drawn
          have eo : os' = s.os := hm.os
          subst eg; subst ed; subst eo
          show wpAny _ _ _ _ _ _
          refine wpAny_pure ?_
          show wpAny _ _ (ret Value.none) _ _ _
          refine wpAny_pure ⟨rfl, h', tk', m', rfl, hz, hS', fun b o hb e => ?_⟩
          have hb1 : b ≠ s.heap.objs.size := Nat.ne_of_lt hb
          have hb2 : b ≠ (s.heap.push { cls := .type "set", dict := none, data := .set #[] 0 (.fresh 0 0 (!w.params.followText "set-order")) }).objs.size := by
            rw [Heap.size_push]; exact Nat.ne_of_lt (Nat.lt_succ_of_lt hb)
          exact hm.heap b o (by simp only [List.mem_cons, List.not_mem_nil, or_false, not_or]; exact ⟨hb1, hb2⟩) (Heap.get?_push_of_some _ (Heap.get?_push_of_some _ e))
      · cases r₂ with
        | error e => exact hr₂
        | ok fl₂ =>
          cases fl₂ with
          | ret r =>
            obtain ⟨rfl, h', tk, m, rfl, hz, hS', hk'⟩ := hr₂
            repeat (any_goals (first | assumption | wp_step))
            exact h _ _ _ hz hS' hk'
          | _ => exact hr₂.elim
    | _ => exact hr.elim
theorem strs_of : ∀ (l : List Value), (∀ v ∈ l, ∃ k tk, v = Value.str k tk) → StrsAre l (l.map fun v => match v with | .str k _ => k | _ => Str.empty)
  | [], _ => .nil
  | v :: l, h => by
    obtain ⟨k, tk, rfl⟩ := h v List.mem_cons_self
    exact .cons k tk (strs_of l fun u hu => h u (List.mem_cons_of_mem _ hu))
theorem sorted_setT {a : Addr} {S : Str → Bool} {n : Nat} {Q : Value → Shared → Prop} (R : SetT w s.heap a S n) (hh : A.handled = none)
    (hQ : ∀ s' p (out : Array Value) (c : Nat) (ys : List Str), (∀ b o, s.heap.get? b = some o → s'.heap.get? b = some o) → s'.gens = s.gens → s'.os = s.os → s.heap.objs.size ≤ p →
      s'.heap.get? p = some (seqObj "list" out c) → StrsAre out.toList ys → sortedS ys = true → ys.Nodup → (∀ k, k ∈ ys ↔ S k = true) → ys.length = n → Q (.ref p) s') :
    wpAny (model prog w) A (call (.builtin "sorted") [.ref a]) Q E s := by
  obtain ⟨o, es, ep, t, ho, hex, hd, g, nd, hm, hb, hf, hn, hr, hl⟩ := R
  refine Calls.call_function_entry kind_sorted plain_sorted entry_sorted (args_sorted1 _) ?_
  unfold Builtin.«sorted»
  refine wpAny_bind (m := checkCount "sorted" 1 1 _) (wpAny_pure ?_)
  refine wpAny_bind (collect_set (A := A.in1) hh ⟨o, ho, hex.1, hd⟩ hf hb hr hl fun s1 vs k1 hz g1 o1 pm => ?_)
  have hvl : vs.length = n := by rw [pm.length_eq, List.length_map, Array.length_toList]; exact hn
  have hnz : n ≤ sizeLine := by rw [← hn]; exact fits_of_scanBound hb
  have hI : StrsAre vs (vs.map fun v => match v with | .str k _ => k | _ => Str.empty) := strs_of vs fun v hv => by
    obtain ⟨e, he, q⟩ := List.mem_map.mp (pm.mem_iff.mp hv)
    obtain ⟨k, tk, h1, _⟩ := g e he
    exact ⟨k, tk, by rw [← q]; exact h1⟩
  have pk : (vs.map fun v => match v with | .str k _ => k | _ => Str.empty).Perm (es.toList.map keyT) := by
    have q := pm.map (fun v => match v with | .str k _ => k | _ => Str.empty)
    rw [List.map_map] at q
    exact q
  refine wpAny_bind (wpAny_newList ?_ (by rw [hvl]; exact hnz))
  have hoL : (s1.heap.push (seqObj "list" vs.toArray 0)).get? s1.heap.objs.size = some (seqObj "list" vs.toArray 0) := Heap.get?_push_size _ rfl
  refine wpAny_bind (wpAny_holding (wpAny_call_entry slot_list_sort ⟨_, hoL, rfl⟩ entry_list_sort (list_sort_treeKAny strKind_oneLt hoL hI.keysOf (fun v₁ v₂ rest e => keyKind_strs (by rw [← e]; exact hI)) (by rw [hvl]; exact hnz) fun st' b1 b2 => ⟨_, rfl, ?_⟩) (args_list_sort _)))
  obtain ⟨ys, a1, a2, a3⟩ := sorted_out_str hI b1 b2
  obtain ⟨c, hc⟩ := sortedHeap_at (vs := vs) (out := (arrOf st').map (·.2)) hoL
  have pn : ys.Perm (es.toList.map keyT) := a2.trans pk
  refine wpAny_pure ⟨_, rfl, hQ _ s1.heap.objs.size _ c ys (fun b u e => ?_) g1 o1 hz hc a1 a3 (pn.nodup_iff.mpr nd) (fun k => by rw [pn.mem_iff, ← hm k]) ?_⟩
  · have q := k1 b u e
    have hlt := Heap.lt_size q
    show (sortedHeap (s1.heap.push (seqObj "list" vs.toArray 0)) s1.heap.objs.size vs ((arrOf st').map (·.2))).get? b = some u
    rw [sortedHeap_old (Nat.ne_of_lt hlt) (by rw [size_push']; exact Nat.lt_succ_of_lt hlt)]
    exact Heap.get?_push_of_some _ q
  · rw [pn.length_eq, List.length_map, Array.length_toList]; exact hn
end
/-- the set of texts at a -/
def SetTO (w : World) (a : Addr) (S : Str → Bool) (n : Nat) : HO := .ext fun h => SetT w h a S n
section
variable {X : Cx}
theorem setTO_new {w : World} {P : Program} {H : Hp} {h : Heap} {a : Addr} {S : Str → Bool} {n : Nat} (R : SetT w h a S n) : ObjOk P w H h a (SetTO w a S n) := by
  have ⟨o, _, _, _, ho, _⟩ := R
  exact ⟨R, ⟨o, ho⟩, fun h1 h2 p k => SetT.at p k⟩
theorem setTO_get {pins : List (Addr × Obj)} {σ : St} {H : Hp} {s : Shared} {a : Addr} {S : Str → Bool} {n : Nat} (I : Inv X pins σ H s) (ha : H a = some (SetTO X.w a S n)) : SetT X.w s.heap a S n := (I.hok a _ ha).1
/-- set(text) -/
def rSetT (w : World) : List V → Hp → VK → Prop := fun xs H Q => ∃ x : Str, xs = [.str x] ∧ x.cps.size + 1 < scanBound ∧ ∀ p m, m ≤ x.cps.size → H p = none → Q (.ref p) (upd H p (SetTO w p (sgnT x x.cps.size) m))
theorem call_setT (hc : X.calm = true) : CallR X (.type "set") (rSetT X.w) := by
  intro pins s σ H xs us Q I r h
  obtain ⟨x, rfl, hz, q⟩ := h
  obtain ⟨u, rfl, ru⟩ := vals1 r
  obtain ⟨t, rfl⟩ := ru
  refine call_set_str (I.ok.hd hc) hz fun h' tk m hm hS hk => ?_
  exact ⟨.ref s.heap.objs.size, _, I.laid (t' := tk) (a := s.heap.objs.size) (o := SetTO X.w s.heap.objs.size (sgnT x x.cps.size) m) (fun b o z => hk b o (Heap.lt_size z) z) (Nat.le_refl _) (setTO_new hS), rfl, q _ m hm (I.hok.fresh (Nat.le_refl _))⟩
/-- sorted(set of texts) -/
def rSortedSetT (w : World) : List V → Hp → VK → Prop := fun vs H Q => ∃ (a : Addr) (S : Str → Bool) (n : Nat), vs = [V.ref a] ∧ H a = some (SetTO w a S n) ∧ n ≤ 40000 ∧
  ∀ (ys : List Str) (p : Addr), sortedS ys = true → ys.Nodup → (∀ k : Str, k ∈ ys ↔ S k = true) → ys.length = n → H p = none → Q (.ref p) (upd H p (.lst (ys.map V.str)))
theorem call_sortedSetT (hc : X.calm = true) : CallR X (.builtin "sorted") (rSortedSetT X.w) := by
  intro pins s σ H vs us Q I r h
  obtain ⟨a, S, n, rfl, ha, hz, q⟩ := h
  have R := setTO_get I ha
  rw [Vals.ref1 r]
  refine sorted_setT R (I.ok.hd hc) fun s' p out c ys k g o hp hg hi hs hd hm hl => ?_
  have hlen : (ys.map V.str).length ≤ sizeLine := by rw [List.length_map, hl]; exact Nat.le_trans hz (by decide)
  have hn : H p = none := I.hok.fresh hp
  have J : Inv X pins σ (upd H p (.lst (ys.map V.str))) { s with heap := s'.heap, gens := s'.gens, drawn := s'.drawn, toks := s'.toks } :=
    I.call (ch := []) (Un.laid k hp hn) (I.hok.laid k hp ⟨hlen, out.toList, c, vals_of_strs hi, hg⟩) (by rw [g]; exact I.bare) (fun _ z => nomatch z)
  have e : s' = { s with heap := s'.heap, gens := s'.gens, drawn := s'.drawn, toks := s'.toks } := by
    cases s'
    cases s
    cases o
    rfl
  rw [e]
  exact ⟨.ref p, _, J, rfl, q ys p hs hd hm hl hn⟩
/-- tuple(list) -/
def rTupL (K : PySem.W.Frag) : List V → Hp → VK → Prop := fun xs H Q => ∃ p ys, xs = [.ref p] ∧ SqL K H p ys ∧ ∀ l, H l = none → Q (.ref l) (upd H l (.tup ys))
theorem call_tupleL {K : PySem.W.Frag} (hK : X.K = K := by rfl) : CallR X (.type "tuple") (rTupL K) := by
  subst hK
  intro pins s σ H xs us Q I r h
  obtain ⟨p, ys, e, hS, q⟩ := h
  exact call_tuple_of pins s σ H xs us Q I r ⟨p, ys, e, .inl ⟨hS, q⟩⟩
end
end L2

namespace L2
open PySem PySem.Spec PyProof.Rows
/-! ### frozenset(list of texts), == of two -/
/-- the set of texts at a, of whatever class -/
def SetX (Ex : Obj → Prop) (w : World) (h : Heap) (a : Addr) (S : Str → Bool) (n : Nat) : Prop :=
  ∃ o es ep t, h.get? a = some o ∧ Ex o ∧ o.data = .set es ep t ∧ (∀ e ∈ es.toList, GoodT w e) ∧ (es.toList.map keyT).Nodup ∧ (∀ k, S k = true ↔ k ∈ es.toList.map keyT) ∧
    es.size < scanBound ∧ t.fits es.size = true ∧ es.size = n ∧ Ris t.place.toList ∧ (w.params.followText "set-order" = true ∨ t.led = true)
def ExFz (o : Obj) : Prop := o.cls = .type "frozenset" ∧ o.dict = none ∧ o.slots = #[]
section
variable {P : Program} {w : World} {A : Around} {E : Value → Shared → Prop} {s : Shared} {a : Addr} {S : Str → Bool} {n : Nat} {Ex : Obj → Prop}
theorem SetX.at {h h' : Heap} (R : SetX Ex w h a S n) (k : ∀ o, h.get? a = some o → h'.get? a = some o) : SetX Ex w h' a S n := by
  obtain ⟨o, es, ep, t, ho, r⟩ := R
  exact ⟨o, es, ep, t, k o ho, r⟩
theorem setX_add_tail (hE : ∀ (o : Obj) d, Ex o → Ex { o with data := d }) {g : Bool → Sem Unit} (hg : ∀ (b : Bool) (s₁ : Shared) (Q' : Unit → Shared → Prop), Q' () s₁ → wpAny (model P w) A (g b) Q' E s₁)
    {o : Obj} {es : Array (Int × Value)} {ep : Nat} {t : SetTable} (ho : s.heap.get? a = some o) (hex : Ex o) (hd : o.data = .set es ep t)
    {es1 : Array (Int × Value)} {t2 : SetTable} {S' : Str → Bool} (g1 : ∀ e ∈ es1.toList, GoodT w e) (nd1 : (es1.toList.map keyT).Nodup) (m1 : ∀ k, S' k = true ↔ k ∈ es1.toList.map keyT)
    (hb1 : es1.size < scanBound) (hf2 : t2.fits es1.size = true) (hr : Ris t2.place.toList) (hl : w.params.followText "set-order" = true ∨ t2.led = true) {wasDummy : Bool} {R : Option Bool → Shared → Prop}
    (hR : ∀ h', Heap.SameBut a s.heap h' → SetX Ex w h' a S' es1.size → R (some true) { s with heap := h' }) :
    wpAny (model P w) A (do
        storeSet a es1 t2
        if (!wasDummy && t2.tooFull) = true then do
            g (relayAll t2 es1 (SetTable.grown es1.size)).2.2
            storeSet a (relayAll t2 es1 (SetTable.grown es1.size)).1 (relayAll t2 es1 (SetTable.grown es1.size)).2.1
            pure (some true)
          else pure (some true)) R E s := by
  refine wpAny_bind (wpAny_storeSet_of ho hd ?_ (fits_of_scanBound hb1))
  have ho1 := store_at (es' := es1) (t' := t2) ho hd
  have sb1 := Heap.SameBut.update s.heap a (Obj.putSet es1 t2)
  split
  · have pm := relayAll_perm t2 es1 (SetTable.grown es1.size)
    have hf3 := relayAll_fits t2 es1 (SetTable.grown es1.size)
    have hr3 := relayAll_ris t2 es1 (SetTable.grown es1.size)
    have hl3 := relayAll_led t2 es1 (SetTable.grown es1.size)
    generalize relayAll t2 es1 (SetTable.grown es1.size) = Z at pm hf3 hr3 hl3 ⊢
    obtain ⟨es2, t3, gave⟩ := Z
    dsimp only at pm hf3 hr3 hl3 ⊢
    have hsz : es2.size = es1.size := by rw [← Array.length_toList, pm.length_eq, Array.length_toList]
    have hb2 : es2.size < scanBound := by rw [hsz]; exact hb1
    refine wpAny_bind (hg _ _ _ ?_)
    refine wpAny_bind (wpAny_storeSet_of ho1 rfl ?_ (fits_of_scanBound hb2))
    have ho2 := store_at (es' := es2) (t' := t3) ho1 rfl
    refine wpAny_pure (hR _ (sb1.trans (Heap.SameBut.update _ a _)) ?_)
    exact ⟨_, es2, _, t3, ho2, hE _ _ (hE _ _ hex), rfl, fun e he => g1 e (pm.mem_iff.mp he), (pm.map keyT).nodup_iff.mpr nd1, fun k => (m1 k).trans (pm.map keyT).mem_iff.symm, hb2, hf3, hsz, hr3,
      hl.imp id fun z => by rw [hl3]; exact z⟩
  · exact wpAny_pure (hR _ sb1 ⟨_, es1, _, t2, ho1, hE _ _ hex, rfl, g1, nd1, m1, hb1, hf2, rfl, hr, hl⟩)
theorem setX_add_hashed (hE : ∀ (o : Obj) d, Ex o → Ex { o with data := d }) {k : Str} {tk : Tok} {Q : Bool → Shared → Prop} (R : SetX Ex w s.heap a S n) (room : n + 1 < scanBound)
    (hQ : ∀ h', Heap.SameBut a s.heap h' → SetX Ex w h' a (fun j => S j || decide (j = k)) (if S k = true then n else n + 1) → Q (!S k) { s with heap := h' }) :
    wpAny (model P w) A (setAddHashed a (.str k tk) ((PySem.strKind P w).hash k)) Q E s := by
  obtain ⟨o, es, ep, t, ho, hex, hd, g, nd, hm, hb, hf, hn, hr, hl⟩ := R
  have hkey : (PySem.strKind P w).is k (.str k tk) = true := strKind_is P w k tk
  have hsc : (Value.str k tk).scannable = true := rfl
  have hel : ElemsOf (PySem.strKind P w) es.toList := goodT_elems g
  unfold setAddHashed setAddHashedIn
  refine wpAny_holding (wpAny_bind (wpAny_setState_of ho hd hf ?_))
  dsimp only
  rw [byScan_of hsc hb hel]
  simp only [↓reduceIte]
  unfold setAddByScan
  refine wpAny_bind ?_
  refine wpAny_bind (wpAny_rule ?_)
  refine wpAny_bind (wpAny_setScan_of hkey ho hd hf hel ?_)
  cases hfi : List.findIdx? (fun e => (PySem.strKind P w).is k e.2) es.toList with
  | some j =>
    dsimp only
    obtain ⟨hj, pj, _⟩ := List.findIdx?_eq_some_iff_getElem.mp hfi
    have hSk : S k = true := (hm k).2 ((goodT_mem (P := P) (w := w) g k).2 ⟨es.toList[j], List.getElem_mem hj, pj⟩)
    refine wpAny_pure (wpAny_pure ?_)
    have q := hQ s.heap (Heap.SameBut.refl a s.heap) ⟨o, es, ep, t, ho, hex, hd, g, nd, fun i => by
      rw [Bool.or_eq_true, decide_eq_true_eq, ← hm i]
      exact ⟨fun z => z.elim id (fun e => e ▸ hSk), .inl⟩, hb, hf, by rw [if_pos hSk]; exact hn, hr, hl⟩
    rw [hSk] at q
    exact q
  | none =>
    dsimp only
    have hnk : k ∉ es.toList.map keyT := fun z => by
      obtain ⟨e, he, q⟩ := (goodT_mem (P := P) (w := w) g k).1 z
      have c := List.findIdx?_eq_none_iff.mp hfi e he
      rw [q] at c
      cases c
    have hSk : S k = false := by
      cases q : S k with
      | false => rfl
      | true => exact absurd ((hm k).1 q) hnk
    have hgw : ∀ (b : Bool) {s₁ : Shared} {Q' : Unit → Shared → Prop}, Q' () s₁ → wpAny (model P w) A (match b with | true => rule "set.scan.the-table-gave-way" | false => pure ()) Q' E s₁ :=
      fun b s₁ Q' q => by cases b <;> first | exact wpAny_pure q | exact wpAny_rule q
    have pm := layNew_perm t es ((PySem.strKind P w).hash k) (.str k tk)
    have hf1 := layNew_fits t es ((PySem.strKind P w).hash k) (.str k tk)
    have hr1 := layNew_ris t es ((PySem.strKind P w).hash k) (.str k tk) hr
    have hl1 := layNew_led t es ((PySem.strKind P w).hash k) (.str k tk)
    generalize layNew t es ((PySem.strKind P w).hash k) (.str k tk) = Z at pm hf1 hr1 hl1 ⊢
    obtain ⟨es1, t1, wasDummy, gave⟩ := Z
    dsimp only at pm hf1 hr1 hl1 ⊢
    rw [Array.toList_push] at pm
    have pc : es1.toList.Perm (((PySem.strKind P w).hash k, Value.str k tk) :: es.toList) := pm.trans (List.perm_append_singleton _ _)
    have pk : (es1.toList.map keyT).Perm (k :: es.toList.map keyT) := pc.map keyT
    have g1 : ∀ e ∈ es1.toList, GoodT w e := fun e he => by
      rcases List.mem_cons.mp (pc.mem_iff.mp he) with z | z
      · rw [z]; exact ⟨k, tk, rfl, rfl⟩
      · exact g e z
    have nd1 : (es1.toList.map keyT).Nodup := pk.nodup_iff.mpr (List.nodup_cons.mpr ⟨hnk, nd⟩)
    have m1 : ∀ i, (S i || decide (i = k)) = true ↔ i ∈ es1.toList.map keyT := fun i => by
      rw [Bool.or_eq_true, decide_eq_true_eq, hm i, pk.mem_iff, List.mem_cons]
      exact Or.comm
    have hsz : es1.size = n + 1 := by rw [← Array.length_toList, pc.length_eq, List.length_cons, Array.length_toList, hn]
    have hb1 : es1.size < scanBound := by rw [hsz]; exact room
    have hled : w.params.followText "set-order" = true ∨ t1.led = true := hl.imp id fun z => by rw [hl1]; exact z
    have fin : ∀ h', Heap.SameBut a s.heap h' → SetX Ex w h' a (fun j => S j || decide (j = k)) es1.size → Q true { s with heap := h' } := fun h' sb r => by
      have q := hQ h' sb
      rw [hSk] at q
      rw [hsz] at r
      exact q r
    refine wpAny_bind (hgw _ ?_)
    split
    · refine wpAny_bind ?_
      rw [hashByValue_scannable 8 hsc]
      refine wpAny_pure ?_
      refine setX_add_tail hE ?_ ho hex hd g1 nd1 m1 hb1 ?_ ?_ ?_ ?_
      · intro b s₁ Q' q; cases b <;> first | exact wpAny_pure q | exact wpAny_rule q
      · first | (split <;> first | exact hf1 | exact SetTable.fits_plain_off hf1) | exact hf1
      · first | (split <;> exact hr1) | exact hr1
      · first | (split <;> exact hled) | exact hled
      · intro h' sb r; dsimp only; exact wpAny_pure (fin h' sb r)
    · refine wpAny_bind (wpAny_pure ?_)
      simp only [↓reduceIte]
      refine setX_add_tail hE ?_ ho hex hd g1 nd1 m1 hb1 hf1 hr1 hled ?_
      · intro b s₁ Q' q; cases b <;> first | exact wpAny_pure q | exact wpAny_rule q
      · intro h' sb r; dsimp only; exact wpAny_pure (fin h' sb r)
end

/-- the first so many texts -/
def metS (xs : List Str) (i : Nat) (k : Str) : Bool := (xs.take i).any (· == k)
theorem metS_succ {xs : List Str} {i : Nat} {x : Str} (h : xs[i]? = some x) (k : Str) : metS xs (i + 1) k = (metS xs i k || decide (k = x)) := by
  unfold metS
  rw [List.take_add_one, h, List.any_append]
  congr 1
  show ((x == k) || false) = decide (k = x)
  rw [Bool.or_false]
  by_cases q : k = x
  · rw [q, beq_self_eq_true, decide_eq_true rfl]
  · rw [decide_eq_false q]
    exact beq_eq_false_iff_ne.mpr fun z => q z.symm
section
variable {prog : Program} {w : World} {A : Around} {R : Result → Shared → Prop} {I : Addr} {fp wr : List Addr} {G : Array GenState → Array GenState → Prop} {St : Nat → Shared → Prop} {xs : List Str} {n : Nat} {Pv : Nat → Value → Prop} {Ex : Obj → Prop}
theorem loopL (hE : ∀ (o : Obj) d, Ex o → Ex { o with data := d }) (W : WalksS prog w A.in1 I fp wr G n Pv St) (hn : xs.length = n) (hP : ∀ i v, Pv i v → ∃ x t, xs[i]? = some x ∧ v = .str x t) (S : Addr) (hSf : S ∉ fp) (hb : n + 1 < scanBound) :
    ∀ (k i m : Nat) (s : Shared), n - i = k → i ≤ n → St i s → m ≤ i → SetX Ex w s.heap S (metS xs i) m →
      (∀ s' m', Moved (S :: wr) G s s' → m' ≤ n → SetX Ex w s'.heap S (metS xs n) m' → R (.ok (.ret .none)) s') →
      codeAny (model prog w) A (.builtin "set.update.loop" ⟨[.ref S, .ref I], []⟩) R s := by
  have hSw : S ∉ wr := fun h => hSf (W.sub _ h)
  have hsub : ∀ b ∈ wr, b ∈ S :: wr := fun b hb => List.mem_cons_of_mem _ hb
  intro k
  induction k with
  | zero =>
    intro i m s hk hi hst hm0 hS hR
    have hin : i = n := by omega
    refine codeAny_builtin F.entry_set_update_loop ?_
    rw [Around.under_plainId F.plain_set_update_loop _]
    show wpAny _ A.in1 (pyNext (.ref I) >>= _) _ _ s
    refine wpAny_bind (W.done s _ _ (hin ▸ hst) fun s' hm => ?_)
    show wpAny _ A.in1 (ret Value.none) _ _ s'
    refine wpAny_pure (hR s' m (hm.mono hsub) (by omega) ?_)
    rw [← hin]
    exact hS.at fun o ho => hm.heap S _ hSw ho
  | succ k ih =>
    intro i m s hk hi hst hm0 hS hR
    have hlt : i < n := by omega
    refine codeAny_builtin F.entry_set_update_loop ?_
    rw [Around.under_plainId F.plain_set_update_loop _]
    show wpAny _ A.in1 (pyNext (.ref I) >>= _) _ _ s
    refine wpAny_bind (W.item i s _ _ hlt hst fun v s' hv hst' hm => ?_)
    obtain ⟨x, t, hc, rfl⟩ := hP i v hv
    have hS' : SetX Ex w s'.heap S (metS xs i) m := hS.at fun o ho => hm.heap S _ hSw ho
    show wpAny _ A.in1 (holding [Value.str x t] (setAdd S (.str x t)) >>= _) _ _ s'
    refine wpAny_bind (wpAny_holding ?_)
    unfold setAdd
    refine wpAny_holding ?_
    refine wpAny_bind ((PySem.strKind prog w).pyHash (k := x) (strKind_is _ _ _ _) ?_)
    refine setX_add_hashed hE (s := { s' with toks := s'.toks + 1 }) hS' (by omega) fun h' hsb hS2 => ?_
    have hSi : SetX Ex w h' S (metS xs (i + 1)) (if metS xs i x = true then m else m + 1) := by
      have e : (fun j => metS xs i j || decide (j = x)) = metS xs (i + 1) := funext fun j => (metS_succ hc j).symm
      rw [← e]
      exact hS2
    refine wpAny_pure ⟨plainId_quiet F.plain_set_update_loop _, ih (i + 1) _ _ (by omega) hlt (W.frame _ s' _ _ hst' (Nat.le_succ _) fun b hb o e => ?_) (by split <;> omega) hSi fun s'' m' hm'' hz hS'' => ?_⟩
    · rw [hsb.2 b (fun h : b = S => hSf (by rw [← h]; exact hb))]; exact e
    · refine hR s'' m' (Moved.trans W.gtrans ((hm.mono hsub).then_heap (Nat.le_succ _) fun b o hb e => ?_) hm'') hz hS''
      rw [hsb.2 b (fun h : b = S => hb (by rw [h]; exact List.mem_cons_self))]; exact e
end
theorem mro_frozen : mroOf (.type "frozenset") = pure [.type "frozenset", .type "object"] := by rw [mroOf_type]; kernel_rfl
theorem lookup_frozen_new : typeLookup (.type "frozenset") "__new__" = pure (some (.builtin "frozenset.__new__")) := by rw [typeLookup_type, builtinLookup_eq_fast]; kernel_rfl
theorem slot_frozen_init : Slot "frozenset" "__init__" "object.__init__" :=
  .of (owner := "object") (n := "__init__") (by rw [typeLookup_type, builtinLookup_eq_fast]; kernel_rfl) (by decide +kernel) (by decide +kernel) (by decide +kernel)
    (by first | exact .inl (by decide +kernel) | exact .inr (by decide +kernel)) (by rw [isSubtype_type]; kernel_rfl)
theorem called_frozen : TypeCalled "frozenset" "frozenset.__new__" "object.__init__" :=
  ⟨by decide +kernel, by decide +kernel, ⟨_, _, mro_frozen⟩, madeBy_type mro_frozen lookup_frozen_new (by decide +kernel), by decide +kernel, by rw [isSubtype_type]; kernel_rfl, slot_frozen_init⟩
theorem typeCall_frozen_1 (a : Value) : checkTypeCall "frozenset" ⟨[a], []⟩ = pure () := by kernel_rfl
theorem newCall_frozen_1 (a : Value) : checkBuiltinCall "frozenset.__new__" ⟨[.type "frozenset", a], []⟩ = pure () := by kernel_rfl
theorem entry_frozen_new : entryFor table "frozenset.__new__" = some Builtin.«frozenset.__new__» := entryFor_of_tree (by kernel_rfl)
theorem sub_frozen_self : isSubtype (.type "frozenset") (.type "frozenset") = pure true := by rw [isSubtype_type]; kernel_rfl
theorem sub_frozen_set : isSubtype (.type "frozenset") (.type "set") = pure false := by rw [isSubtype_type]; kernel_rfl
theorem sub_lst_set : isSubtype (.type "list") (.type "set") = pure false := by rw [isSubtype_type]; kernel_rfl
theorem sub_lst_frozen : isSubtype (.type "list") (.type "frozenset") = pure false := by rw [isSubtype_type]; kernel_rfl
theorem init_frozen_lookup : typeLookup (.type "frozenset") "__init__" = pure (some (.builtin "object.__init__")) := slot_frozen_init.lookup
theorem exFz_data (o : Obj) (d : Data) (h : ExFz o) : ExFz { o with data := d } := h
section
variable {prog : Program} {w : World} {A : Around} {E : Value → Shared → Prop} {s : Shared}
theorem setF_fresh {h : Heap} (w : World) : SetX ExFz w (h.push { cls := .type "frozenset", dict := none, data := .set #[] 0 (.fresh 0 0 (!w.params.followText "set-order")) }) h.objs.size (fun _ => false) 0 :=
  ⟨_, #[], 0, _, Heap.get?_push_size _ rfl, ⟨rfl, rfl, rfl⟩, rfl, (fun e he => by simp at he), (by simp), (fun k => by simp), (by decide), (by rfl), rfl, List.Pairwise.nil, by
    show _ ∨ (!w.params.followText "set-order") = true
    cases w.params.followText "set-order"
    · exact .inr rfl
    · exact .inl rfl⟩
theorem frozen_new_list (l : Addr) (items : Array Value) (xs : List Str) (hb : xs.length + 1 < scanBound) :
    MeetsIn prog w (Builtin.«frozenset.__new__» ⟨[.type "frozenset", .ref l], []⟩) (fun A R s => A.handled = none ∧ s.heap.IsList l items ∧ StrsAre items.toList xs ∧
      ∀ (h' : Heap) (tk m : Nat), m ≤ xs.length → SetX ExFz w h' s.heap.objs.size (metS xs xs.length) m → (∀ b o, b < s.heap.objs.size → s.heap.get? b = some o → h'.get? b = some o) → R (.ok (.ret (.ref s.heap.objs.size))) { s with heap := h', toks := tk }) := by
  rintro A R s ⟨hh, hl, hi, hR⟩
  obtain ⟨⟨ocls, odict, odata, oslots⟩, hol, hcl, nl, hdl⟩ := id hl
  simp only at hcl hdl
  subst hcl hdl
  have hsub := sub_frozen_self
  have hinit := init_frozen_lookup
  have h1 := sub_lst_set
  have h2 := sub_lst_frozen
  have hT : s.TypeIs (.ref l) "list" := ⟨_, hol, rfl⟩
  unfold Builtin.«frozenset.__new__» Builtin.Frozenset.newClass
  generalize hPI : Builtin.Frozenset.newFrom = PI
  obtain ⟨hp, g, d, tk, os⟩ := s
  dsimp only at hR ⊢
  wp_walk using wpAny_typeOf hT
  subst hPI
  unfold Builtin.Frozenset.newFrom newSet
  wp_walk
  refine wpAny_askSetting (wpAny_pure ?_)
  dsimp only
  simp only [newObj]
  refine wpAny_bind (wpAny_alloc (wpAny_pure ?_))
  have hl1 : (hp.push { cls := .type "frozenset", dict := none, data := .set #[] 0 (.fresh 0 0 (!w.params.followText "set-order")) }).IsList l items := hl.push _
  have hT1 : Shared.TypeIs ⟨hp.push { cls := .type "frozenset", dict := none, data := .set #[] 0 (.fresh 0 0 (!w.params.followText "set-order")) }, g, d, tk, os⟩ (.ref l) "list" := ⟨_, Heap.get?_push_of_some _ hol, rfl⟩
  have hne : (Value.type "list" == Value.type "dict") = false := by decide
  unfold Builtin.Frozenset.updateFrom
  generalize hPI : pyIter = PI
  wp_walk using wpAny_typeOf hT1
  subst hPI
  refine wpAny_pyIter_list (s := ⟨hp.push { cls := .type "frozenset", dict := none, data := .set #[] 0 (.fresh 0 0 (!w.params.followText "set-order")) }, g, d, tk, os⟩) hl1 ?_
  refine wpAny_bind (wpAny_runValue ?_)
  have hlS : l < hp.objs.size := Heap.lt_size hol
  have hh3 : A.in1.in1.handled = none := by simp [hh]
  have hneI : l ≠ (hp.push { cls := .type "frozenset", dict := none, data := .set #[] 0 (.fresh 0 0 (!w.params.followText "set-order")) }).objs.size := by
    rw [Heap.size_push]; exact Nat.ne_of_lt (Nat.lt_succ_of_lt hlS)
  have hSf : hp.objs.size ∉ [(hp.push { cls := .type "frozenset", dict := none, data := .set #[] 0 (.fresh 0 0 (!w.params.followText "set-order")) }).objs.size, l] := by
    rw [Heap.size_push]; simp only [List.mem_cons, List.not_mem_nil, or_false, not_or]
    exact ⟨Nat.ne_of_lt (Nat.lt_succ_self _), Nat.ne_of_gt hlS⟩
  have hsz : xs.length = items.size := by rw [← StrsAre.len_eq hi, Array.length_toList]
  refine loopL exFz_data ((Walks.list hh3 _ l hneI items).toS) hsz (fun i v hv => ?hP) hp.objs.size hSf (by rw [← hsz]; exact hb) (items.size - 0) 0 0 _ (by omega) (Nat.zero_le _) ?hSt (Nat.le_refl _) ?hS0 ?hR
  case hSt => exact ⟨⟨_, Heap.get?_push_size _ rfl, rfl, rfl⟩, hl1.push _⟩
  case hP =>
    have hv' : items[i]? = some v := hv
    obtain ⟨t, e⟩ := SS.strs_at hi i v (by rw [Array.getElem?_toList]; exact hv')
    have hlt : i < xs.length := by rw [hsz]; exact (Array.getElem?_eq_some_iff.mp hv').1
    refine ⟨_, t, List.getElem?_eq_getElem hlt, ?_⟩
    rw [e, List.getD_eq_getElem?_getD, List.getElem?_eq_getElem hlt]
    rfl
  case hS0 =>
    exact (setF_fresh w).at fun o ho => Heap.get?_push_of_some _ ho
  case hR =>
    intro s' m' hm hz hS'
    obtain ⟨h', g', d', tk', os'⟩ := s'
    have eg : g' = g := hm.gens
    have ed : d' = d := hm.drawn
    have eo : os' = os := hm.os
    subst eg; subst ed; subst eo
    rw [← hsz] at hz hS'
    refine wpAny_pure (wpAny_pure ?_)
    refine wpAny_pure (hR h' tk' m' hz hS' fun b o hb e => ?_)
    have hb1 : b ≠ hp.objs.size := Nat.ne_of_lt hb
    have hb2 : b ≠ (hp.push { cls := .type "frozenset", dict := none, data := .set #[] 0 (.fresh 0 0 (!w.params.followText "set-order")) }).objs.size := by
      rw [Heap.size_push]; exact Nat.ne_of_lt (Nat.lt_succ_of_lt hb)
    exact hm.heap b o (by simp only [List.mem_cons, List.not_mem_nil, or_false, not_or]; exact ⟨hb1, hb2⟩) (Heap.get?_push_of_some _ (Heap.get?_push_of_some _ e))
theorem call_frozen_list {l : Addr} {items : Array Value} {xs : List Str} {Q : Value → Shared → Prop} (hh : A.handled = none) (hl : s.heap.IsList l items) (hi : StrsAre items.toList xs) (hb : xs.length + 1 < scanBound)
    (h : ∀ (h' : Heap) (tk m : Nat), m ≤ xs.length → SetX ExFz w h' s.heap.objs.size (metS xs xs.length) m → (∀ b o, b < s.heap.objs.size → s.heap.get? b = some o → h'.get? b = some o) → Q (.ref s.heap.objs.size) { s with heap := h', toks := tk }) :
    wpAny (model prog w) A (call (.type "frozenset") [.ref l]) Q E s :=
  callType_newIn called_frozen (by decide) (typeCall_frozen_1 _) (newCall_frozen_1 _) (fun obj => F.args_object_init_2 obj _) entry_frozen_new
    (frozen_new_list l items xs hb) ⟨by simp [hh], hl, hi, fun h' tk m hm hS hk => ⟨by
      obtain ⟨o, _, _, _, ho, hex, _⟩ := hS
      exact ⟨o, ho, hex.1⟩, h h' tk m hm hS hk⟩⟩
end
/-- the frozenset of the texts xs at a -/
def FrzO (w : World) (a : Addr) (xs : List Str) : HO := .ext fun h => ∃ n, n ≤ xs.length ∧ SetX ExFz w h a (metS xs xs.length) n
section
variable {X : Cx}
theorem frzO_new {w : World} {P : Program} {H : Hp} {h : Heap} {a : Addr} {xs : List Str} {n : Nat} (hn : n ≤ xs.length) (R : SetX ExFz w h a (metS xs xs.length) n) : ObjOk P w H h a (FrzO w a xs) := by
  have ⟨o, _, _, _, ho, _⟩ := R
  exact ⟨⟨n, hn, R⟩, ⟨o, ho⟩, fun h1 h2 ⟨m, hm, z⟩ k => ⟨m, hm, SetX.at z k⟩⟩
theorem frzO_get {pins : List (Addr × Obj)} {σ : St} {H : Hp} {s : Shared} {a : Addr} {xs : List Str} (I : Inv X pins σ H s) (ha : H a = some (FrzO X.w a xs)) : ∃ n, n ≤ xs.length ∧ SetX ExFz X.w s.heap a (metS xs xs.length) n := (I.hok a _ ha).1
/-- frozenset(list of texts) -/
def rFrz (K : PySem.W.Frag) (w : World) : List V → Hp → VK → Prop := fun vs H Q => ∃ (p : Addr) (xs : List Str), vs = [.ref p] ∧ SqL K H p (xs.map V.str) ∧ xs.length + 1 < scanBound ∧ ∀ q, H q = none → Q (.ref q) (upd H q (FrzO w q xs))
theorem call_frz {K : PySem.W.Frag} (hc : X.calm = true) (hK : X.K = K := by rfl) : CallR X (.type "frozenset") (rFrz K X.w) := by
  subst hK
  intro pins s σ H vs us Q I r h
  obtain ⟨p, xs, rfl, hS, hz, q⟩ := h
  obtain ⟨u, rfl, ru⟩ := vals1 r
  cases (show u = Value.ref p from ru)
  obtain ⟨its, rv, hl, _⟩ := I.list hS
  refine call_frozen_list (items := its.toArray) (I.ok.hd hc) hl.isList (by simpa using rv.strs) hz fun h' tk m hm hS' hk => ?_
  exact ⟨.ref s.heap.objs.size, _, I.laid (t' := tk) (a := s.heap.objs.size) (o := FrzO X.w s.heap.objs.size xs) (fun b o z => hk b o (Heap.lt_size z) z) (Nat.le_refl _) (frzO_new hm hS'), rfl, q _ (I.hok.fresh (Nat.le_refl _))⟩
end
end L2

namespace L2
open PySem PySem.Spec PyProof.Rows
/-! ### == of two frozensets of texts -/
theorem slot_frozen_eq : Slot "frozenset" (cmpInfo .Eq).2.1 "frozenset.__eq__" :=
  .of (owner := "frozenset") (n := "__eq__") (by rw [typeLookup_type, builtinLookup_eq_fast]; kernel_rfl) (by decide +kernel) (by decide +kernel) (by decide +kernel)
    (by first | exact .inl (by decide +kernel) | exact .inr (by decide +kernel)) (by rw [isSubtype_type]; kernel_rfl)
theorem entry_frozen_eq : entryFor table "frozenset.__eq__" = some Builtin.«frozenset.__eq__» := entryFor_of_tree (by kernel_rfl)
theorem args_frozen_eq (a b : Value) : argsOk "frozenset.__eq__" ⟨[a, b], []⟩ := by
  unfold argsOk; rw [signature?_of (id := "frozenset.__eq__") (n := ['_', '_', 'q', 'e', '_', '_']) (o := ['t', 'e', 's', 'n', 'e', 'z', 'o', 'r', 'f']) (by kernel_rfl) PySem.W.FB.owner_frozenset]; kernel_rfl
section
variable {prog : Program} {w : World} {A : Around} {E : Value → Shared → Prop} {s : Shared}
theorem setOfX {a : Addr} {o : Obj} {es : Array (Int × Value)} {ep : Nat} {t : SetTable} {T : Str → Bool} {k : Str} {tk : Tok} {Q : Option Nat → Shared → Prop} (ho : s.heap.get? a = some o) (hd : o.data = .set es ep t) (g : ∀ e ∈ es.toList, GoodT w e)
    (hm : ∀ k, T k = true ↔ k ∈ es.toList.map keyT) (hb : es.size < scanBound) (hf : t.fits es.size = true) (h : ∀ r : Option Nat, r.isSome = T k → Q r s) : wpAny (model prog w) A (setFind a (.str k tk) (hashStr w k)) Q E s := by
  have hkey : (PySem.strKind prog w).is k (.str k tk) = true := strKind_is prog w k tk
  have hsc : (Value.str k tk).scannable = true := rfl
  have hel : ElemsOf (PySem.strKind prog w) es.toList := goodT_elems g
  unfold setFind setFindIn
  refine wpAny_bind (wpAny_setState_of ho hd hf ?_)
  dsimp only
  rw [byScan_of hsc hb hel]
  simp only [↓reduceIte]
  refine wpAny_bind (wpAny_rule ?_)
  refine wpAny_bind (wpAny_setScan_of hkey ho hd hf hel ?_)
  cases hfi : List.findIdx? (fun e => (PySem.strKind prog w).is k e.2) es.toList with
  | some j =>
    obtain ⟨hj, pj, _⟩ := List.findIdx?_eq_some_iff_getElem.mp hfi
    have hT : T k = true := (hm k).2 ((goodT_mem (P := prog) (w := w) g k).2 ⟨es.toList[j], List.getElem_mem hj, pj⟩)
    exact wpAny_pure (h _ (by rw [hT]; rfl))
  | none =>
    have hnk : k ∉ es.toList.map keyT := fun z => by
      obtain ⟨e, he, q⟩ := (goodT_mem (P := prog) (w := w) g k).1 z
      have c := List.findIdx?_eq_none_iff.mp hfi e he
      rw [q] at c
      cases c
    have hT : T k = false := by
      cases q : T k with
      | false => rfl
      | true => exact absurd ((hm k).1 q) hnk
    exact wpAny_pure (h _ (by rw [hT]; rfl))
theorem walk_unseen {a b : Addr} {o o2 : Obj} {es es2 : Array (Int × Value)} {ep ep2 : Nat} {t t2 : SetTable} {Q : List (Int × Value) → Shared → Prop} (ho : s.heap.get? a = some o) (hd : o.data = .set es ep t) (g : ∀ e ∈ es.toList, GoodT w e) (hf : t.fits es.size = true)
    (ho2 : s.heap.get? b = some o2) (hd2 : o2.data = .set es2 ep2 t2) (g2 : ∀ e ∈ es2.toList, GoodT w e) (hf2 : t2.fits es2.size = true) (h : Q es.toList s) : wpAny (model prog w) A (Builtin.Frozenset.walkUnseen a b) Q E s := by
  unfold Builtin.Frozenset.walkUnseen
  refine wpAny_bind (wpAny_setEntries_of ho hd hf ?_)
  refine wpAny_bind (wpAny_setEntries_of ho2 hd2 hf2 ?_)
  refine wpAny_bind (wpAny_forIn_list _ (fun rest b s' => b.1 = none ∧ s' = s ∧ ∀ e ∈ rest, GoodT w e) _ ?turn ?fin _ _ ⟨rfl, rfl, fun e he => (List.mem_append.mp he).elim (g e) (g2 e)⟩)
  case turn =>
    rintro ⟨hh, v⟩ rest ⟨b1, b2⟩ s' ⟨hb, rfl, hg⟩
    obtain ⟨k, tk, e1, e2⟩ := hg _ List.mem_cons_self
    simp only at e1 hb
    subst e1 hb
    refine wpAny_bind (m := Builtin.Frozenset.quietEq (.str k tk)) (wpAny_pure ?_)
    exact wpAny_pure ⟨rfl, rfl, fun e he => hg e (List.mem_cons_of_mem _ he)⟩
  case fin =>
    rintro ⟨b1, b2⟩ s' ⟨hb, rfl, _⟩
    simp only at hb
    subst hb
    exact wpAny_pure h
theorem subset_run {id : String} {a b : Addr} {o o2 : Obj} {es es2 : Array (Int × Value)} {ep ep2 : Nat} {t t2 : SetTable} {Q : Bool → Shared → Prop} (ho : s.heap.get? a = some o) (hd : o.data = .set es ep t) (g : ∀ e ∈ es.toList, GoodT w e) (hf : t.fits es.size = true)
    (ho2 : s.heap.get? b = some o2) (hd2 : o2.data = .set es2 ep2 t2) (g2 : ∀ e ∈ es2.toList, GoodT w e) (hf2 : t2.fits es2.size = true) (hb2 : es2.size < scanBound) (hz : es.size ≤ es2.size)
    (h : ∀ r : Bool, (r = true ↔ ∀ k ∈ es.toList.map keyT, k ∈ es2.toList.map keyT) → Q r s) : wpAny (model prog w) A (Builtin.Frozenset.subsetOf id a b) Q E s := by
  unfold Builtin.Frozenset.subsetOf Builtin.Frozenset.sizeOf
  refine wpAny_bind (wpAny_bind (wpAny_setEntries_of ho hd hf (wpAny_pure ?_)))
  refine wpAny_bind (wpAny_bind (wpAny_setEntries_of ho2 hd2 hf2 (wpAny_pure ?_)))
  rw [if_neg (by omega)]
  refine wpAny_bind (wpAny_setEpoch_of ho hd hf ?_)
  refine wpAny_bind (walk_unseen ho hd g hf ho2 hd2 g2 hf2 ?_)
  have hT : ∀ k, (decide (k ∈ es2.toList.map keyT)) = true ↔ k ∈ es2.toList.map keyT := fun k => decide_eq_true_iff
  refine wpAny_bind (wpAny_forIn_list _ (fun rest b s' => b.1 = none ∧ s' = s ∧ ∃ past, es.toList = past ++ rest ∧ ∀ e ∈ past, keyT e ∈ es2.toList.map keyT) _ ?turn ?fin _ _ ⟨rfl, rfl, [], rfl, fun e he => by cases he⟩)
  case turn =>
    rintro ⟨hh, v⟩ rest ⟨b1, b2⟩ s' ⟨hb, rfl, past, ep, hp⟩
    have hin : (hh, v) ∈ es.toList := by rw [ep]; simp
    obtain ⟨k, tk, e1, e2⟩ := g _ hin
    simp only at e1 e2 hb
    subst e1 e2 hb
    refine wpAny_bind (wpAny_holding (setOfX ho2 hd2 g2 hT hb2 hf2 fun r hr => ?_))
    cases r with
    | none =>
      have hn : k ∉ es2.toList.map keyT := by
        have : decide (k ∈ es2.toList.map keyT) = false := hr.symm
        exact of_decide_eq_false this
      refine wpAny_pure (wpAny_pure (h false (Iff.intro (fun z => Bool.noConfusion z) fun z => absurd (z k (List.mem_map.mpr ⟨_, hin, rfl⟩)) hn)))
    | some j =>
      have hy : k ∈ es2.toList.map keyT := of_decide_eq_true (show decide (k ∈ es2.toList.map keyT) = true from hr.symm)
      refine wpAny_bind ?_
      unfold Builtin.Frozenset.unchanged
      refine wpAny_bind (wpAny_setEpoch_of ho hd hf ?_)
      rw [if_neg (by simp)]
      refine wpAny_pure (wpAny_pure ⟨rfl, rfl, past ++ [(hashStr w k, .str k tk)], by rw [ep]; simp, fun e he => ?_⟩)
      rcases List.mem_append.mp he with z | z
      · exact hp e z
      · rw [List.mem_singleton.mp z]
        exact hy
  case fin =>
    rintro ⟨b1, b2⟩ s' ⟨hb, rfl, past, ep, hp⟩
    simp only at hb
    subst hb
    refine wpAny_pure (h true ⟨fun _ k hk => ?_, fun _ => rfl⟩)
    obtain ⟨e, he, rfl⟩ := List.mem_map.mp hk
    rw [ep, List.append_nil] at he
    exact hp e he
/-- two lists of one length without doubles: what lies within is the same -/
theorem nodup_le : ∀ {l m : List Str}, l.Nodup → (∀ k ∈ l, k ∈ m) → l.length ≤ m.length
  | [], _, _, _ => Nat.zero_le _
  | k :: l, m, hl, h => by
    obtain ⟨h1, h2⟩ := List.nodup_cons.mp hl
    have hk : k ∈ m := h k List.mem_cons_self
    have := nodup_le (m := m.erase k) h2 fun x hx => (List.mem_erase_of_ne (fun e => h1 (by rw [← e]; exact hx))).mpr (h x (List.mem_cons_of_mem _ hx))
    rw [List.length_erase_of_mem hk] at this
    have pos : 0 < m.length := List.length_pos_of_mem hk
    rw [List.length_cons]
    omega
theorem keys_same {l m : List Str} (hl : l.Nodup) (hm : m.Nodup) (hz : l.length = m.length) (h : ∀ k ∈ l, k ∈ m) : ∀ k, k ∈ l ↔ k ∈ m := fun k => by
  refine ⟨h k, fun hk => Classical.byContradiction fun hn => ?_⟩
  have := nodup_le (l := k :: l) (m := m) (List.nodup_cons.mpr ⟨hn, hl⟩) fun x hx => by
    rcases List.mem_cons.mp hx with rfl | hx
    · exact hk
    · exact h x hx
  rw [List.length_cons] at this
  omega
theorem hashOf_perm {l m : List Int} (h : l.Perm m) : Builtin.Frozenset.hashOf l = Builtin.Frozenset.hashOf m := by
  unfold Builtin.Frozenset.hashOf
  have e : ∀ f : Int → Nat, l.foldl (fun acc x => acc ^^^ f x) 0 = m.foldl (fun acc x => acc ^^^ f x) 0 := fun f =>
    List.Perm.foldl_eq' h (fun x _ y _ z => by rw [Nat.xor_assoc, Nat.xor_comm (f x), ← Nat.xor_assoc]) 0
  simp only [e, h.length_eq]
theorem hashes_keys {l : List (Int × Value)} (g : ∀ e ∈ l, GoodT w e) : l.map (fun x => x.1) = (l.map keyT).map (hashStr w) := by
  rw [List.map_map]
  refine List.map_congr_left fun e he => ?_
  obtain ⟨k, tk, h1, h2⟩ := g e he
  show e.1 = hashStr w (keyT e)
  rw [h2, keyT, h1]
theorem quiet_loop {M : Model} {f : Int × Value → PUnit → Sem (ForInStep PUnit)} {es : Array (Int × Value)} {Q : PUnit → Shared → Prop} (g : ∀ e ∈ es.toList, GoodT w e) (hf : ∀ hh k tk, wpAny M A (f (hh, .str k tk) ⟨⟩) (fun r s' => r = .yield ⟨⟩ ∧ s' = s) E s) (h : Q ⟨⟩ s) : wpAny M A (forIn es PUnit.unit f) Q E s := by
  refine PySem.wpAny_forIn_array' _ (fun rest b s' => s' = s ∧ ∀ e ∈ rest, GoodT w e) _ ?turn ?fin _ _ ⟨rfl, g⟩
  case turn =>
    rintro ⟨hh, v⟩ rest ⟨⟩ s' ⟨rfl, hg⟩
    obtain ⟨k, tk, e1, e2⟩ := hg _ List.mem_cons_self
    simp only at e1
    subst e1
    refine wpAny_mono (hf hh k tk) (fun r s2 z => ?_) fun _ _ e => e
    obtain ⟨rfl, rfl⟩ := z
    exact ⟨rfl, fun e he => hg e (List.mem_cons_of_mem _ he)⟩
  case fin =>
    rintro ⟨⟩ s' ⟨rfl, _⟩
    exact h
theorem frozen_eq_run {a b : Addr} {S T : Str → Bool} {n m : Nat} {Q : Value → Shared → Prop} (RS : SetX ExFz w s.heap a S n) (RT : SetX ExFz w s.heap b T m) (h : ∀ r : Bool, (r = true ↔ ∀ k, S k = true ↔ T k = true) → Q (.bool r) s) :
    wpAny (model prog w) A (call (.builtin "frozenset.__eq__") [.ref a, .ref b]) Q E s := by
  obtain ⟨o, es, ep, t, ho, hex, hd, g, nd, hm, hb, hf, hn, _, _⟩ := RS
  obtain ⟨o2, es2, ep2, t2, ho2, hex2, hd2, g2, nd2, hm2, hb2, hf2, hn2, _, _⟩ := RT
  have hT1 : s.TypeIs (.ref a) "frozenset" := ⟨o, ho, hex.1⟩
  have hT2 : s.TypeIs (.ref b) "frozenset" := ⟨o2, ho2, hex2.1⟩
  refine wpAny_call_entry slot_frozen_eq hT1 entry_frozen_eq ?_ (args_frozen_eq _ _)
  unfold Builtin.«frozenset.__eq__»
  have h1 := sub_frozen_self
  have h2 := sub_frozen_set
  have fin : ∀ r : Bool, (r = true ↔ ∀ k, k ∈ es.toList.map keyT ↔ k ∈ es2.toList.map keyT) → Q (.bool r) s := fun r hr => h r (hr.trans ⟨fun z k => ((hm k).trans (z k)).trans (hm2 k).symm, fun z k => ((hm k).symm.trans (z k)).trans (hm2 k)⟩)
  clear h hm hm2
  wp_walk using wpAny_setEntries_of ho hd hf, wpAny_setEntries_of ho2 hd2 hf2, wpAny_typeOf hT1, wpAny_typeOf hT2
  refine wpAny_mono (Q := fun r s' => s' = s ∧ (r = true ↔ ∀ k, k ∈ es.toList.map keyT ↔ k ∈ es2.toList.map keyT)) ?_ (fun r s' z => ?_) (fun _ _ e => e)
  case refine_2 =>
    obtain ⟨rfl, z⟩ := z
    exact wpAny_pure ⟨_, rfl, fin r z⟩
  have perm_of : (∀ k, k ∈ es.toList.map keyT ↔ k ∈ es2.toList.map keyT) → (es.toList.map keyT).Perm (es2.toList.map keyT) := fun z => (List.perm_ext_iff_of_nodup nd nd2).mpr z
  by_cases hz : es.size = es2.size
  · rw [if_neg (by simp [hz])]
    refine wpAny_bind ?_
    unfold andM
    refine wpAny_bind (wpAny_isInstance hT1 sub_frozen_self ?_)
    show wpAny _ _ (isInstance (.ref b) (.type "frozenset")) _ _ s
    refine wpAny_isInstance hT2 sub_frozen_self ?_
    rw [if_pos rfl]
    refine wpAny_bind (wpAny_setEntries_of ho hd hf ?_)
    refine wpAny_bind (wpAny_setEntries_of ho2 hd2 hf2 ?_)
    split
    · rename_i hne
      refine wpAny_bind (quiet_loop g (fun hh k tk => ?_) ?_)
      · refine wpAny_bind (m := Builtin.Frozenset.quietEq (.str k tk)) (wpAny_pure ?_)
        exact wpAny_pure ⟨rfl, rfl⟩
      refine wpAny_bind (quiet_loop g2 (fun hh k tk => ?_) ?_)
      · refine wpAny_bind (m := Builtin.Frozenset.quietEq (.str k tk)) (wpAny_pure ?_)
        exact wpAny_pure ⟨rfl, rfl⟩
      refine wpAny_bind (wpAny_rule (wpAny_pure ⟨rfl, Iff.intro (fun z => Bool.noConfusion z) fun z => ?_⟩))
      have hp := (perm_of z).map (hashStr w)
      rw [← hashes_keys g, ← hashes_keys g2] at hp
      rw [hashOf_perm hp] at hne
      simp at hne
    · exact subset_run ho hd g hf ho2 hd2 g2 hf2 hb2 (Nat.le_of_eq hz) fun r hr => ⟨rfl, hr.trans ⟨fun z => keys_same nd nd2 (by rw [List.length_map, List.length_map, Array.length_toList, Array.length_toList]; exact hz) z, fun z k hk => (z k).mp hk⟩⟩
  · rw [if_pos (by simp [hz])]
    refine wpAny_pure ⟨rfl, Iff.intro (fun z => Bool.noConfusion z) fun z => absurd ?_ hz⟩
    have := (perm_of z).length_eq
    rw [List.length_map, List.length_map, Array.length_toList, Array.length_toList] at this
    exact this
end
section
variable {X : Cx}
/-- == of two frozensets of texts -/
def rEqFz (w : World) : V → V → Hp → VK → Prop := fun x y H Q => ∃ (a b : Addr) (xs ys : List Str), x = .ref a ∧ y = .ref b ∧ H a = some (FrzO w a xs) ∧ H b = some (FrzO w b ys) ∧ ∀ r : Bool, (r = true ↔ ∀ k, k ∈ xs ↔ k ∈ ys) → Q (.bl r) H
theorem metS_all {xs : List Str} {k : Str} : metS xs xs.length k = true ↔ k ∈ xs := by
  unfold metS
  rw [List.take_length, List.any_eq_true]
  exact ⟨fun ⟨x, hx, e⟩ => (beq_iff_eq.mp e) ▸ hx, fun h => ⟨k, h, beq_self_eq_true k⟩⟩
theorem op_eqFz (hu : X.A.units < cLine) : OpR X (compareOp .Eq) (rEqFz X.w) := by
  intro pins s σ H x y v u Q I rx ry h
  obtain ⟨a, b, xs, ys, rfl, rfl, ha, hb, q⟩ := h
  cases rx
  cases ry
  obtain ⟨n, _, RS⟩ := frzO_get I ha
  obtain ⟨m, _, RT⟩ := frzO_get I hb
  have hT1 : s.TypeIs (.ref a) "frozenset" := by
    obtain ⟨o, _, _, _, ho, hex, _⟩ := RS
    exact ⟨o, ho, hex.1⟩
  have hT2 : s.TypeIs (.ref b) "frozenset" := by
    obtain ⟨o, _, _, _, ho, hex, _⟩ := RT
    exact ⟨o, ho, hex.1⟩
  show wpAny (model X.prog X.w) X.A (richCompare .Eq (.ref a) (.ref b)) (EP X pins σ Q) X.xe s
  refine wpAny_richCompare_same_room (op := .Eq) hT1 hT2 slot_frozen_eq (frozen_eq_run RS RT fun r hr => ⟨(fun z => nomatch z), ?_⟩) hu
  refine ⟨.bl r, H, I, rfl, q r (hr.trans ⟨fun z k => (metS_all.symm.trans (z k)).trans metS_all, fun z k => (metS_all.trans (z k)).trans metS_all.symm⟩)⟩
end
end L2

namespace L2
open PySem PySem.Spec PyProof.Rows
/-! ### exceptions that a suite holds, and list(text) -/
section
variable {X : Cx}
/-- the exception at a, of the class cls, its own dict d: an instance of D -/
structure ExAt (K : PySem.W.Frag) (H : Hp) (cls : Value) (d : Option Addr) (D : Addr) : Prop where
  cls : cls = .ref D
  dict : d = none ∨ ∃ dd fs, d = some dd ∧ H dd = some (.xd fs)
  ok : ExcC K D
theorem ExAt.inst {pins : List (Addr × Obj)} {σ : St} {H : Hp} {s : Shared} {cls : Value} {d : Option Addr} {D a : Addr} {oe : Obj} (I : Inv X pins σ H s) (E : ExAt X.K H cls d D) (hz : Zc cls d oe) (hf : ∃ vs, oe.data = .fields vs) (ha : s.heap.get? a = some oe) : ∃ od, PySem.W.InstAt s.heap a oe D od := by
  obtain ⟨vs, hv⟩ := hf
  obtain ⟨oc, odd, oda, osl⟩ := oe
  obtain ⟨h1, h2⟩ := hz
  dsimp only at h1 h2 hv
  have e := E.cls
  subst e h1 h2 hv
  rcases E.dict with rfl | ⟨dd, fs, rfl, hd⟩
  · exact ⟨none, ha, rfl, rfl, trivial⟩
  · obtain ⟨mA, ⟨od, es, ep, e2, _⟩, _⟩ := (show ObjOk X.prog X.w H s.heap dd (.xd fs) from I.hok dd _ hd)
    exact ⟨some od, ha, rfl, rfl, e2⟩
theorem ExcC.kit {K : PySem.W.Frag} {D a : Addr} {oe : Obj} {od : Option Obj} (C : ExcC K D) : PySem.W.KitX K (.ref a) (.ref D) (fun h => PySem.W.InstAt h a oe D od) :=
  PySem.W.kitx_exc (by obtain ⟨cd, hc, _⟩ := PySem.W.any_some C.hd; rw [hc]; rfl) C.hg C.hk C.hs C.ha C.hn C.ht C.hm
/-- isinstance(e, c) -/
def rIsX (K : PySem.W.Frag) (a : Addr) (cls : Value) (d : Option Addr) : List V → Hp → VK → Prop := fun xs H Q => ∃ (D : Addr) (c : V) (cv : Value) (b : Bool), ExAt K H cls d D ∧ xs = [.ref a, c] ∧ ClsV c cv ∧ PySem.W.kitOne K (.ref D) cv = some b ∧ Q (.bl b) H
theorem call_isX {K : PySem.W.Frag} {a : Addr} {cls : Value} {d : Option Addr} {oe : Obj} {pn : List (Addr × Obj)} (hz : Zc cls d oe) (hf : ∃ vs, oe.data = .fields vs) (hK : X.K = K := by rfl) : CallR (X.suite a ((a, oe) :: pn)) (.builtin "isinstance") (rIsX K a cls d) := by
  subst hK
  intro pins s σ H xs us Q I r h
  obtain ⟨D, c, cv, b, E, rfl, hcv, e, q⟩ := h
  obtain ⟨u1, u2, rfl, rx, rt⟩ := vals2 r
  cases rx
  have ec := hcv.eq rt
  subst ec
  obtain ⟨hget, _⟩ := I.pin (a, oe) (List.mem_append.mpr (.inl List.mem_cons_self))
  obtain ⟨od, J⟩ := ExAt.inst (X := X.suite a ((a, oe) :: pn)) I E hz hf hget
  exact PySem.W.kia_one (E.ok.kit) I.kIn J e (fun z => nomatch z) fun tk => ⟨.bl b, H, I.kept (t' := tk) fun _ _ z => z, rfl, q⟩
/-- isinstance(e, (c, ..)) -/
def rIsXT (K : PySem.W.Frag) (a : Addr) (cls : Value) (d : Option Addr) : List V → Hp → VK → Prop := fun xs H Q => ∃ (D tp : Addr) (cs : List V) (us : List Value) (b : Bool), ExAt K H cls d D ∧ xs = [.ref a, .ref tp] ∧ H tp = some (.tup cs) ∧ Paired ClsV cs us ∧ PySem.W.kitAny K (.ref D) us = some b ∧ Q (.bl b) H
theorem call_isXT {K : PySem.W.Frag} {a : Addr} {cls : Value} {d : Option Addr} {oe : Obj} {pn : List (Addr × Obj)} (hz : Zc cls d oe) (hf : ∃ vs, oe.data = .fields vs) (hK : X.K = K := by rfl) : CallR (X.suite a ((a, oe) :: pn)) (.builtin "isinstance") (rIsXT K a cls d) := by
  subst hK
  intro pins s σ H xs us Q I r h
  obtain ⟨D, tp, cs, ws, b, E, rfl, hT, k, e, q⟩ := h
  obtain ⟨u1, u2, rfl, rx, rt⟩ := vals2 r
  cases rx
  cases (show u2 = Value.ref tp from rt)
  obtain ⟨hget, _⟩ := I.pin (a, oe) (List.mem_append.mpr (.inl List.mem_cons_self))
  obtain ⟨od, J⟩ := ExAt.inst (X := X.suite a ((a, oe) :: pn)) I E hz hf hget
  obtain ⟨_, its, rv, o, h1, h2, n, h3⟩ := (show ObjOk X.prog X.w H s.heap tp (.tup cs) from I.hok tp _ hT)
  have e3 := ClsV.all k rv
  subst e3
  obtain ⟨oc, od', dt, sl⟩ := o
  simp only at h2 h3
  subst h2 h3
  exact PySem.W.kia_tup (E.ok.kit) I.kIn J h1 e (fun z => nomatch z) fun tk => ⟨.bl b, H, I.kept (t' := tk) fun _ _ z => z, rfl, q⟩
/-- list(text) -/
def rListS (H : Hp) (z : Str) (Q : VK) : Prop := ∀ l, H l = none → Q (.ref l) (upd H l (.lst (z.cps.toList.map fun c => V.str ⟨#[c]⟩)))
theorem vals_signs : ∀ (l : List Nat) (us : List Value), us.length = l.length → (∀ (i : Nat) (v : Value), us[i]? = some v → ∃ c t, l[i]? = some c ∧ v = .str ⟨#[c]⟩ t) → Vals (l.map fun c => V.str ⟨#[c]⟩) us
  | [], [], _, _ => .nil
  | [], _ :: _, h, _ => by simp at h
  | _ :: _, [], h, _ => by simp at h
  | c :: l, u :: us, h, hv => by
    obtain ⟨c', t, e1, e2⟩ := hv 0 u rfl
    have : c = c' := by simpa using e1
    subst this
    exact .cons ⟨t, e2⟩ (vals_signs l us (by simpa using h) fun i v e => by simpa using hv (i + 1) v (by simpa using e))
theorem call_listS (hc : X.calm = true) : CallR X (.type "list") (fun xs H Q => ∃ z, xs = [.str z] ∧ z.length ≤ sizeLine ∧ rListS H z Q) := by
  intro pins s σ H xs us Q I r h
  obtain ⟨z, rfl, hz, q⟩ := h
  obtain ⟨u, rfl, t, rfl⟩ := vals1 r
  have hh : X.A.handled = none := I.ok.hd hc
  refine call_list_str hh z t (hn := hz) fun h' tk acc' c' hk hS hacc => ?_
  have rv : Vals (z.cps.toList.map fun c => V.str ⟨#[c]⟩) acc'.toList := vals_signs _ _ (by simpa using hacc.1) fun i v e => by
    obtain ⟨c, u, h1, h2⟩ := hacc.2 i v (by simpa using e)
    exact ⟨c, u, by simpa using h1, h2⟩
  refine ⟨.ref s.heap.objs.size, _, I.laid (t' := tk) hk (Nat.le_refl _) (show ObjOk X.prog X.w _ h' _ (.lst _) from ⟨by rw [List.length_map, Array.length_toList]; exact hz, acc'.toList, c', rv, by simpa using hS⟩), rfl, q _ (I.hok.fresh (Nat.le_refl _))⟩
end
end L2
namespace L2
open PySem PySem.Spec PyProof.Rows
/-! ### what the written part says of an own exception class -/
structure ExK (K : PySem.W.Frag) (mg : Str → Option Value) (x : Str) (C : Addr) (bm : List Value) (newId : String) : Prop where
  gC : mg x = some (.ref C)
  xC : PySem.W.excIn K C bm newId = true
  kC : PySem.W.keepIn K (.ref C) = true
  bC : PySem.W.subIn K (.ref C) (.type "BaseException") = some true
  tC : PySem.W.typeIn K (.ref C) = some (.type "type")
  iC : PySem.W.isClsIn K C = true
  sC : PySem.W.subIn K (.ref C) (.ref C) = some true
  ok : ExcC K C
theorem ExK.te {K : PySem.W.Frag} {mg : Str → Option Value} {x : Str} {C : Addr} {bm : List Value} {newId : String} (T : ExK K mg x C bm newId) : PySem.W.exmOne K (.ref C) (.ref C) = some true := by
  have e1 : (PySem.W.subIn K (.ref C) (.type "BaseException") == some true) = true := by rw [T.bC]; rfl
  have e2 : ((PySem.W.clsIn K C).isSome && PySem.W.typeIn K (.ref C) == some (.type "type")) = true := by
    have q : (PySem.W.clsIn K C).isSome = true := T.iC
    rw [q, T.tC]
    rfl
  show (if (PySem.W.subIn K (.ref C) (.type "BaseException") == some true) = true then (if ((PySem.W.clsIn K C).isSome && PySem.W.typeIn K (.ref C) == some (.type "type")) = true then PySem.W.subIn K (.ref C) (.ref C) else none) else none) = some true
  rw [if_pos e1, if_pos e2]
  exact T.sC
section
variable {X : Cx} {CX : CXT} {x : Str} {k : Nat} {f : Addr} {fd : FuncData} {ps : List Str} {sp : Sp} {dvs : List V} {ds : List Value} {E : St → XK} {e : Expr} {es : List Expr} {t : TA} {p pos : Pos}
/-- f(e, ..) in a try's body, defaults behind -/
def tCallSD (sp : Sp) (dvs : List V) (E : St → XK) (t : TA) : TE := fun σ H Q => t σ H fun vs H1 => sp (vs ++ dvs) H1 Q (E σ)
theorem pe_callSD (F : FnOk X.prog X.w X.K X.mg X.base CX k f fd ps sp) (hr : Room k X.A) (hg : Gl X x) (hm : X.mg x = some (.ref f)) (hk : PySem.W.keepIn X.K (.ref f) = true) (hb : Binds X.K fd ps ds) (hd : Vals dvs ds) (hx : ∀ σ, PassesAt CX X σ (E σ))
    (ha : PA X (e :: es) t) (hdb : (x == ("__debug__" : Str)) = false := by decide) (he : starEach (e :: es) X.env = (false, eval e X.env) :: starEach es X.env := by rfl) (hpl : (backTo pos (starEach es X.env)).any (·.1) = false := by rfl) :
    PE X (.Call (.Name x p) (e :: es) [] pos) (tCallSD sp dvs E t) := by
  refine ⟨fun pins s σ H Q I h => ?_⟩
  refine wpAny_Call_Name_kw (ld_glob I hg hm ?_ hdb)
  refine PySem.W.callWith_K (h₀ := X.base) I.ok.mod.kin hk (thn (ha.run pos pins s σ H _ I h) fun us s1 ⟨vs, H1, I1, r, q⟩ => ⟨I1.kIn, ?_⟩) he hpl
  have r2 : Vals (vs ++ dvs) (us ++ ds) := r.append hd
  have hl : (us ++ ds).length = ps.length := by rw [← r2.length]; exact F.len _ _ _ _ q
  refine wpAny_call (codeAny_mono (F.run X.A X.stack s1 H1 ⟨us, []⟩ (us ++ ds) (vs ++ dvs) Q (E σ) hr I1.env0 (hb s1 us I1.kIn hl) r2 q) fun r s' hq => ?_)
  cases r with
  | error er => exact hx σ pins H1 s1 er s' I1 hq
  | ok fl =>
    cases fl with
    | ret u => exact I1.after hq
    | next => exact False.elim hq
    | brk => exact False.elim hq
    | cont => exact False.elim hq
end
end L2

namespace PySem
namespace XB0
open PySem.W
open PySem.HandSPX (excO)
/-- of a built-in exception class B: how its own classes are made (by L's __new__) and begun -/
structure XB (B newId initId : String) (bm : List Value) : Prop where
  nw : ∃ (L iL : String) (bL : List Value), ExcBaseFacts L newId iL bL ∧ bm.contains (.type L) = true
  hasB : bm.contains (.type B) = true
  noA : bm.contains (.type "AttributeError") = false
  noN : bm.contains (.type "NameError") = false
  init : Slot B "__init__" initId
  iE : entryFor table initId = some Builtin.«BaseException.__init__»
  iS : splitId initId = some (B, "__init__")
  iK : builtinKind initId = some .slot
  iR : Manifest.signature? initId = some ⟨.positional, "*", B, .self, [⟨"args", .varPos, false⟩]⟩
  nS : (B != "*") = true
theorem XB.of {B ni ii : String} {bm : List Value} (F : ExcBaseFacts B ni ii bm) : XB B ni ii bm := ⟨⟨B, ii, bm, F, F.hasB⟩, F.hasB, F.noAttr, F.noName, F.init, F.initEntry, F.initSplit, F.initKind, F.initRow, F.noStar⟩
abbrev keTail : List Value := [.type "KeyError", .type "LookupError", .type "Exception", .type "BaseException", .type "object"]
theorem xb_KeyError : XB "KeyError" "LookupError.__new__" "KeyError.__init__" keTail where
  nw := ⟨"LookupError", _, _, F.excBase_LookupError, by decide +kernel⟩
  hasB := by decide +kernel
  noA := by decide +kernel
  noN := by decide +kernel
  init := .of (owner := "KeyError") (n := "__init__") (by rw [typeLookup_type, builtinLookup_eq_fast]; kernel_rfl) (by decide +kernel) (by decide +kernel) (by decide +kernel)
    (by first | exact .inl (by decide +kernel) | exact .inr (by decide +kernel)) (by rw [isSubtype_type]; kernel_rfl)
  iE := by kernel_rfl
  iS := by decide +kernel
  iK := by decide +kernel
  iR := by kernel_rfl
  nS := by decide +kernel
theorem st_KeyError : StoreFacts "KeyError" keTail "object.__setattr__" "object" where
  mro := by kernel_rfl
  slot := .of (owner := "object") (n := "__setattr__") (by rw [typeLookup_type, builtinLookup_eq_fast]; kernel_rfl) (by decide +kernel) (by decide +kernel) (by decide +kernel) (by first | exact .inl (by decide +kernel) | exact .inr (by decide +kernel)) (by rw [isSubtype_type]; kernel_rfl)
  entry := F.entry_object_sa
  kind := by decide +kernel
  split := by decide +kernel
  hasOwner := by decide +kernel
  args := fun x y z => by unfold argsOk; kernel_rfl
  passes := fun x => by kernel_rfl
section
variable {prog : Program} {w : World} {A : Around} {E : Value → Shared → Prop} {R : Result → Shared → Prop} {h : Heap} {g : Array GenState} {d : Drawn} {t : Nat} {os : OsState}
variable {nm q : Str} {C N : Addr} {bs bm bmB : List Value} {hdct : Bool} {sn : List Str} {sub : List Value} {ab : Bool} {col : Option Bool} {dd : Option Addr} {k0 k1 k2 k3 k5 : Option Value} {B ni ii : String}
theorem xb_checkNew (F : XB B ni ii bmB) (hT : ∀ X : String, bm.contains (.type X) = bmB.contains (.type X)) {us : List Value} {Q : Unit → Shared → Prop}
    (hC : h.get? C = some (excClassObj nm q C N bs bm hdct sn sub ab col dd k0 k1 k2 k3 k5 ni)) (z : Q () ⟨h, g, d, t, os⟩) : wpAny (model prog w) A (checkBuiltinCall ni ⟨.ref C :: us, []⟩) Q E ⟨h, g, d, t, os⟩ := by
  obtain ⟨L, iL, bL, G, hL⟩ := F.nw
  have c1 : (Value.ref C :: bm).contains (.type L) = true := by rw [List.contains_cons, hT, hL, Bool.or_true]
  have c2 := G.noStar
  simp only [checkBuiltinCall, G.newKind, G.newSplit, G.newRow]
  repeat (first | refine wpAny_loadPart_at hC ?_ | (refine wpAny_isSubtype_exc hC ?_; rw [c1]) | refine wpAny_staticBase_exc hC ?_ | refine wpAny_madeBy_exc hC ?_ | simp only [bne_self_eq_false, Bool.false_eq_true, if_false] | wp_step)
  exact z
theorem xb_new (F : XB B ni ii bmB) (hT : ∀ X : String, bm.contains (.type X) = bmB.contains (.type X)) {us : List Value}
    (hC : h.get? C = some (excClassObj nm q C N bs bm hdct sn sub ab col dd k0 k1 k2 k3 k5 ni))
    (z : R (.ok (.ret (.ref (h.objs.size + 1)))) ⟨(h.push (PySem.W.kdv_tup us)).push (excO C h.objs.size), g, d, t, os⟩) (hl : us.length ≤ sizeLine) :
    codeAny (model prog w) A (.builtin ni ⟨.ref C :: us, []⟩) R ⟨h, g, d, t, os⟩ := by
  obtain ⟨L, iL, bL, G, hL⟩ := F.nw
  have c0 := G.ends
  have c1 : (Value.ref C :: bm).contains (.type L) = true := by rw [List.contains_cons, hT, hL, Bool.or_true]
  have c2 : (Value.ref C :: bm).contains (.type "AttributeError") = false := by rw [List.contains_cons, hT, F.noA]; rfl
  have c3 : (Value.ref C :: bm).contains (.type "NameError") = false := by rw [List.contains_cons, hT, F.noN]; rfl
  refine codeAny_builtinAt G.entry ?_
  unfold Builtin.«BaseException.__new__»
  refine wpAt_bind ?_
  show wpAt _ _ _ (stack >>= _) _ _ _
  refine wpAt_bind (wpAt_stack fun p below => wpAt_of_wpAny ?_)
  wp_walk
  refine wpAt_of_wpAny ?_
  rw [G.owner]
  repeat (first | with_reducible refine wpAny_madeHere_exc G.canon hC ?_ | with_reducible refine wpAny_loadPart_at hC ?_ | (with_reducible refine wpAny_isSubtype_exc hC ?_; first | rw [c1] | rw [c2] | rw [c3]) | wp_step)
  show R _ _
  rw [Heap.size_push]
  exact z
theorem xb_checkInit (F : XB B ni ii bmB) (hT : ∀ X : String, bm.contains (.type X) = bmB.contains (.type X)) {e : Addr} {oe : Obj} {us : List Value} {Q : Unit → Shared → Prop}
    (hC : h.get? C = some (excClassObj nm q C N bs bm hdct sn sub ab col dd k0 k1 k2 k3 k5 ni)) (he : h.get? e = some oe) (hc : oe.cls = .ref C) (z : Q () ⟨h, g, d, t, os⟩) :
    wpAny (model prog w) A (checkBuiltinCall ii ⟨.ref e :: us, []⟩) Q E ⟨h, g, d, t, os⟩ := by
  have c1 : (Value.ref C :: bm).contains (.type B) = true := by rw [List.contains_cons, hT, F.hasB, Bool.or_true]
  have c2 := F.nS
  simp only [checkBuiltinCall, F.iK, F.iS, F.iR]
  repeat (first | (with_reducible refine wpAny_loadPart_at he ?_; rw [hc]) | with_reducible refine wpAny_loadPart_at hC ?_ | (with_reducible refine wpAny_isSubtype_exc hC ?_; rw [c1]) | wp_step)
  refine wpAny_onRaise ?_
  rw [show ∀ (x y : String) (n : Nat), Bind.check ⟨.positional, "*", B, .self, [⟨"args", .varPos, false⟩]⟩ x y n (List.map (fun v => v.fst) ({ pos := Value.ref e :: us } : Args).kw) = pure () from
    fun x y n => check_star_args _ _ _ _ _ _]
  exact wpAny_pure z
theorem xb_init (F : XB B ni ii bmB) (hT : ∀ X : String, bm.contains (.type X) = bmB.contains (.type X)) {e t0 : Addr} {us : List Value}
    (hC : h.get? C = some (excClassObj nm q C N bs bm hdct sn sub ab col dd k0 k1 k2 k3 k5 ni)) (he : h.get? e = some (excO C t0)) (hl : us.length ≤ sizeLine)
    (z : ∀ h' t1, (∀ b o, b ≠ e → h.get? b = some o → h'.get? b = some o) → h'.get? e = some (excO C t1) → R (.ok (.ret .none)) ⟨h', g, d, t, os⟩) :
    codeAny (model prog w) A (.call (.builtin ii) ⟨.ref e :: us, []⟩) R ⟨h, g, d, t, os⟩ := by
  refine codeAny_call_builtin F.init.plain F.iE (xb_checkInit F hT hC he rfl ?_)
  wp_walk
  refine z _ h.objs.size (fun x o hx ho => ?_) ?_
  · rw [Heap.get?_update_other _ _ (Ne.symm hx)]
    exact Heap.get?_push_of_some _ ho
  · rw [Heap.get?_update_self _ (Heap.get?_push_of_some _ he) rfl]
    rfl
theorem xb_typeCall (F : XB B ni ii bmB) (hT : ∀ X : String, bm.contains (.type X) = bmB.contains (.type X)) {us : List Value} {fI : Addr} {Q : Fin → Shared → Prop}
    (hC : h.get? C = some (excClassObj nm q C N bs bm hdct sn sub ab col dd k0 k1 k2 k3 k5 ni))
    (hi : W.Looks (model prog w) h (typeLookup (.ref C) "__init__") (some (.ref fI))) (hb : ∀ x, W.Looks (model prog w) h (bindSpecial (.ref fI) x) (.ref fI, [x])) (hl : us.length ≤ sizeLine)
    (z : codeAny (model prog w) A (.call (.ref fI) ⟨.ref (h.objs.size + 1) :: us, []⟩)
      (fun r s' => match r with | .ok (.ret v) => v = .none ∧ Q (.done (.ret (.ref (h.objs.size + 1)))) s' | .ok _ => False | .error e => E e s')
      ⟨(h.push (PySem.W.kdv_tup us)).push (excO C h.objs.size), g, d, t, os⟩) :
    wpAny (model prog w) A (Builtin.«type.__call__» ⟨.ref C :: us, []⟩) Q E ⟨h, g, d, t, os⟩ := by
  obtain ⟨L, iL, bL, G, hL⟩ := F.nw
  repeat (first | with_reducible refine wpAny_loadPart_at hC ?_ | with_reducible refine wpAny_madeBy_exc hC ?_ | wp_step)
  refine codeAny_call_builtin_code (Code.quiet_builtin _ G.quiet) (xb_checkNew F hT hC ?_)
  refine xb_new F hT hC ?_ hl
  show wpAny _ _ _ _ _ _
  have k : ∀ b o, h.get? b = some o → ((h.push (PySem.W.kdv_tup us)).push (excO C h.objs.size)).get? b = some o := fun b o e => Heap.get?_push_of_some _ (Heap.get?_push_of_some _ e)
  have c1 := k _ _ hC
  have c2 : ((h.push (PySem.W.kdv_tup us)).push (excO C h.objs.size)).get? (h.objs.size + 1) = some (excO C h.objs.size) := by heap_get
  have c3 : (Value.ref C :: bm).contains (.ref C) = true := by simp
  have i1 := hi.keeps k
  have b1 := (hb (.ref (h.objs.size + 1))).keeps k
  unfold isInstance
  repeat (first | with_reducible refine wpAny_loadPart_at c2 ?_ | (with_reducible refine wpAny_isSubtype_exc c1 ?_; rw [c3]) | wp_step)
  show wpAny _ _ (typeLookup (.ref C) _) _ _ _
  refine i1.at ?_
  refine wpAny_holding (wpAny_bind (b1.at ?_))
  refine wpAny_bind (wpAny_call (codeAny_mono z fun r s' y => ?_))
  rcases r with e | (v | _ | _ | _) <;> first | exact y | exact y.elim | skip
  obtain ⟨rfl, y⟩ := y
  first
    | exact wpAny_pure (wpAny_pure y)
    | (wp_walk; exact y)
theorem xb_call (F : XB B ni ii bmB) (hT : ∀ X : String, bm.contains (.type X) = bmB.contains (.type X)) {us : List Value} {fI : Addr}
    (hC : h.get? C = some (excClassObj nm q C N bs bm hdct sn sub ab col dd k0 k1 k2 k3 k5 ni))
    (hi : W.Looks (model prog w) h (typeLookup (.ref C) "__init__") (some (.ref fI))) (hb : ∀ x, W.Looks (model prog w) h (bindSpecial (.ref fI) x) (.ref fI, [x])) (hl : us.length ≤ sizeLine)
    (z : codeAny (model prog w) (A.under (.builtin "type.__call__" ⟨.ref C :: us, []⟩)) (.call (.ref fI) ⟨.ref (h.objs.size + 1) :: us, []⟩) (W.InitBack (h.objs.size + 1) R)
      ⟨(h.push (PySem.W.kdv_tup us)).push (excO C h.objs.size), g, d, t, os⟩) :
    codeAny (model prog w) A (.call (.ref C) ⟨us, []⟩) R ⟨h, g, d, t, os⟩ := by
  have f1 := tc_lookup
  have f2 := tc_bind (.ref C)
  have f3 : (⟨h, g, d, t, os⟩ : Shared).TypeIs (.ref C) "type" := ⟨_, hC, rfl⟩
  refine codeAny_of_tree ?_
  show wpAny _ _ (callAny (.ref C) _) _ _ _
  repeat (any_goals (first | assumption | with_reducible refine wpAny_loadPart_at hC ?_ | wp_step))
  refine ⟨rfl, ?_⟩
  refine codeAny_call_builtin_at (Code.quiet_builtin _ (by decide +kernel)) entry_typeCall (wpAny_check_type_call_sub hC (xb_typeCall F hT hC hi hb hl ?_))
  refine codeAny_mono z fun r s' y => ?_
  rcases r with e | (v | _ | _ | _) <;> exact y
end
end XB0
end PySem
namespace L2
open PySem PySem.Spec PyProof.Rows
/-! ### own exceptions with fields over any built-in base -/
/-- what is asked of such a class C over the built-in class B -/
structure XiC (K : PySem.W.Frag) (C : Addr) (B newId initId : String) (bmB : List Value) : Prop where
  fb : PySem.XB0.XB B newId initId bmB
  sf : StoreFacts B bmB "object.__setattr__" "object"
  made : PySem.W.excInitIn K C bmB newId = true
  ov : PySem.W.excOver K C bmB = true
  hd : PySem.W.hasDictIn K C = true
  sa : PySem.W.findIn K (.ref C) "__setattr__" = some (some (.builtin "object.__setattr__"))
  bC : PySem.W.subIn K (.ref C) (.type "BaseException") = some true
  tC : PySem.W.typeIn K (.ref C) = some (.type "type")
  kC : PySem.W.keepIn K (.ref C) = true
section
variable {X : Cx} {pins : List (Addr × Obj)} {σ : St} {H : Hp} {s : Shared} {a C dx : Addr} {f : Str} {y : V} {u : Value} {fs : List (Str × V)} {Q : Unit → Shared → Prop} {E : Value → Shared → Prop} {A : Around} {B ni ii : String} {bm : List Value}
/-- e.f = y, the first field: the exception's dict is made -/
theorem xi_first (T : XiC X.K C B ni ii bm) (I : Inv X pins σ H s) (he : H a = some (exo a C none)) (ht : PySem.W.takerIn X.K C f = some none) (ry : RelV y u)
    (k : ∀ dx s', H dx = none → dx ≠ a → Inv X pins σ (upd (upd (upd H dx (exd dx [])) a (exo a C (some dx))) dx (exd dx [(f, y)])) s' → Q () s') : wpAny (model X.prog X.w) A (setAttr (.ref a) f u) Q E s := by
  obtain ⟨t1, ho⟩ := exo_at I.hok he
  obtain ⟨hp, g, dr, t, os⟩ := s
  obtain ⟨cd, hc, hdct⟩ := PySem.W.any_some T.hd
  have lt : a < hp.objs.size := Heap.lt_size ho
  refine PySem.W.set_plain I.kIn (od := none) ⟨ho, rfl, rfl, trivial⟩ T.sa ?_
  refine PySem.W.osa_openX (od := none) T.sf I.kIn ⟨ho, rfl, rfl, trivial⟩ T.ov ht fun b => ?_
  refine wpAny_bind (wpAny_pure (wpAny_bind (PySem.W.instanceDict_exc ho (PySem.W.looks_clsIn I.kIn hc) hdct ?_)))
  show wpAny _ _ (Builtin.ObjectAttr.storeInDict hp.objs.size _ f u) _ _ _
  have gd : (hp.push (PySem.W.dictOf [] 0)).get? hp.objs.size = some (PySem.W.dictOf [] 0) := Heap.get?_push_size _ rfl
  have ns0 : (hp.push (PySem.W.dictOf [] 0)).Ns1 hp.objs.size (fun _ => none) := Heap.Ns1.of_empty ⟨_, #[], _, gd, rfl, fun e he => absurd he (by simp), fun _ => rfl⟩
  have J1 := I.laid (a := hp.objs.size) (o := exd hp.objs.size []) (h' := hp.push (PySem.W.dictOf [] 0)) (t' := t) (fun _ _ q => Heap.get?_push_of_some _ q) (Nat.le_refl _) (exd_ok ns0 fun _ => True.intro)
  have fr : H hp.objs.size = none := I.hok.fresh (Nat.le_refl _)
  have na : hp.objs.size ≠ a := Nat.ne_of_gt lt
  have gx := Heap.get?_update_self (fun o : Obj => { o with dict := some hp.objs.size }) (Heap.get?_push_of_some (PySem.W.dictOf [] 0) ho) rfl
  have J2 := J1.write (x := a) (e := a) (o := exo a C (some hp.objs.size)) (h' := (hp.push (PySem.W.dictOf [] 0)).update a fun o => { o with dict := some hp.objs.size }) (t' := t)
    (by rw [upd_ne na.symm, he]; exact True.intro) (.inl rfl) (fun b o hb q => (Heap.get?_update_ne _ _ _ _ hb).trans q) ⟨_, gx⟩ (exo_ok gx)
  have ns1 : ((hp.push (PySem.W.dictOf [] 0)).update a fun o => { o with dict := some hp.objs.size }).Ns1 hp.objs.size (fun _ => none) :=
    Heap.Ns1.of_empty ⟨_, #[], _, (Heap.get?_update_ne _ _ _ _ na).trans gd, rfl, fun e he => absurd he (by simp), fun _ => rfl⟩
  refine PySem.OEX.store_in_old (ns := []) ns1 Within.nil (by decide) fun h' tk' hn' sb => ?_
  have ex : ∃ o, h'.get? hp.objs.size = some o := by
    obtain ⟨o, _, _, q, _⟩ := hn'
    exact ⟨o, q⟩
  exact k hp.objs.size _ fr na (J2.write (x := hp.objs.size) (e := hp.objs.size) (o := exd hp.objs.size [(f, y)]) (h' := h') (t' := tk')
    (by rw [upd_ne na, upd_same]; exact True.intro) (.inl rfl) (fun b o hb q => (sb.2 b hb).trans q) ex (exd_ok hn' (relO_put (fs := []) ry fun _ => True.intro)))
/-- e.f = y, a later field -/
theorem xi_later (T : XiC X.K C B ni ii bm) (I : Inv X pins σ H s) (he : H a = some (exo a C (some dx))) (hd : H dx = some (exd dx fs)) (hl : fs.length ≤ 900) (ht : PySem.W.takerIn X.K C f = some none) (ry : RelV y u)
    (k : ∀ s', Inv X pins σ (upd H dx (exd dx ((f, y) :: fs))) s' → Q () s') : wpAny (model X.prog X.w) A (setAttr (.ref a) f u) Q E s := by
  obtain ⟨t1, ho⟩ := exo_at I.hok he
  obtain ⟨mA, ns1, rel⟩ := exd_at I.hok hd
  have wi := within_of rel
  obtain ⟨hp, g, dr, t, os⟩ := s
  obtain ⟨cd, hc, hdct⟩ := PySem.W.any_some T.hd
  obtain ⟨oD, _, _, gD, _, _⟩ := ns1.count wi
  refine PySem.W.set_plain I.kIn (od := some oD) ⟨ho, rfl, rfl, gD⟩ T.sa ?_
  refine PySem.W.osa_openX (od := some oD) T.sf I.kIn ⟨ho, rfl, rfl, gD⟩ T.ov ht fun b => ?_
  refine wpAny_bind (wpAny_pure (wpAny_bind (wpAny_bind (wpAny_loadPart ho (wpAny_bind ((PySem.W.looks_clsIn I.kIn hc).at ?_))))))
  rw [hdct]
  refine wpAny_pure (a := some dx) ?_
  refine PySem.OEX.store_in_old ns1 wi (by rw [List.length_map]; omega) fun h' tk' hn' sb => ?_
  have ex : ∃ o, h'.get? dx = some o := by
    obtain ⟨o, _, _, q, _⟩ := hn'
    exact ⟨o, q⟩
  exact k _ (I.write (x := dx) (e := dx) (o := exd dx ((f, y) :: fs)) (h' := h') (t' := tk') (by rw [hd]; exact True.intro) (.inl rfl) (fun b o hb q => (sb.2 b hb).trans q) ex (exd_ok hn' (relO_put ry rel)))
/-- B.__init__(e, ..): nothing of it is told -/
theorem xi_base {us : List Value} {P : Value → Shared → Prop} (T : XiC X.K C B ni ii bm) (I : Inv X pins σ H s) (he : H a = some (exo a C none)) (hl : us.length ≤ sizeLine) (k : ∀ s', Inv X pins σ H s' → P .none s') :
    wpAny (model X.prog X.w) A (call (.builtin ii) (.ref a :: us)) P E s := by
  obtain ⟨nm, N, q, bs, bm', hdct, sn, sub, ab, col, dd, k0, k1, k2, k3, k5, hC, hT⟩ := PySem.W.excInit_of I.kIn T.made
  obtain ⟨t1, ho⟩ := exo_at I.hok he
  obtain ⟨hp, g, d, t, os⟩ := s
  refine wpAny_call (PySem.XB0.xb_init T.fb hT hC ho hl fun h' t2 kp hx => ?_)
  have J := I.write (t' := t) (x := a) (e := a) (o := exo a C none) (by rw [he]; exact True.intro) (.inl rfl) kp ⟨_, hx⟩ (exo_ok hx)
  have same : upd H a (exo a C none) = H := funext fun b => by
    by_cases hb : b = a
    · subst hb; rw [upd_same, he]
    · exact upd_ne hb
  rw [same] at J
  exact k _ J
end
/-- B.__init__(self, ..) -/
def tXi (K : PySem.W.Frag) (B ni ii : String) (bm : List Value) (ta : TA) : TE := fun σ H Q => ta σ H fun vs H1 => ∃ (a C : Addr) (ws : List V), vs = .ref a :: ws ∧ ws.length ≤ 1000 ∧ XiC K C B ni ii bm ∧ H1 a = some (exo a C none) ∧ Q .non H1
/-- self.f = e -/
def tXs (K : PySem.W.Frag) (B ni ii : String) (bm : List Value) (f : Str) (to te : TE) : TS := fun D σ H => te σ H fun y H1 => to σ H1 fun x H2 => ∃ a C : Addr, x = .ref a ∧ XiC K C B ni ii bm ∧ PySem.W.takerIn K C f = some none ∧
  ((H2 a = some (exo a C none) ∧ ∀ dx, H2 dx = none → dx ≠ a → D.nx σ (upd (upd (upd H2 dx (exd dx [])) a (exo a C (some dx))) dx (exd dx [(f, y)]))) ∨
    ∃ (dx : Addr) (fs : List (Str × V)), H2 a = some (exo a C (some dx)) ∧ H2 dx = some (exd dx fs) ∧ fs.length ≤ 900 ∧ D.nx σ (upd H2 dx (exd dx ((f, y) :: fs))))
section
variable {X : Cx} {o e : Expr} {es : List Expr} {to te : TE} {ta : TA} {f : Str} {p p' p1 p2 pos : Pos} {B ni ii : String} {bm : List Value}
theorem pe_xi {x : Str} {pl : Sem Bool} (hg : Gl X x) (hm : X.mg x = none) (hv : bootBuiltins x = some (.type B)) (hn : x ≠ "__name__") (hdb : (x == ("__debug__" : Str)) = false) (ty : typeOf (.type B) = pure (.type "type")) (vV : PySem.W.findCls X.K (.type B) (.type "type") "__init__" = some (.val (.builtin ii))) (ha : PA X (e :: es) ta)
    (stub : Manifest.isStub B = false := by decide +kernel) (hnd : PySem.W.handedIn (.builtin ii) = true := by decide +kernel)
    (hc : eval (.Call (.Attribute (.Name x p1) "__init__" p2) (e :: es) [] pos) X.env = (do
      let ov ← eval (.Name x p1) X.env
      standAt p2.atName
      let (f, first) ← holding [ov] (getMethod ov "__init__" pl)
      callWith pos f first (backTo pos (starEach (e :: es) X.env)) (backToKw pos (keywordEach [] X.env))) := by rfl)
    (he : starEach (e :: es) X.env = (false, eval e X.env) :: starEach es X.env := by rfl) (hpl : (backTo pos (starEach es X.env)).any (·.1) = false := by rfl) :
    PE X (.Call (.Attribute (.Name x p1) "__init__" p2) (e :: es) [] pos) (tXi X.K B ni ii bm ta) := by
  refine ⟨fun pins s σ H Q I h => ?_⟩
  refine PySem.W.methodCall_KW (ld_blt I hg hm hv ?_ hn hdb) hc
  obtain ⟨m, fr⟩ := I.fr
  refine PySem.W.method_type fr I.ok.mod.kin ty stub vV hnd ?_
  show wpAny _ _ (callWith pos (Value.builtin ii) [] (backTo pos (starEach (e :: es) X.env)) []) _ _ _
  refine PyProof.Rows.callWith_method1 (thn (ha.run pos pins _ σ H _ (I.tok _) h) fun us s1 z => ?_) he hpl
  obtain ⟨vs, H1, J, r, a, C, ws, rfl, hl, T, ea, q⟩ := z
  cases r with
  | @cons _ u0 _ ur ra rw' =>
    cases (show u0 = Value.ref a from ra)
    exact xi_base T J ea (by rw [← Paired.length rw', sizeLine_eq]; omega) fun s' J' => ⟨.non, H1, J', rfl, q⟩
theorem ps_xs (ho : PE X o to) (he : PE X e te) (hs : swapsWith e (some (.Attribute o f p')) pos.line X.env = pure false := by rfl) : PS X (.Assign [.Attribute o f p'] e pos) (tXs X.K B ni ii bm f to te) := by
  refine ⟨fun pins s σ H D I h => plainObj_wpAny_Assign_Attribute (thn (he.run pins s σ H _ I h) fun v s1 z1 => ?_) hs⟩
  obtain ⟨y, H1, J1, ry, q1⟩ := z1
  refine thn (ho.run pins s1 σ H1 _ J1 q1) fun u s2 z2 => ?_
  obtain ⟨x, H2, J2, rx, a, C, rfl, T, ht, q⟩ := z2
  cases (show u = Value.ref a from rx)
  rcases q with ⟨ea, q⟩ | ⟨dx, fs, ea, ed, hl, q⟩
  · exact xi_first T J2 ea ht ry fun dx s' n ne J => ⟨σ, _, J, q dx n ne⟩
  · exact xi_later T J2 ea ed hl ht ry fun s' J => ⟨σ, _, J, q⟩
/-- C(e, ..), C's own __init__ keeping sp -/
theorem pmk_xi {CX : CXT} {x : Str} {C fI : Addr} {k : Nat} {fd : FuncData} {ps : List Str} {sp : Sp} {ds : List Value} {dvs : List V} (T : XiC X.K C B ni ii bm) (iC : PySem.W.findIn X.K (.ref C) "__init__" = some (some (.ref fI))) (tI : PySem.W.typeIn X.K (.ref fI) = some (.type "function"))
    (F1 : FnOk X.prog X.w X.K X.mg X.base CX k fI fd ps sp) (hr : Room (k + 1) X.A) (hb : Binds X.K fd ps ds) (hd : Vals dvs ds) (hx : Passes CX X (fun _ _ _ => False)) (hg : Gl X x) (hm : X.mg x = some (.ref C)) (ha : PA X (e :: es) ta)
    (hdb : (x == ("__debug__" : Str)) = false := by decide) (he : starEach (e :: es) X.env = (false, eval e X.env) :: starEach es X.env := by rfl) (hpl : (backTo pos (starEach es X.env)).any (·.1) = false := by rfl) :
    PMk X (.Call (.Name x p) (e :: es) [] pos) (tMkO C sp dvs ta) := by
  intro pins s σ H Q I h
  refine wpAny_Call_Name_kw (ld_glob I hg hm ?_ hdb)
  refine PySem.W.callWith_K (h₀ := X.base) I.ok.mod.kin T.kC (thn (ha.run pos pins s σ H _ I h) fun us s1 z => ?_) he hpl
  obtain ⟨vs, H1, J, r, hz, q⟩ := z
  refine ⟨J.kIn, ?_⟩
  show wpAny _ _ (call (.ref C) us) _ _ _
  obtain ⟨nm, N, qn, bs, bm', hdct, sn, sub, ab, col, dd, k0, k1, k2, k3, k5, hC, hT⟩ := PySem.W.excInit_of J.kIn T.made
  obtain ⟨hp, g, dr, tk, os⟩ := s1
  have n1 : hp.objs.size ≤ hp.objs.size + 1 := Nat.le_succ _
  have Z := q (hp.objs.size + 1) (J.hok.fresh n1)
  have kp : ∀ b o, hp.get? b = some o → ((hp.push (PySem.W.kdv_tup us)).push (PySem.HandSPX.excO C hp.objs.size)).get? b = some o := fun _ _ z => Heap.get?_push_of_some _ (Heap.get?_push_of_some _ z)
  have gt : ((hp.push (PySem.W.kdv_tup us)).push (PySem.HandSPX.excO C hp.objs.size)).get? (hp.objs.size + 1) = some (PySem.HandSPX.excO C hp.objs.size) := by heap_get
  have J2 := J.laid (t' := tk) (a := hp.objs.size + 1) (o := exo (hp.objs.size + 1) C none) (h' := (hp.push (PySem.W.kdv_tup us)).push (PySem.HandSPX.excO C hp.objs.size)) kp n1 (exo_ok gt)
  have r2 : Vals (V.ref (hp.objs.size + 1) :: (vs ++ dvs)) (Value.ref (hp.objs.size + 1) :: (us ++ ds)) := .cons rfl (r.append hd)
  have zl : (Value.ref (hp.objs.size + 1) :: us ++ ds).length = ps.length := (r2.length.symm.trans (F1.len _ _ _ _ Z)).symm ▸ rfl
  refine wpAny_call (PySem.XB0.xb_call T.fb hT hC (PySem.W.looks_findIn J.kIn iC) (fun self => PySem.W.bind_fn J.kIn self tI) (by rw [← Paired.length r, sizeLine_eq]; omega)
    (codeAny_mono (F1.run _ X.stack _ _ ⟨Value.ref (hp.objs.size + 1) :: us, []⟩ (Value.ref (hp.objs.size + 1) :: (us ++ ds)) _ _ (fun _ _ _ => False) (hr.make C us []) (J2.env0.make C us []) (hb _ (Value.ref (hp.objs.size + 1) :: us) J2.kIn zl) r2 Z) fun rs s' z => ?_))
  cases rs with
  | error er => exact hx pins σ _ _ er s' J2 z
  | ok fl =>
    cases fl with
    | ret u =>
      obtain ⟨v, H2, os2, bare2, un2, hok2, rv, ev, d, fs, ea, ed, hd1, q2⟩ := z
      subst ev
      obtain ⟨h2, g2, d2, t2, os'⟩ := s'
      exact ⟨rv, mk_end (raises_own T.bC T.tC) J n1 kp un2 hok2 os2 bare2 ea ed hd1 q2⟩
    | _ => exact False.elim z
end
end L2
namespace L2
open PySem PySem.Spec PyProof.Rows
/-! ### what the written part says of such a class -/
structure ExF (K : PySem.W.Frag) (mg : Str → Option Value) (x : Str) (C : Addr) (B ni ii : String) (bm : List Value) : Prop where
  gC : mg x = some (.ref C)
  xi : XiC K C B ni ii bm
  iC : PySem.W.isClsIn K C = true
  sC : PySem.W.subIn K (.ref C) (.ref C) = some true
  ok : ExcC K C
  xf : XfC K C
section
variable {K : PySem.W.Frag} {mg : Str → Option Value} {x : Str} {C D : Addr} {B ni ii : String} {bm : List Value} {b : Bool} {T : String} {f : Str}
theorem ExF.tC (E : ExF K mg x C B ni ii bm) : PySem.W.typeIn K (.ref C) = some (.type "type") := E.xi.tC
theorem ExF.bC (E : ExF K mg x C B ni ii bm) : PySem.W.subIn K (.ref C) (.type "BaseException") = some true := E.xi.bC
/-- which clause takes an exception -/
theorem exm_of (s : PySem.W.subIn K (.ref C) (.ref D) = some b) (bD : PySem.W.subIn K (.ref D) (.type "BaseException") = some true) (iD : PySem.W.isClsIn K D = true) (tD : PySem.W.typeIn K (.ref D) = some (.type "type")) : PySem.W.exmOne K (.ref C) (.ref D) = some b := by
  have q : (PySem.W.clsIn K D).isSome = true := iD
  show (if (PySem.W.subIn K (.ref D) (.type "BaseException") == some true) = true then (if ((PySem.W.clsIn K D).isSome && PySem.W.typeIn K (.ref D) == some (.type "type")) = true then PySem.W.subIn K (.ref C) (.ref D) else none) else none) = some b
  rw [if_pos (by rw [bD]; rfl), if_pos (by rw [q, tD]; rfl), s]
theorem ExF.te (E : ExF K mg x C B ni ii bm) : PySem.W.exmOne K (.ref C) (.ref C) = some true := exm_of E.sC E.bC E.iC E.tC
theorem kit_exT (s : PySem.W.subIn K (.ref C) (.type T) = some b) (m : PySem.W.kitMeta T = true := by decide +kernel) : PySem.W.kitOne K (.ref C) (.type T) = some b := by
  have n : (Value.ref C == Value.type T) = false := by
    apply beq_eq_false_iff_ne.mpr
    intro z
    cases z
  show (if (Value.ref C == Value.type T) = true then some true else if PySem.W.kitMeta T = true then PySem.W.subIn K (.ref C) (.type T) else none) = some b
  rw [n, if_neg (by decide), if_pos m, s]
theorem kit_exC (s : PySem.W.subIn K (.ref C) (.ref D) = some b) (iD : PySem.W.isClsIn K D = true) (tD : PySem.W.typeIn K (.ref D) = some (.type "type")) (sD : PySem.W.subIn K (.ref D) (.ref D) = some true) : PySem.W.kitOne K (.ref C) (.ref D) = some b := by
  have q : (PySem.W.clsIn K D).isSome = true := iD
  show (if (Value.ref C == Value.ref D) = true then some true else if ((PySem.W.clsIn K D).isSome && PySem.W.typeIn K (.ref D) == some (.type "type")) = true then PySem.W.subIn K (.ref C) (.ref D) else none) = some b
  by_cases e : C = D
  · subst e
    rw [if_pos (by simp)]
    exact sD.symm.trans s
  · rw [if_neg (by simpa using e), if_pos (by rw [q, tD]; rfl), s]
theorem taker_none (h : PySem.W.findIn K (.ref C) f = some none) : PySem.W.takerIn K C f = some none := by
  unfold PySem.W.takerIn
  rw [h]
  rfl
end
/-- what such a class's heap is behind its __init__, once the exception is let go -/
theorem fresh_xd {H : Hp} {a d : Addr} {C : Addr} {fs gs : List (Str × V)} (ha : H a = none) (n : d ≠ a) :
    upd (del (upd (upd (upd (upd H a (exo a C none)) d (exd d gs)) a (exo a C (some d))) d (exd d fs)) a) d (.xd fs) = upd H d (.xd fs) := funext fun b => by
  by_cases h : b = d
  · subst h; rw [upd_same, upd_same]
  · rw [upd_ne h, upd_ne h]
    by_cases h2 : b = a
    · subst h2; rw [del_same, ha]
    · rw [del_ne h2, upd_ne h, upd_ne h2, upd_ne h, upd_ne h2]
end L2

namespace L2
open PySem PySem.Spec PyProof.Rows
/-! ### several except clauses, each with a name or none -/
abbrev Hd := Value × Option Nat × (Addr → Value → Option Addr → TS)
/-- the ends of a suite whose name, slot i, is taken away behind it -/
def outOf (i : Nat) (D : Ends) : Ends := { nx := fun τ G => D.nx (τ.set i none) G, rt := D.rt, bk := fun τ G => D.bk (τ.set i none) G, ct := fun τ G => D.ct (τ.set i none) G }
/-- what the clauses wish of an exception of the body -/
def wLs (K : PySem.W.Frag) (Wout : WX) (D : Ends) : List Hd → WX
  | [] => Wout
  | (c, none, ts) :: r => fun cls d σ H => ∃ b, PySem.W.exmOne K cls c = some b ∧ (b = true → ∀ e, H e = none → ts e cls d D σ H) ∧ (b = false → wLs K Wout D r cls d σ H)
  | (c, some i, ts) :: r => fun cls d σ H => ∃ b, PySem.W.exmOne K cls c = some b ∧ (b = true → ∀ e, H e = none → ts e cls d (outOf i D) (σ.set i (some (.ref e))) H) ∧ (b = false → wLs K Wout D r cls d σ H)
/-- the readings of the clauses -/
inductive HdLs (X : Cx) : List ExceptHandler → List Hd → Prop
  | nil : HdLs X [] []
  | bare {x : Str} {c : Value} {ts : Addr → Value → Option Addr → TS} {st : Stmt} {suite : List Stmt} {np q : Pos} {hds : List ExceptHandler} {l : List Hd} (hc : Names X x c)
      (hs : ∀ (e : Addr) (oe : Obj) (cls : Value) (d : Option Addr) (pn : List (Addr × Obj)), Zc cls d oe → (∃ vs, oe.data = .fields vs) → PSs (X.suite e ((e, oe) :: pn)) (st :: suite) (ts e cls d)) (r : HdLs X hds l) :
      HdLs X (.ExceptHandler (some (.Name x np)) none (st :: suite) q :: hds) ((c, none, ts) :: l)
  | named {x n : Str} {i : Nat} {c : Value} {ts : Addr → Value → Option Addr → TS} {st : Stmt} {suite : List Stmt} {np q : Pos} {hds : List ExceptHandler} {l : List Hd} (hi : X.N[i]? = some n) (hn : X.env.kindOf n = some .local) (hc : Names X x c)
      (hs : ∀ (e : Addr) (oe : Obj) (cls : Value) (d : Option Addr) (pn : List (Addr × Obj)), Zc cls d oe → (∃ vs, oe.data = .fields vs) → PSs (X.suite e ((e, oe) :: pn)) (st :: suite) (ts e cls d)) (r : HdLs X hds l) :
      HdLs X (.ExceptHandler (some (.Name x np)) (some n) (st :: suite) q :: hds) ((c, some i, ts) :: l)
section
variable {X : Cx} {body : List Stmt} {h1 : ExceptHandler} {hds : List ExceptHandler} {l : List Hd} {pos : Pos} {tb : WX → TS} {Wout : WX}
theorem ps_try_ls (nd : X.N.Nodup) (hst : X.stack = X.env :: X.outer) (hfr : X.env.frame = some X.env.locals) (tk : Takes X Wout)
    (hb : ∀ (W : WX) (pn : List (Addr × Obj)) (xe : Value → Shared → Prop), Takes (X.tr pn xe) W → PassesOwn (model X.prog X.w) X.A X.env xe → PSs (X.tr pn xe) body (tb W))
    (hh : HdLs X (h1 :: hds) l) : PS X (.Try body (h1 :: hds) [] [] pos) (fun D σ H => tb (wLs X.K Wout D l) D σ H) := by
  refine ⟨fun pins s σ H D I h => wpAny_Try_except ?_⟩
  have ok := I.ok
  have fA : X.A.frames = some (X.env :: X.outer) := ok.frames.trans (congrArg some hst)
  refine wpAny_mono ((hb (wLs X.K Wout D l) (X.pn ++ pins) (fun e s₁ => wpAny (model X.prog X.w) X.A (noteFrame e X.env) (fun _ s₂ => wpAny (model X.prog X.w) X.A (setFlight e none) (fun _ s₃ =>
    wpAny (model X.prog X.w) X.A (handleBy e X.env (h1 :: hds)) (SP X pins D) X.xe s₃) X.xe s₂) X.xe s₁) (fun u s' z => ?_) PassesOwn.looking).run [] s σ H D (I.toTry _) h) (fun fl s1 z => ?_) (fun _ _ z => z)
  · obtain ⟨x, M, s0, p0, τ, G, cls, d, rfl, J0, nb, up, sky0, nx, os, ag, w⟩ := z
    have J : Inv X pins τ G s0 := J0.ofTry ok
    have sky : Sky M (X.env :: X.outer) x (Zc cls d) X.env.locals s'.heap := hst ▸ sky0
    show wpAny (model X.prog X.w) X.A (noteFrame (.ref x) X.env) _ _ _
    refine Sky.land Zc.steady fA hfr sky fun h3 fl3 up3 => ?_
    have J3 : Inv X pins τ G { s' with heap := h3 } := J.landed nb fl3.1 (up.trans up3) os ag
    obtain ⟨oe3, vs3, ge3, hz3, dd3⟩ := fl3.there
    have nfr : x ∉ frs (X.env :: X.outer) := fun hm => by
      obtain ⟨_, o', e', ne⟩ := fl3.2.2.1.mem hm
      rw [ge3] at e'; cases e'
      exact ne _ dd3
    have nL : x ≠ X.env.locals := fun z => nfr (List.mem_filterMap.mpr ⟨X.env, .head _, by rw [hfr, z]⟩)
    have nF : x ∉ X.fs := fun hm => by
      obtain ⟨v, hv, q⟩ := List.mem_filterMap.mp hm
      exact nfr (List.mem_filterMap.mpr ⟨v, .tail _ hv, q⟩)
    have S3 := J3.suite ge3 dd3 nx nL nF
    have LT : PySem.W.Looks (model X.prog X.w) h3 (typeOf (.ref x)) cls := fun A Q E s k q => wpAny_typeOf_ref (k _ _ ge3) (by rw [hz3.1]; exact q)
    have go : ∀ {us : List ExceptHandler} {m : List Hd}, HdLs X us m → wLs X.K Wout D m cls d τ G → wpAny (model X.prog X.w) X.A (handleBy (.ref x) X.env us) (SP X pins D) X.xe { s' with heap := h3 } := by
      intro us m hk
      have look : ∀ {y : Str} {c : Value} {np : Pos} {Q : Value → Shared → Prop} {E : Value → Shared → Prop}, Names X y c → Q c { s' with heap := h3 } → wpAny (model X.prog X.w) (X.A.mark (some (.ref x))) (eval (.Name y np) X.env) Q E { s' with heap := h3 } := fun {y c np Q E} hc q => by
        obtain ⟨g1, g2, g3 | ⟨g3, g4, g5⟩⟩ := hc
        · exact ld_glob (X := X.suite x ((x, oe3) :: (X.pn ++ pins))) S3 g1 g3 q g2
        · exact ld_blt (X := X.suite x ((x, oe3) :: (X.pn ++ pins))) S3 g1 g3 g4 q g5 g2
      induction hk with
      | nil =>
        intro w
        refine wpAny_handleBy_nil ?_
        obtain ⟨k1, k2, k3, oe, vs, T, oT, ts', he, hz, hd, h1, hr⟩ := id fl3
        unfold PySem.passOn
        refine wpAny_bind (wpAny_field he hd h1 ?_)
        rw [if_neg (show ¬ ((Value.ref T == Value.none) = true) from by simp)]
        have off : wpAny (model X.prog X.w) X.A (setFlight (.ref x) X.env.frame) (fun _ s4 => wpAny (model X.prog X.w) X.A (throw (.ref x) : Sem Flow) (SP X pins D) X.xe s4) X.xe { s' with heap := h3 } := by
          rw [hfr]
          exact HandSPX.setFlight_upZ fl3 fun h4 hh4 up4 => wpAny_throw (tk _ _ ⟨x, M, s0, pins, τ, G, cls, d, rfl, J, nb, (up.trans up3).trans up4, .inr (.inr (by rw [hst]; exact hh4)), nx, os, ag, w⟩)
        first | exact wpAny_bind (wpAny_pure (wpAny_bind off)) | exact wpAny_bind off
      | @bare y c ts st suite np q us2 m2 hc hs r ih =>
        intro w
        obtain ⟨b, hm, hyes, hno⟩ := w
        refine wpAny_handleBy_cons (codeAny_handlers_test (look hc ((PySem.W.exm_one (M := model X.prog X.w) J3.kIn LT hm).here ?_))) (fun z => nomatch z)
        cases b with
        | false => exact ih (hno rfl)
        | true =>
          refine codeAny_handlers_suite (HandSPX.lands_againZ fl3 fun h4 fl4 up4 => ?_)
          obtain ⟨oe4, vs4, ge4, hz4, dd4⟩ := fl4.there
          have S4 := (J.landed nb fl4.1 ((up.trans up3).trans up4) os ag : Inv X pins τ G { s' with heap := h4 }).suite ge4 dd4 nx nL nF
          refine wpAny_mono ((hs x oe4 cls d (X.pn ++ pins) hz4 ⟨_, dd4⟩).run [] _ _ G _ S4 (hyes rfl x nx)) (fun f s6 z => ?_) (fun _ _ z => z.elim)
          cases f with
          | ret u => exact let ⟨v6, τ6, G6, S6, r6, q6⟩ := z; ⟨v6, τ6, G6, S6.unsuite ok, r6, q6⟩
          | _ => exact let ⟨τ6, G6, S6, q6⟩ := z; ⟨τ6, G6, S6.unsuite ok, q6⟩
      | @named y n i c ts st suite np q us2 m2 hi hn hc hs r ih =>
        intro w
        obtain ⟨b, hm, hyes, hno⟩ := w
        refine wpAny_handleBy_cons (codeAny_handlers_test (look hc ((PySem.W.exm_one (M := model X.prog X.w) J3.kIn LT hm).here ?_))) (fun z => nomatch z)
        cases b with
        | false => exact ih (hno rfl)
        | true =>
          refine codeAny_handlers_suite_as (HandSPX.lands_againZ fl3 fun h4 fl4 up4 => ?_)
          obtain ⟨oe4, vs4, ge4, hz4, dd4⟩ := fl4.there
          have S4 := (J.landed nb fl4.1 ((up.trans up3).trans up4) os ag : Inv X pins τ G { s' with heap := h4 }).suite ge4 dd4 nx nL nF
          refine store_ok (X := X.suite x ((x, oe4) :: (X.pn ++ pins))) (v := .ref x) S4 nd hi (.inl hn) rfl (fun s5 S5 => ?_) (.inr hn)
          refine wpAny_mono ((hs x oe4 cls d (X.pn ++ pins) hz4 ⟨_, dd4⟩).run [] s5 _ G _ S5 (hyes rfl x nx)) (fun f s6 z => ?_) (fun _ _ z => z.elim)
          have away : ∀ {τ6 : St} {G6 : Hp} {Q : Shared → Prop}, Inv (X.suite x ((x, oe4) :: (X.pn ++ pins))) [] τ6 G6 s6 → (∀ s7, Inv X pins (τ6.set i none) G6 s7 → Q s7) →
              wpAny (model X.prog X.w) X.A (do bindName X.env n .none; unbindBehindTheSuite X.env n q) (fun _ s7 => Q s7) X.xe s6 := fun {τ6 G6 Q} S6 hq => gone_ok (S6.unsuite ok) nd hi hn hq
          cases f with
          | ret u => exact let ⟨v6, τ6, G6, S6, r6, q6⟩ := z; away S6 fun s7 J7 => ⟨v6, _, _, J7, r6, q6⟩
          | _ => exact let ⟨τ6, G6, S6, q6⟩ := z; away S6 fun s7 J7 => ⟨_, _, J7, q6⟩
    exact go hh w
  · cases fl with
    | next => exact let ⟨τ, G, J, q⟩ := z; wpAny_execs_nil ⟨τ, G, J.ofTry ok, q⟩
    | ret u => exact let ⟨v, τ, G, J, r, q⟩ := z; ⟨v, τ, G, J.ofTry ok, r, q⟩
    | _ => exact let ⟨τ, G, J, q⟩ := z; ⟨τ, G, J.ofTry ok, q⟩
end
end L2

namespace L2
open PySem PySem.Spec PyProof.Rows
/-! ### != of two objects with an own __eq__ and no own __ne__ -/
section
variable {M : Model} {A : Around} {E : Value → Shared → Prop} {s : Shared} {K : PySem.W.Frag} {x C : Addr} {ox : Obj} {od : Option Obj}
theorem ifBound_objNe {args : List Value} {Q : Option Value → Shared → Prop} (X : K.In s.heap) (I : PySem.W.InstAt s.heap x ox C od) (hs : PySem.W.findIn K (.ref C) "__ne__" = some (some (.builtin "object.__ne__")))
    (h : wpAny M A (call (.builtin "object.__ne__") (.ref x :: args)) (fun v => Q (some v)) E s) : wpAny M A (callSpecialIfBound? (.ref x) "__ne__" args) Q E s := by
  simp only [callSpecialIfBound?, bindSpecialIfBound?]
  refine wpAny_holding (wpAny_bind (wpAny_bind (wpAny_bind (I.type.here ((PySem.W.looks_findIn X hs).here ?_)))))
  refine wpAny_bind (wpAny_askSetting (wpAny_ite ?_))
  have fin : wpAny M A (call (.builtin "object.__ne__") ([.ref x] ++ args) >>= fun v => pure (some v)) Q E s := wpAny_bind (wpAny_mono h (fun v s' h' => wpAny_pure h') fun _ _ h' => h')
  split
  · exact wpAny_bind (wpAny_of_eq (F.cmp_object.ne.bind _) (wpAny_pure (by exact fin)))
  · exact wpAny_tryCatch (wpAny_bind (wpAny_of_eq (F.cmp_object.ne.bind _) (wpAny_pure (by exact fin))))
end
section
variable {X : Cx}
def rNeO (C : Addr) (sp : Sp) (E : XK) : V → V → Hp → VK → Prop := fun x y H Q => ∃ (a b dx dy : Addr) (fs gs : List (Str × V)), x = .ref a ∧ y = .ref b ∧ H a = some (.ins C dx fs) ∧ H b = some (.ins C dy gs) ∧
  sp [.ref a, .ref b] H (fun v H' => ∃ r : Bool, v = .bl r ∧ Q (.bl (!r)) H') E
theorem op_neO {CX : CXT} {n : Nat} {C f : Addr} {fd : FuncData} {ps : List Str} {ds : List Value} {sp : Sp} {E : XK} (hn : PySem.W.findIn X.K (.ref C) "__ne__" = some (some (.builtin "object.__ne__"))) (hm : PySem.W.mroIn X.K C (.type "object") = some true)
    (hs : PySem.W.findIn X.K (.ref C) "__eq__" = some (some (.ref f))) (hf : PySem.W.isFn X.K (.ref f) = true)
    (Fk : FnOk X.prog X.w X.K X.mg X.base CX n f fd ps sp) (hr : Room (n + 1) X.A) (hb : Binds X.K fd ps ds) (hd : Vals [] ds) (hx : Passes CX X E) : OpR X (compareOp .NotEq) (rNeO C sp E) := by
  cases hd
  intro pins s σ H x y v u Q I rx ry h
  obtain ⟨a, b, dx, dy, fs, gs, rfl, rfl, ha, hb', hsp⟩ := h
  cases rx
  cases ry
  obtain ⟨mA, J, _⟩ := ins_get I.hok ha
  obtain ⟨mB, J', _⟩ := ins_get I.hok hb'
  obtain ⟨od, J, _⟩ := J.look
  obtain ⟨od', J', _⟩ := J'.look
  have XK := I.kIn
  have hu := hr.units0
  show wpAny (model X.prog X.w) X.A (richCompare .NotEq (.ref a) (.ref b)) (EP X pins σ Q) X.xe s
  have one : wpAny (model X.prog X.w) X.A (tryCompare (.ref a) "__ne__" (.ref b)) (fun r s' => ∃ v, r = some v ∧ EP X pins σ Q v s') X.xe s := by
    unfold tryCompare
    refine wpAny_bind (ifBound_objNe XK J hn ?_)
    refine wpAny_call (codeAny_call_builtin PySem.F.cmp_object.ne.plain PySem.F.cmpEntry_ne (PySem.W.check_slot PySem.F.cmpKind_ne PySem.F.cmpSplit_ne (J.type.andThen (PySem.W.looks_mroIn XK hm)) (PySem.F.cmpArgs_ne _ _) ?_))
    unfold Builtin.«object.__ne__»
    refine wpAny_bind (m := slotArgs "__ne__" 1 _) (wpAny_pure ?_)
    dsimp only
    refine wpAny_bind (wpAny_cRoomFor hr.in1.units0 ?_)
    refine wpAny_bind (PySem.W.ifBound_K XK J hs hf ?_)
    refine wpAny_mono (own_run Fk hb hx (Sub.in1 ⟨hr, rfl⟩) I (show Vals [V.ref a, V.ref b] [Value.ref a, Value.ref b] from .cons rfl (.cons rfl .nil)) hsp) (fun v s' z => ?_) fun _ _ e => ?_
    · obtain ⟨x, H', I', rv, r, rfl, q⟩ := z
      cases rv
      refine wpAny_bind (wpAny_truthy_bool ?_)
      refine wpAny_pure ?_
      show wpAny (model X.prog X.w) X.A (pure (some (Value.bool !r))) _ _ s'
      exact wpAny_pure ⟨_, rfl, ⟨.bl (!r), H', I', rfl, q⟩⟩
    · exact e
  simp only [richCompare, oneThing_ref]
  refine wpAny_holding (wpAny_bind (wpAny_cRoomFor hu ?_))
  refine wpAny_bind (J.type.here (wpAny_bind (J'.type.here ?_)))
  split
  · rename_i q
    simp at q
  · refine wpAny_bind (wpAny_pure ?_)
    simp only [Bool.false_eq_true, if_false]
    refine wpAny_bind (wpAny_mono one (fun r s' z => ?_) fun _ _ e => e)
    obtain ⟨v, rfl, hq⟩ := z
    exact wpAny_pure hq
end
end L2

namespace L2
open PySem PySem.Spec PyProof.Rows
/-! ### == of an object with an own __eq__ and what is no object -/
/-- the built-in type of a value that is no object -/
def TyBI (K : PySem.W.Frag) (H : Hp) : V → String → Prop
  | .str _, t => t = "str"
  | .int _, t => t = "int"
  | .bl _, t => t = "bool"
  | .non, t => t = "NoneType"
  | .ref p, t => (t = "list" ∧ ∃ xs, SqL K H p xs) ∨ (t = "tuple" ∧ ∃ xs, SqT K H p xs)
  | _, _ => False
theorem sub_b {K : PySem.W.Frag} {C : Addr} {t : String} (h : t = "str" ∨ t = "int" ∨ t = "bool" ∨ t = "NoneType" ∨ t = "list" ∨ t = "tuple") : PySem.W.subIn K (.type t) (.ref C) = some false := by
  have e : ∀ t ∈ ["str", "int", "bool", "NoneType", "list", "tuple"], ∃ l : List String, fastBuiltinMro t = some (l.map Value.type) := by
    intro t ht
    simp only [List.mem_cons, List.not_mem_nil, or_false] at ht
    rcases ht with rfl | rfl | rfl | rfl | rfl | rfl
    · exact ⟨["str", "object"], by decide +kernel⟩
    · exact ⟨["int", "object"], by decide +kernel⟩
    · exact ⟨["bool", "int", "object"], by decide +kernel⟩
    · exact ⟨["NoneType", "object"], by decide +kernel⟩
    · exact ⟨["list", "object"], by decide +kernel⟩
    · exact ⟨["tuple", "object"], by decide +kernel⟩
  obtain ⟨l, hl⟩ := e t (by simpa using h)
  show (fastBuiltinMro t).map (·.contains (.ref C)) = some false
  rw [hl]
  show some ((l.map Value.type).contains (.ref C)) = some false
  congr 1
  rw [List.contains_eq_any_beq, List.any_map]
  exact List.any_eq_false.mpr fun x _ => by simp [Function.comp]
section
variable {X : Cx}
theorem look_b {pins : List (Addr × Obj)} {σ : St} {H : Hp} {s : Shared} {y : V} {u : Value} {t : String} (I : Inv X pins σ H s) (r : RelV y u) (h : TyBI X.K H y t) : (∀ s1 : Shared, (∀ b o, s.heap.get? b = some o → s1.heap.get? b = some o) → s1.TypeIs u t) ∧ (t = "str" ∨ t = "int" ∨ t = "bool" ∨ t = "NoneType" ∨ t = "list" ∨ t = "tuple") := by
  cases y with
  | str z =>
    obtain ⟨k, rfl⟩ := r
    cases (show t = "str" from h)
    exact ⟨fun _ _ => rfl, .inl rfl⟩
  | int z =>
    obtain ⟨k, rfl⟩ := r
    cases (show t = "int" from h)
    exact ⟨fun _ _ => rfl, .inr (.inl rfl)⟩
  | bl z =>
    cases r
    cases (show t = "bool" from h)
    exact ⟨fun _ _ => rfl, .inr (.inr (.inl rfl))⟩
  | non =>
    cases r
    cases (show t = "NoneType" from h)
    exact ⟨fun _ _ => rfl, .inr (.inr (.inr (.inl rfl)))⟩
  | ref p =>
    cases r
    rcases (show (t = "list" ∧ ∃ xs, SqL X.K H p xs) ∨ (t = "tuple" ∧ ∃ xs, SqT X.K H p xs) from h) with ⟨rfl, xs, hx⟩ | ⟨rfl, xs, hx⟩
    · obtain ⟨its, _, pl, _⟩ := I.list hx
      obtain ⟨o, ho, hc, _⟩ := pl.isList
      exact ⟨fun _ k => ⟨o, k _ _ ho, hc⟩, by simp⟩
    · obtain ⟨its, _, pl, _⟩ := I.tuple hx
      obtain ⟨o, ho, hc, _⟩ := pl
      exact ⟨fun _ k => ⟨o, k _ _ ho, hc⟩, by simp⟩
  | _ => exact (show False from h).elim
/-- o == y, y no object -/
def rEqOB (K : PySem.W.Frag) (C : Addr) (sp : Sp) (E : XK) : V → V → Hp → VK → Prop := fun x y H Q => ∃ (a dx : Addr) (fs : List (Str × V)) (t : String), x = .ref a ∧ H a = some (.ins C dx fs) ∧ TyBI K H y t ∧
  sp [.ref a, y] H (fun v H' => ∃ r : Bool, v = .bl r ∧ Q (.bl r) H') E
theorem op_eqOB {K : PySem.W.Frag} {CX : CXT} {n : Nat} {C f : Addr} {fd : FuncData} {ps : List Str} {ds : List Value} {sp : Sp} {E : XK} (hs : PySem.W.findIn X.K (.ref C) "__eq__" = some (some (.ref f))) (hf : PySem.W.isFn X.K (.ref f) = true)
    (F : FnOk X.prog X.w X.K X.mg X.base CX n f fd ps sp) (hr : Room n X.A) (hb : Binds X.K fd ps ds) (hd : Vals [] ds) (hx : Passes CX X E) (hK : X.K = K := by rfl) : OpR X (compareOp .Eq) (rEqOB K C sp E) := by
  subst hK
  cases hd
  intro pins s σ H x y v u Q I rx ry h
  obtain ⟨a, dx, fs, t, rfl, ha, ty, hsp⟩ := h
  cases rx
  obtain ⟨mA, J, _⟩ := ins_get I.hok ha
  obtain ⟨od, J, _⟩ := J.look
  obtain ⟨hT, ht⟩ := look_b I ry ty
  obtain ⟨m, hF⟩ := I.fr
  show wpAny (model X.prog X.w) X.A (richCompare .Eq (.ref a) u) (EP X pins σ Q) X.xe s
  have hL : PySem.W.Looks (model X.prog X.w) s.heap (typeOf u) (.type t) := by
    exact fun A Q E s1 k q => wpAny_typeOf (hT s1 k) q
  refine PySem.W.cmp_K (op := .Eq) (tb := .type t) hr.units0 hF I.ok.mod.kin J hL (by simp [PySem.W.notFirst, sub_b ht]) hs hf ?_
  refine wpAny_mono (own_run F hb hx ⟨hr, rfl⟩ I (show Vals [V.ref a, y] [Value.ref a, u] from .cons rfl (.cons ry .nil)) hsp) (fun v s' z => ?_) fun _ _ e => e
  obtain ⟨x, H', I', rv, r, rfl, q⟩ := z
  cases rv
  exact ⟨.bl r, H', I', rfl, q⟩
end
end L2

namespace L2
open PySem PySem.Spec PyProof.Rows
/-! ### str(x) by an own __str__ -/
section
variable {X : Cx}
def rStrO (C : Addr) (sp : Sp) (E : XK) : List V → Hp → VK → Prop := fun vs H Q => ∃ (a dx : Addr) (fs : List (Str × V)), vs = [.ref a] ∧ H a = some (.ins C dx fs) ∧
  sp [.ref a] H (fun v H' => ∃ z : Str, v = .str z ∧ Q (.str z) H') E
theorem call_strO {CX : CXT} {n : Nat} {C f : Addr} {fd : FuncData} {ps : List Str} {ds : List Value} {sp : Sp} {E : XK} (hs : PySem.W.findIn X.K (.ref C) "__str__" = some (some (.ref f))) (hf : PySem.W.isFn X.K (.ref f) = true)
    (F : FnOk X.prog X.w X.K X.mg X.base CX n f fd ps sp) (hr : Room (n + 2) X.A) (hb : Binds X.K fd ps ds) (hd : Vals [] ds) (hx : Passes CX X E) : CallR X (.type "str") (rStrO C sp E) := by
  cases hd
  intro pins s σ H xs us Q I r h
  obtain ⟨a, dx, fs, rfl, ha, hsp⟩ := h
  obtain ⟨u, rfl, ru⟩ := vals1 r
  cases (show u = Value.ref a from ru)
  obtain ⟨mA, J, _⟩ := ins_get I.hok ha
  obtain ⟨od, J, _⟩ := J.look
  refine PySem.W.kso_call (hr.in1 (k := n + 1)).in1.units0 I.kIn J hs hf ?_
  refine wpAny_mono (own_run F hb hx (Sub.in1 (Sub.in1 ⟨hr, rfl⟩)) I (show Vals [V.ref a] [Value.ref a] from .cons rfl .nil) hsp) (fun v s' z => ?_) fun _ _ e => e
  obtain ⟨x, H', I', rx, z, rfl, q⟩ := z
  obtain ⟨t, rfl⟩ := rx
  exact ⟨.str z, H', I', ⟨t, rfl⟩, q⟩
end
end L2

namespace L2
open PySem PySem.Spec PyProof.Rows
/-! ### e.f, over a fixed written part; != of lists whose items are the same; repr of any data -/
section
variable {X : Cx} {K : PySem.W.Frag}
theorem pe_fldK {e : Expr} {f : Str} {pos : Pos} {ta : TE} (he : PE X e ta) (hb : attributeBase e f X.env (eval e X.env) = eval e X.env) (hK : X.K = K := by rfl) : PE X (.Attribute e f pos) (tFld K ta f) := hK ▸ pe_fld he hb
/-- xs != ys, item by item the same -/
def SelfV : V → Bool
  | .ref _ => true
  | v => flatB v
def rNeS (K : PySem.W.Frag) : R2 := fun x y H Q => ∃ a b xs, x = .ref a ∧ y = .ref b ∧ SqL K H a xs ∧ SqL K H b xs ∧ xs.all SelfV = true ∧ Q (.bl false) H
theorem self_eq {A : Around} {s : Shared} {x : V} {v u : Value} (h : SelfV x = true) (rx : RelV x v) (ry : RelV x u) : SeqAt.EqAt A s v u true := by
  cases x with
  | ref a =>
    cases (show v = Value.ref a from rx)
    cases (show u = Value.ref a from ry)
    exact SeqAt.EqAt.same _
  | _ => exact eqAt_same rx ry h
theorem op_neS (hu64 : X.A.units + 64 < cLine) (hK : X.K = K := by rfl) : OpR X (compareOp .NotEq) (rNeS K) := by
  have hu : X.A.units < cLine := by omega
  subst hK
  intro pins s σ H x y v u Q I rx ry h
  obtain ⟨a, b, xs, rfl, rfl, ha, hb, hs, q⟩ := h
  cases (show v = Value.ref a from rx)
  cases (show u = Value.ref b from ry)
  obtain ⟨us, r1, p1, _⟩ := I.list ha
  obtain ⟨ws, r2, p2, _⟩ := I.list hb
  have hsz : us.toArray.size = ws.toArray.size := by rw [List.size_toArray, List.size_toArray, ← r1.length, ← r2.length]
  have key := SeqAt.RcNeAt.lists (A := X.A) (e := fun _ => true) p1.isList p2.isList hsz hu fun j h1 h2 => ?_
  · refine key _ _ _ _ ?_
    rw [show ((List.range us.toArray.size).all fun _ => true) = true from List.all_eq_true.mpr fun _ _ => rfl]
    exact ⟨.bl false, H, I, rfl, q⟩
  · have hj : j < xs.length := by
      have := r1.length
      simp only [List.size_toArray] at h1
      omega
    obtain ⟨u1, e1, x1⟩ := r1.get (i := j) (x := xs[j]) (List.getElem?_eq_getElem hj)
    obtain ⟨u2, e2, x2⟩ := r2.get (i := j) (x := xs[j]) (List.getElem?_eq_getElem hj)
    have f1 : us.toArray[j] = u1 := by
      have := (List.getElem?_eq_some_iff.mp e1).2
      simpa using this
    have f2 : ws.toArray[j] = u2 := by
      have := (List.getElem?_eq_some_iff.mp e2).2
      simpa using this
    rw [f1, f2]
    exact self_eq (List.all_eq_true.mp hs _ (List.getElem_mem hj)) x1 x2
end
end L2

namespace L2
open PySem PySem.Spec PyProof.Rows
/-! ### x.rpartition(sep) -/
section
variable {X : Cx}
def rRpart : V → List V → Hp → VK → Prop := fun x xs H Q => ∃ a b, x = .str a ∧ xs = [.str b] ∧ (b.length == 0) = false ∧ a.length ≤ sizeLine ∧
    ∀ p, H p = none → Q (.ref p) (upd H p (.tup [.str (Txt.rpartition a b).1, .str (Txt.rpartition a b).2.1, .str (Txt.rpartition a b).2.2]))
theorem mt_rpartition : MtR X "str.rpartition" rRpart := by
  intro pins s σ H x xs v us Q I rx rs h
  obtain ⟨a, b, rfl, rfl, hb, hz, h⟩ := h
  obtain ⟨t, rfl⟩ := rx
  cases rs with
  | cons r1 rs =>
    cases rs
    obtain ⟨u, rfl⟩ := r1
    refine call_meets F.slot_str_rpartition (typeIs_str _ _ _) F.entry_str_rpartition (F.args_str_rpartition_2 _ _) (meets_str_rpartition a b t u hb hz) ?_
    unfold Txt.rpartition at h
    revert h
    cases Builtin.Str.lastOccurrence a b 0 a.length with
    | none => intro h; exact laid_parts I h
    | some i => intro h; exact laid_parts I h
end
end L2

namespace L2
open PySem PySem.Spec PyProof.Rows
/-! ### defs that ask what is being shown: called where no repr is under way -/
/-- no repr is under way -/
def NoRp (A : Around) : Prop := A.guards = some []
/-- a def's promise where no repr is under way -/
structure FnG (P : Program) (w : World) (K : PySem.W.Frag) (mg : Str → Option Value) (base : Heap) (CX : CXT) (k : Nat) (f : Addr) (fd : FuncData) (ps : List Str) (sp : Sp) : Prop where
  len : ∀ vs H Q E, sp vs H Q E → vs.length = ps.length
  run : ∀ (A : Around) (outer : List Env) (s : Shared) (H : Hp) (as : Args) (us : List Value) (vs : List V) (Q : VK) (E : XK), NoRp A → Room k A → Env0 P w K mg base A outer s H → BindsTo s fd as (ps.zip us) → Vals vs us → sp vs H Q E →
    codeAny (model P w) A (.call (.ref f) as) (CR CX outer P w H s Q E) s
theorem fn_ofG {CX : CXT} {P : Program} {w : World} {K : PySem.W.Frag} {mg : Str → Option Value} {base : Heap} {k : Nat} {f : Addr} {nm ql : Str} {params : Arguments} {body : List Stmt} {scope : Scope} {dV kV doc pm cdv ct oc : Value} {an od : Option Addr}
    {osl : Array (Option Value)} {N ps : List Str} {sp : Sp} (lk : K.lookup f = some ⟨oc, od, .func (PySem.W.fnOf nm ql params body scope dV kV doc pm an cdv ct), osl⟩) (hcd : PySem.W.codeIn K cdv ql = true) (S : FnScope N ps scope)
    (len : ∀ vs H Q E, sp vs H Q E → vs.length = ps.length)
    (go : ∀ (A : Around) (outer : List Env) (s : Shared) (H : Hp) (vs : List V) (Q : VK) (E : XK), NoRp A → Room k (A.deeper (envOfC ql scope s.heap.objs.size f cdv)) → sp vs H Q E →
      ∃ t, PSs (cxOf CX P w K mg base N ql scope f cdv A outer s H E) body t ∧ t { nx := fun _ H' => Q .non H', rt := Q } (start N vs) H) :
    FnG P w K mg base CX (k + 1) f (PySem.W.fnOf nm ql params body scope dV kV doc pm an cdv ct) ps sp := by
  refine ⟨len, fun A outer s H as us vs Q E g room e0 hb r z => ?_⟩
  have inK : K.In s.heap := e0.mod.kin.keeps fun b o e => (e0.bs b o e).1
  have noLim : s.heap.NoLimit := e0.mod.nolimit.keeps fun b o e => (e0.bs b o e).1
  have kinds : ∀ y ∈ ps.zip us, scope.names.lookup y.1 = some .local ∨ (scope.names.lookup y.1 = some .cell ∧ ((cellsFrom (s.heap.objs.size + 1) scope.names []).lookup y.1).isSome = true) := fun y hy => by
    obtain ⟨n, v⟩ := y
    exact (S.par n (List.of_mem_zip hy).1).imp id fun q => ⟨q, PySem.W.cellsFrom_some _ _ _ (.inl q)⟩
  refine codeAny_call_function room.depth (inK _ _ lk) rfl S.co S.gen rfl (PySem.W.codeRec_of inK hcd) (hb _ _ _ _ ?_)
  refine wpAny_newFunctionEnv_cells S.kind kinds fun env he s1 x => ?_
  subst he
  refine ⟨noLim.keeps x.toInCall.keep, codeAny_func ?_⟩
  obtain ⟨t, ht, q⟩ := go A outer s H vs Q E g (room.deeper _) z
  have I := inv_start (CX := CX) (E := E) S room.hd e0 (len _ _ _ _ z) r x
  refine wpAny_mono (ht.run [] s1 (start N vs) H _ I q) (fun fl s' hs => ?_) fun _ _ hs => hs
  cases fl with
  | ret u => exact let ⟨v, σ', H', J, rv, q⟩ := hs; ⟨v, H', J.os, J.bare, J.base, J.hok, rv, q⟩
  | next => exact let ⟨σ', H', J, q⟩ := hs; ⟨V.non, H', J.os, J.bare, J.base, J.hok, rfl, q⟩
  | brk => exact let ⟨_, _, _, q⟩ := hs; False.elim q
  | cont => exact let ⟨_, _, _, q⟩ := hs; False.elim q
section
variable {P : Program} {w : World} {K : PySem.W.Frag} {mg : Str → Option Value} {base : Heap}
theorem Fun.okG {x ql : Str} {st : Stmt} {f : Addr} {fd : FuncData} {N ps : List Str} {k : Nat} {sp : Sp} (F : Fun K x ql st f fd) (S : FnScope N ps (defScope st)) (len : ∀ vs H Q E, sp vs H Q E → vs.length = ps.length)
    (go : ∀ (cdv : Value) (A : Around) (outer : List Env) (s : Shared) (H : Hp) (vs : List V) (Q : VK) (E : XK), NoRp A → Room k (A.deeper (envOfC ql (defScope st) s.heap.objs.size f cdv)) → sp vs H Q E →
      ∃ t, PSs (cxOf CX0 P w K mg base N ql (defScope st) f cdv A outer s H E).nox (defBody st) t ∧ t { nx := fun _ H' => Q .non H', rt := Q } (start N vs) H) : FnG P w K mg base CX0 (k + 1) f fd ps sp := by
  obtain ⟨oc, od, kV, doc, pm, an, cdv, ct, osl, rfl, lk, hcd⟩ := F.ex
  refine fn_ofG lk hcd S len fun A outer s H vs Q E g room z => ?_
  obtain ⟨t, h, q⟩ := go cdv A outer s H vs Q E g room z
  exact ⟨t, h.nox, q⟩
end
section
variable {X : Cx} {CX : CXT} {x : Str} {k : Nat} {f : Addr} {fd : FuncData} {ps : List Str} {sp : Sp} {dvs : List V} {ds : List Value} {E : XK} {e : Expr} {es : List Expr} {t : TA} {p pos : Pos}
/-- f(e, ..) where f is such a def -/
theorem pe_callG (F : FnG X.prog X.w X.K X.mg X.base CX k f fd ps sp) (g : NoRp X.A) (hr : Room k X.A) (hg : Gl X x) (hm : X.mg x = some (.ref f)) (hk : PySem.W.keepIn X.K (.ref f) = true) (hb : Binds X.K fd ps ds) (hd : Vals dvs ds) (hx : Passes CX X E)
    (ha : PA X (e :: es) t) (hdb : (x == ("__debug__" : Str)) = false := by decide) (he : starEach (e :: es) X.env = (false, eval e X.env) :: starEach es X.env := by rfl) (hpl : (backTo pos (starEach es X.env)).any (·.1) = false := by rfl) :
    PE X (.Call (.Name x p) (e :: es) [] pos) (tCall sp dvs E t) := by
  refine ⟨fun pins s σ H Q I h => wpAny_Call_Name_kw (ld_glob I hg hm ?_ hdb)⟩
  refine PySem.W.callWith_K (h₀ := X.base) I.ok.mod.kin hk (thn (ha.run pos pins s σ H _ I h) fun us s1 z => ?_) he hpl
  obtain ⟨vs, H1, J, r, q⟩ := z
  have rr : Vals (vs ++ dvs) (us ++ ds) := r.append hd
  refine ⟨J.kIn, wpAny_call (codeAny_mono (F.run X.A X.stack s1 H1 ⟨us, []⟩ (us ++ ds) (vs ++ dvs) Q E g hr J.env0 (hb s1 us J.kIn (rr.length.symm.trans (F.len _ _ _ _ q))) rr q) fun r s' z => ?_)⟩
  cases r with
  | error er => exact hx pins σ H1 s1 er s' J z
  | ok fl =>
    cases fl with
    | ret u => exact J.after z
    | _ => exact False.elim z
/-- repr(e) of data -/
def rRepr (K : PySem.W.Frag) : List V → Hp → VK → Prop := fun vs H Q => ∃ (a : Addr) (d : PyData), vs = [.ref a] ∧ Dp K H (.ref a) d ∧ d.showable = true ∧ d.hasDict = false ∧ d.shown.length ≤ sizeLine ∧ d.depth ≤ 60 ∧ Q (.str d.shown) H
theorem call_reprD {K : PySem.W.Frag} (g : NoRp X.A) (hu : X.A.units + 64 < cLine) (hK : X.K = K := by rfl) : CallR X (.builtin "repr") (rRepr K) := by
  subst hK
  intro pins s σ H xs us Q I r h
  obtain ⟨a, d, rfl, hd, h1, h2, h3, h4, q⟩ := h
  obtain ⟨u, rfl, ru⟩ := vals1 r
  obtain ⟨as, rd⟩ := Dp.reads I d _ u hd ru
  cases (show u = Value.ref a from ru)
  exact repr_of_reads' rd h1 (PyData.noDict_hsm h2) g (by omega) (fun _ _ e => e) (fun h' u tk kp => ⟨.str d.shown, H, I.kept (t' := tk) kp, ⟨_, rfl⟩, q⟩) h3
end
/-! ### the head of a law that is such a def -/
theorem law_callG {P : Program} {w : World} {K : PySem.W.Frag} {mg mb : Str → Option Value} {k : Nat} {fa a : Addr} {fd : FuncData} {x : Str} {sp : Sp} {s : Shared} {vs : List Value} {ns : List Int}
    (inK : K.In s.heap) (hns : s.heap.Ns mainGlobals mg) (hb : s.heap.Ns builtinsNs mb) (hbb : ∀ x : Str, x ≠ "__name__" → mb x = bootBuiltins x) (hlim : s.heap.NoLimit) (hg : s.gens = #[])
    (ha : s.heap.get? a = some { cls := .type "list", data := .seq vs.toArray }) (hi : IntsAre vs ns) (hl : ns.length ≤ sizeLine) (hr : Room k callerA)
    (F : ∀ base : Heap, K.In base → base.Ns mainGlobals mg → FnG P w K mg base CX0 k fa fd [x] sp) (bind : ∀ (s : Shared) (u : Value), BindsTo s fd ⟨[u], []⟩ [(x, u)])
    (hsp : ∀ H : Hp, Only H → SqL K H a (ns.map V.int) → sp [.ref a] H (fun v _ => v = .bl true) fun _ _ _ => False) :
    codeAny (model P w) callerA (.call (.ref fa) ⟨[.ref a], []⟩) (fun r s' => r = .ok (.ret (.bool true)) ∧ OldK s.heap s'.heap ∧ s'.os = s.os ∧ AllBare s'.gens) s := by
  have main : ∀ H : Hp, Only H → SqL K H a (ns.map V.int) → HOk P w H s.heap → (∀ b, H b ≠ none → b = a) → (H a ≠ none → K.lookup a = none) →
      codeAny (model P w) callerA (.call (.ref fa) ⟨[.ref a], []⟩) (fun r s' => r = .ok (.ret (.bool true)) ∧ OldK s.heap s'.heap ∧ s'.os = s.os ∧ AllBare s'.gens) s := by
    intro H only sq ok hA hK
    have free : ∀ {b : Addr} {o : Obj} {es : Array DictEntry} {ep : Nat}, s.heap.get? b = some o → o.data = .dict es ep → H b = none := fun {b o es ep} e d => Classical.byContradiction fun nn => by
      rw [hA b nn, ha] at e
      injection e with e
      rw [← e] at d
      exact nomatch d
    have ns' : ∀ {b : Addr} {m : Str → Option Value}, s.heap.Ns b m → (hidT s.heap H).Ns b m := fun {b m} z => let ⟨o, es, ep, e, d, r⟩ := z; ⟨o, es, ep, hidT_get e (free e d), d, r⟩
    have inB : K.In (hidT s.heap H) := fun b o e => hidT_get (inK b o e) (Classical.byContradiction fun nn => by
      have eb := hA b nn
      subst eb
      rw [hK nn] at e
      cases e)
    have mod : Mod K mg (hidT s.heap H) := ⟨inB, ns' hns, ⟨mb, ns' hb, hbb⟩, let ⟨mc, z1, z2⟩ := hlim; ⟨mc, ns' z1, z2⟩⟩
    have e0 : Env0 P w K mg (hidT s.heap H) callerA [] s H := ⟨rfl, mod, fun b o e => of_hidT e, Nat.le_of_eq (hidT_size _ _), trivial, fun b z => (List.not_mem_nil (show b ∈ ([] : List Addr) from z)).elim, ok, .of_eq hg⟩
    refine codeAny_mono ((F _ inB (ns' hns)).run callerA [] s H ⟨[.ref a], []⟩ [.ref a] [.ref a] _ _ rfl hr e0 (bind s (.ref a)) (.cons rfl .nil) (hsp H only sq)) fun r s' z => ?_
    rcases r with e | (_ | _ | _ | u)
    · exact z.elim
    all_goals first | exact False.elim z | skip
    obtain ⟨v, H', os, bare, un, ok', rv, q⟩ := z
    cases (show v = .bl true from q)
    cases (show u = Value.bool true from rv)
    refine ⟨rfl, OldK.of_keep fun b o e => ?_, os, bare⟩
    rcases only b with n | ⟨ob, xs, y⟩
    · exact un.keep b o e n (fun z => (List.not_mem_nil (show b ∈ ([] : List Addr) from z)).elim) (by simp)
    · obtain ⟨g1, _⟩ := ok b _ y
      obtain ⟨g2, _⟩ := ok' b _ (un.frzs b ob _ y)
      rw [e] at g1
      cases g1
      exact g2
  have rv := vals_ints hi
  by_cases hk : K.lookup a = none
  · let H0 : Hp := fun b => if b = a then some (.frz { cls := .type "list", data := .seq vs.toArray } (.lst (ns.map V.int))) else none
    have at_a : H0 a = some (.frz { cls := .type "list", data := .seq vs.toArray } (.lst (ns.map V.int))) := if_pos rfl
    have off : ∀ {b}, b ≠ a → H0 b = none := fun h => if_neg h
    refine main H0 (fun b => ?_) (.inl (.inr ⟨_, at_a⟩)) (fun b u z => ?_) (fun b z => Classical.byContradiction fun h => z (off h)) fun _ => hk
    · by_cases h : b = a
      · subst h; exact .inr ⟨_, _, at_a⟩
      · exact .inl (off h)
    · by_cases h : b = a
      · subst h
        rw [at_a] at z
        cases z
        exact ⟨ha, by rw [List.length_map]; exact hl, vs, _, rv, ha⟩
      · rw [off h] at z
        cases z
  · obtain ⟨o, ho⟩ := Option.ne_none_iff_exists'.mp hk
    have e := inK a o ho
    rw [ha] at e
    cases e
    exact main (fun _ => none) (fun _ => .inl rfl) (.inr ⟨_, vs.toArray, _, ho, rfl, rfl, rfl, by rw [List.size_toArray, hi.length]; exact hl, by simpa using rv⟩) (fun b u z => nomatch (show (none : Option HO) = some u from z)) (fun b z => absurd rfl z) fun z => absurd rfl z
theorem walk_ofG {l : PySem.W.OpenLaw} {n k : Nat} {q : Program} {loose : List Str} {XP : (Str → Option Value) → Heap → Prop} {YP : World → Heap → Prop} {d : DefRec} {K : Params → PySem.W.Frag} {sp : World → Sp} {x : Str}
    (hn : l.most = some n) (hn2 : n ≤ sizeLine) (hdf : d.params.defaults = []) (hr : Room k callerA) (hY : ∀ (w : World) (h : Heap), YP w h → (K w.params).In h)
    (F : ∀ (w : World) (mg : Str → Option Value) (fa : Addr) (h : Heap), (K w.params).In h → h.Ns mainGlobals mg → mg d.name = some (.ref fa) →
      ∃ fd : FuncData, (∀ (s : Shared) (u : Value), BindsTo s fd ⟨[u], []⟩ [(x, u)]) ∧ ∀ base : Heap, (K w.params).In base → base.Ns mainGlobals mg → FnG l.prog w (K w.params) mg base CX0 k fa fd [x] (sp w))
    (hsp : ∀ (w : World) (H : Hp) (a : Addr) (ns : List Int), ns.length ≤ n → Only H → SqL (K w.params) H a (ns.map V.int) → sp w [.ref a] H (fun v _ => v = .bl true) fun _ _ _ => False) :
    PySem.W.WalkO q loose XP YP l.row.toRowW d [] (fun f vs => PySem.call f vs) := by
  refine Att.attach_call hn hdf fun w s₀ s₁ mg mb fa o pm cd doc a vs ns G Y ho hd hcd hmg hobj hints hlen hg => ?_
  obtain ⟨fd, hb, hF⟩ := F w mg fa _ (hY w _ Y) G.T.g hmg
  exact law_callG (hY w _ Y) G.T.g G.T.b G.T.builtins G.T.nolimit hg hobj hints (Nat.le_trans hlen hn2) hr hF hb fun H hO hS => hsp w H a ns hlen hO hS
end L2

namespace L2
open PySem PySem.Spec PyProof.Rows
/-! ### repr of any data -/
section
variable {X : Cx}
def rReprV (K : PySem.W.Frag) : List V → Hp → VK → Prop := fun vs H Q => ∃ (x : V) (d : PyData), vs = [x] ∧ Dp K H x d ∧ d.showable = true ∧ d.hasDict = false ∧ d.shown.length ≤ sizeLine ∧ d.depth ≤ 60 ∧ Q (.str d.shown) H
theorem call_reprV {K : PySem.W.Frag} (g : NoRp X.A) (hu : X.A.units + 64 < cLine) (hK : X.K = K := by rfl) : CallR X (.builtin "repr") (rReprV K) := by
  subst hK
  intro pins s σ H xs us Q I r h
  obtain ⟨x, d, rfl, hd, h1, h2, h3, h4, q⟩ := h
  obtain ⟨u, rfl, ru⟩ := vals1 r
  have ref : ∀ a, u = .ref a → wpAny (model X.prog X.w) X.A (call (.builtin "repr") [u]) (EP X pins σ Q) X.xe s := fun a e => by
    obtain ⟨as, rd⟩ := Dp.reads I d _ u hd ru
    subst e
    exact repr_of_reads' rd h1 (PyData.noDict_hsm h2) g (by omega) (fun _ _ e => e) (fun h' u tk kp => ⟨.str d.shown, H, I.kept (t' := tk) kp, ⟨_, rfl⟩, q⟩) h3
  cases hd with
  | non => cases (show u = Value.none from ru); exact PySem.P.repr_of_none ⟨.str "None", H, I.tok _, ⟨_, rfl⟩, q⟩
  | bl b => cases (show u = Value.bool b from ru); exact PySem.P.repr_of_bool ⟨.str (if b then "True" else "False"), H, I.tok _, ⟨_, rfl⟩, q⟩
  | int i => obtain ⟨t, rfl⟩ := ru; exact PySem.P.repr_of_int (of_decide_eq_true h1) ⟨.str (toString i), H, I.tok _, ⟨_, rfl⟩, q⟩
  | str z => obtain ⟨t, rfl⟩ := ru; exact PySem.P.repr_of_str ⟨.str (reprText z), H, I.tok _, ⟨_, rfl⟩, q⟩ h3
  | lst _ _ => exact ref _ ru
  | tup _ _ => exact ref _ ru
end
end L2

namespace L2
open PySem PySem.Spec PyProof.Rows
/-! ### in a try's body: a method without arguments, an own thing made -/
section
variable {X : Cx} {CX : CXT} {k : Nat} {f C : Addr} {fd : FuncData} {ps : List Str} {sp : Sp} {dvs : List V} {ds : List Value} {E : St → XK} {o e : Expr} {es : List Expr} {ta : TE} {t : TA} {m x : Str} {p apos pos : Pos}
theorem pe_methSD0 {pl : Sem Bool} (he : PE X o ta) (c : Cls X.K C) (hm : Meth X.K C m f) (F : FnOk X.prog X.w X.K X.mg X.base CX k f fd ps sp) (hr : Room k X.A) (hb : Binds X.K fd ps ds) (hd : Vals dvs ds) (hx : ∀ σ, PassesAt CX X σ (E σ))
    (ht : eval (.Call (.Attribute o m apos) [] [] pos) X.env = (do
      let ov ← eval o X.env
      standAt apos.atName
      let (f, first) ← holding [ov] (getMethod ov m pl)
      callWith pos f first (backTo pos (starEach [] X.env)) (backToKw pos (keywordEach [] X.env))) := by rfl) :
    PE X (.Call (.Attribute o m apos) [] [] pos) (tMethSD C m sp dvs E ta tNil) := by
  refine ⟨fun pins s σ H Q I h => PySem.W.methodCall_KW (pl := pl) (thn (he.run pins s σ H _ I h) fun u s1 z => ?_) ht⟩
  obtain ⟨y, H1, J, rx, a, dx, fs, rfl, ea, l, q⟩ := z
  cases (show u = Value.ref a from rx)
  refine getmeth_ok J ea c hm l ?_
  have rr : Vals (V.ref a :: ([] ++ dvs)) ([Value.ref a] ++ ds) := .cons rfl hd
  refine PySem.W.callWith_K0 (first := [.ref a]) J.kIn hm.kp (wpAny_call (codeAny_mono (F.run X.A X.stack s1 H1 ⟨[.ref a], []⟩ ([.ref a] ++ ds) (.ref a :: ([] ++ dvs)) Q (E σ) hr J.env0 (hb s1 [.ref a] J.kIn (rr.length.symm.trans (F.len _ _ _ _ q))) rr q) fun r s' z => ?_))
  cases r with
  | error er => exact hx σ pins H1 s1 er s' J z
  | ok fl =>
    cases fl with
    | ret u => exact J.after z
    | _ => exact False.elim z
def tMakeSD (C : Addr) (sp : Sp) (dvs : List V) (E : St → XK) (t : TA) : TE := fun σ H Q => t σ H fun vs H1 => ∀ x dx, H1 x = none → H1 dx = none → dx ≠ x → sp (.ref x :: (vs ++ dvs)) (upd (upd H1 dx (.own x)) x (.ins C dx [])) (fun v H2 => v = .non ∧ Q (.ref x) H2) (E σ)
theorem pe_makeSD (M : Mk X.K C f) (F : FnOk X.prog X.w X.K X.mg X.base CX k f fd ps sp) (hr : Room (k + 1) X.A) (hg : Gl X x) (hm : X.mg x = some (.ref C)) (hb : Binds X.K fd ps ds) (hd : Vals dvs ds) (hx : ∀ σ, PassesAt CX X σ (E σ))
    (ha : PA X (e :: es) t) (hdb : (x == ("__debug__" : Str)) = false := by decide) (he : starEach (e :: es) X.env = (false, eval e X.env) :: starEach es X.env := by rfl) (hpl : (backTo pos (starEach es X.env)).any (·.1) = false := by rfl) :
    PE X (.Call (.Name x p) (e :: es) [] pos) (tMakeSD C sp dvs E t) := by
  refine ⟨fun pins s σ H Q I h => ?_⟩
  refine wpAny_Call_Name_kw (ld_glob I hg hm ?_ hdb)
  refine PySem.W.callWith_K (h₀ := X.base) I.ok.mod.kin M.kp (thn (ha.run pos pins s σ H _ I h) fun us s1 z => ?_) he hpl
  obtain ⟨vs, H1, J, r, z⟩ := z
  refine ⟨J.kIn, ?_⟩
  have hq := z (s1.heap.objs.size + 1) s1.heap.objs.size (J.hok.fresh (Nat.le_succ _)) (J.hok.fresh (Nat.le_refl _)) (Nat.ne_of_lt (Nat.lt_succ_self _))
  have J2 := Inv.made (C := C) J
  have r2 : Vals (V.ref (s1.heap.objs.size + 1) :: (vs ++ dvs)) (Value.ref (s1.heap.objs.size + 1) :: (us ++ ds)) := .cons rfl (r.append hd)
  have hl : (Value.ref (s1.heap.objs.size + 1) :: us ++ ds).length = ps.length := (r2.length.symm.trans (F.len _ _ _ _ hq).symm.symm)
  refine wpAny_call (make_map (f := f) J.kIn M.makes M.init (beq_iff_eq.mp M.fn) (codeAny_mono (F.run _ X.stack _ _ ⟨Value.ref (s1.heap.objs.size + 1) :: us, []⟩ (Value.ref (s1.heap.objs.size + 1) :: (us ++ ds)) _ _ (E σ) (hr.make C us [])
    (J2.env0.make C us []) (hb _ (Value.ref (s1.heap.objs.size + 1) :: us) J2.kIn hl) r2 hq) fun r s' y => ?_))
  cases r with
  | error er => exact hx σ pins _ _ er s' J2 y
  | ok fl =>
    cases fl with
    | ret u =>
      obtain ⟨v, H', I3, rv, ev, q3⟩ := J2.after y
      subst ev
      exact ⟨rv, ⟨V.ref (s1.heap.objs.size + 1), H', I3, rfl, q3⟩⟩
    | _ => exact False.elim y
end
end L2

namespace L2
open PySem PySem.Spec PyProof.Rows
/-! ### dict(d), a copy; repr of a list with an empty dict within -/
section
variable {X : Cx}
theorem call_dictC : CallR X (.type "dict") (fun xs H Q => ∃ (a : Addr) (kvs : List (Key × V)), xs = [.ref a] ∧ Rd H a (.dK kvs) ∧ ∀ p, H p = none → Q (.ref p) (upd H p (.dK kvs))) := by
  intro pins s σ H xs us Q I r q
  obtain ⟨a, kvs, ex, hd, q⟩ := q
  subst ex
  obtain ⟨u, eu, rx⟩ := vals1 r
  subst eu
  cases rx
  exact d_copyOf I hd fun p s' hp I' => ⟨.ref p, _, I', rfl, q p hp⟩
def rReprE (K : PySem.W.Frag) : List V → Hp → VK → Prop := fun vs H Q => ∃ (x : V) (d : PyData), vs = [x] ∧ ((Dp K H x d ∧ d.hasDict = false) ∨ ∃ (a b : Addr) (w : Str), x = .ref a ∧ SqL K H a [.str w, .ref b] ∧ H b = some (.dK []) ∧ d = .list [.str w, .dict []]) ∧
  d.showable = true ∧ d.shown.length ≤ sizeLine ∧ d.depth ≤ 60 ∧ Q (.str d.shown) H
theorem call_reprE {K : PySem.W.Frag} (g : NoRp X.A) (hu : X.A.units + 64 < cLine) (hK : X.K = K := by rfl) : CallR X (.builtin "repr") (rReprE K) := by
  subst hK
  intro pins s σ H xs us Q I r h
  obtain ⟨x, d, rfl, hd, h1, h3, h4, q⟩ := h
  rcases hd with ⟨hd, h2⟩ | ⟨a, b, w, rfl, hs, hb, rfl⟩
  · exact call_reprV g hu rfl pins s σ H [x] us Q I r ⟨x, d, rfl, hd, h1, h2, h3, h4, q⟩
  obtain ⟨u, rfl, ru⟩ := vals1 r
  cases (show u = Value.ref a from ru)
  obtain ⟨its, rv, ⟨o, n, ho, hc, _, hdat⟩, _⟩ := I.list hs
  obtain ⟨u1, its1, rfl⟩ : ∃ u1 l, its = u1 :: l := by cases rv; exact ⟨_, _, rfl⟩
  obtain ⟨u2, its2, rfl⟩ : ∃ u2 l, its1 = u2 :: l := by cases rv with | cons _ rv => cases rv; exact ⟨_, _, rfl⟩
  obtain rfl : its2 = [] := by cases rv with | cons _ rv => cases rv with | cons _ rv => cases rv; rfl
  obtain ⟨r1, r2⟩ : RelV (.str w) u1 ∧ RelV (.ref b) u2 := by cases rv with | cons r1 rv => cases rv with | cons r2 rv => exact ⟨r1, r2⟩
  obtain ⟨t, rfl⟩ := r1
  cases (show u2 = Value.ref b from r2)
  obtain ⟨z, hsm, vs, rel, ob, es, ep, hob, hex, hde, _, hp, _⟩ := dk_of I.hok hb
  cases rel
  have he : es.toList = [] := by
    generalize es.toList = l at hp
    cases hp
    rfl
  have rb : Reads s.heap (.ref b) (.dict []) ([b] ++ []) := .dict hob hex.1 hde (by rw [he]; exact .nil) (by rw [he]; exact .nil)
  have ra : ReadsAll s.heap [Value.str w t, .ref b] [.str w, .dict []] ([] ++ (([b] ++ []) ++ [])) := .cons (.str w t) (.cons rb .nil)
  have hsz : (listText (PyData.shownAll [.str w, .dict []])).length ≤ sizeLine := by simpa only [PyData.shown] using h3
  obtain ⟨bs, hbb, hk⟩ := ReprAllK.of_readsAll (prog := X.prog) (w := X.w) ra (by simpa [PyData.showable] using h1) (fun _ hm => by
    simp at hm
    rw [← hm] at hsm
    simp at hsm) (fun t ht => Nat.le_trans (listText_mem_le ht) hsz)
  have hl : Reads s.heap (.ref a) (.list [.str w, .dict []]) (a :: _) := .list ho hc hdat ra
  have hna : a ∉ bs := not_mem_of_deeper hl (by simp only [PyData.depth]; omega) hbb
  have hd2 : PyData.depth (.list [.str w, .dict []]) = PyData.depthAll [.str w, .dict []] + 1 := by simp only [PyData.depth]
  rw [hd2] at h4
  refine call_repr_slot (by omega) ⟨o, ho, hc⟩ F.slot_list_repr.toG ?_
  refine call_list_reprK ho hc hdat hna (by simpa using hk.length_eq) (fun i y e => hk.item i y (by simpa using e)) g (fun b _ => Clear.nil b) (by show X.A.units + 1 + _ < cLine; omega) (fun _ _ e => e) (fun h' u tk kp => ?_) hsz
  refine ⟨_, _, rfl, .str _, H, I.kept (t' := tk) kp, ⟨_, rfl⟩, ?_⟩
  simpa only [PyData.shown] using q
end
end L2

namespace L2
open PySem PySem.Spec PyProof.Rows
/-! ### sorted(text, key=f), f an own def -/
section
variable {X : Cx}
def sgV (z : Str) : List V := z.cps.toList.map fun c => V.str ⟨#[c]⟩
def rSortFS (f : Addr) (sp : Sp) (dvs : List V) : List V → List V → Hp → VK → Prop := fun vs zs H Q =>
  ∃ (z : Str) (bs : List (V × PyData)), vs = [.str z] ∧ zs = [.ref f] ∧ bs.map (·.1) = sgV z ∧ PySem.W.AllAlike (bs.map (·.2)) ∧ PySem.W.Sortable (bs.map (·.2)) ∧ bs.length ≤ 100000 ∧ (∀ b ∈ bs, b.2.depth ≤ 50) ∧
    (∀ b ∈ bs, ∀ H1, Same H H1 → ∀ Q1 : VK, (∀ v H2, Same H1 H2 → (∀ K H3, Same H2 H3 → Dp K H3 v b.2) → Q1 v H2) → sp (b.1 :: dvs) H1 Q1 fun _ _ _ => False) ∧
    ∀ q H2, Same H H2 → H q = none → H2 q = some (.lst ((bs.mergeSort (PySem.W.dataLe false (·.2))).map (·.1))) → Q (.ref q) H2
theorem vals_get2 : ∀ {xs : List V} {us : List Value}, xs.length = us.length → (∀ (i : Nat) (u : Value), us[i]? = some u → ∃ x : V, xs[i]? = some x ∧ RelV x u) → Vals xs us
  | [], [], _, _ => .nil
  | [], _ :: _, h, _ => by cases h
  | _ :: _, [], h, _ => by cases h
  | x :: xs, u :: us, h, g => by
    obtain ⟨y, hy, r⟩ := g 0 u rfl
    have e : x = y := by simpa using hy
    subst e
    exact .cons r (vals_get2 (by simpa using h) fun i v hv => g (i + 1) v hv)
theorem vals_signsF {z : Str} {acc : Array Value} (h : ItemsOf (SignAt z) acc z.cps.size) : Vals (sgV z) acc.toList := by
  obtain ⟨h1, h2⟩ := h
  refine vals_get2 (by rw [sgV, List.length_map, Array.length_toList, Array.length_toList, h1]) fun i v hv => ?_
  rw [Array.getElem?_toList] at hv
  obtain ⟨c, u, hc, rfl⟩ := h2 i v hv
  refine ⟨V.str ⟨#[c]⟩, ?_, u, rfl⟩
  rw [sgV, List.getElem?_map, Array.getElem?_toList, hc]
  rfl
theorem call_sortFS {k : Nat} {f : Addr} {fd : FuncData} {ps : List Str} {sp : Sp} {dvs : List V} {ds : List Value} (F : FnOk X.prog X.w X.K X.mg X.base CX0 k f fd ps sp) (hr : Room (k + 2) X.A) (hb : Binds X.K fd ps ds) (hd : Vals dvs ds) (hc : X.calm = true) :
    CallRK X (.builtin "sorted") [Str.ofString "key"] (rSortFS f sp dvs) := by
  intro pins s σ H xs zs us ws Q I r1 r2 h
  obtain ⟨z, bs, rfl, rfl, hS, al, so, hz, dp, turn, q⟩ := h
  obtain ⟨u, rfl, ru⟩ := vals1 r1
  obtain ⟨t, rfl⟩ := ru
  obtain ⟨g, rfl, rg⟩ := vals1 r2
  cases (show g = Value.ref f from rg)
  have big : (100000 : Nat) ≤ sizeLine := by decide
  have zl0 : z.cps.size = bs.length := by
    have := congrArg List.length hS
    rw [List.length_map, sgV, List.length_map, Array.length_toList] at this
    exact this.symm
  refine PyProof.Rows.call_function_entry_kw kind_sorted plain_sorted entry_sorted (PyProof.Rows.ksk_s1 _ _) ?_
  unfold Builtin.«sorted»
  refine wpAny_bind (m := checkCount "sorted" 1 1 _) (wpAny_pure ?_)
  refine wpAny_bind (wpAny_collect_str (A := X.A.in1) (I.ok.hd hc) z t (fun s' acc k0 eg ed eo hi => ?_) (by omega))
  obtain ⟨hh, g', d', t', os'⟩ := s'
  have eg : g' = s.gens := eg
  have ed : d' = s.drawn := ed
  have eo : os' = s.os := eo
  subst eg; subst ed; subst eo
  have rv : Vals (bs.map (·.1)) acc.toList := hS ▸ vals_signsF hi
  generalize acc.toList = its at rv ⊢
  have hlen : its.length = bs.length := by rw [← rv.length, List.length_map]
  have hle : its.length ≤ sizeLine := by omega
  have I0 : Inv X pins σ H { s with heap := hh, toks := t' } := I.kept (t' := t') k0
  refine wpAny_bind (wpAny_newList ?_ hle)
  have hoL : (hh.push (seqObj "list" its.toArray 0)).get? hh.objs.size = some (seqObj "list" its.toArray 0) := Heap.get?_push_size _ rfl
  refine wpAny_bind (wpAny_holding (wpAny_call_entry_kw slot_list_sort ⟨_, hoL, rfl⟩ entry_list_sort ?body (PyProof.Rows.ksk_l1 _ _)))
  case body =>
  show wpAny (model X.prog X.w) X.A.in1.in1 (Builtin.«list.sort» ⟨[.ref hh.objs.size], [(Str.ofString "key", .ref f)]⟩) _ _ _
  refine wpAny_mono (Q := fun f s' => f = .done (.ret .none) ∧ EP X pins σ Q (.ref hh.objs.size) s') ?_ (fun f s' hf => ?_) fun _ _ e => e
  case refine_2 =>
    obtain ⟨rfl, hq⟩ := hf
    exact ⟨_, rfl, wpAny_pure ⟨_, rfl, hq⟩⟩
  rw [PyProof.Rows.ksk_t1]
  have I1 : Inv X pins σ H { s with heap := hh.push (seqObj "list" its.toArray 0), toks := t' } := I0.kept (t' := t') fun b o e => Heap.get?_push_of_some _ e
  have ha : H hh.objs.size = none := I0.hok.fresh (Nat.le_refl _)
  have hx : H (hh.objs.size + 2) = none := I0.hok.fresh (Nat.le_add_right _ 2)
  have csz : (hh.push (seqObj "list" its.toArray 0)).objs.size = hh.objs.size + 1 := size_push' _ _
  have lt : X.env.locals < hh.objs.size := I0.lt
  have sz : X.s_0.heap.objs.size ≤ hh.objs.size := I0.sz
  have nl : ∀ n, hh.objs.size ≤ n → n ≠ X.env.locals := fun n hn e => by
    rw [← e] at lt
    exact absurd lt (Nat.not_lt.mpr hn)
  have zl : ∀ n, hh.objs.size ≤ n → X.s_0.heap.objs.size ≤ n := fun n hn => Nat.le_trans sz hn
  have fa : hh.objs.size ∉ X.fs := I0.nofs (Nat.le_refl _)
  have fx : hh.objs.size + 2 ∉ X.fs := I0.nofs (Nat.le_add_right _ 2)
  have cc : ∀ n, hh.objs.size ≤ n → ∀ y c, X.env.cells.lookup y = some c → c ≠ n := fun n hn y c e z => by
    obtain ⟨v, o, e2, _⟩ := I0.cell y c e
    have e3 : c < hh.objs.size := Heap.lt_size e2
    rw [z] at e3
    exact absurd e3 (Nat.not_lt.mpr hn)
  have pp : ∀ n, hh.objs.size ≤ n → ∀ p ∈ X.pn ++ pins, p.1 ≠ n := fun n hn p hp z => by
    have e3 : p.1 < hh.objs.size := Heap.lt_size (I0.pin p hp).1
    rw [z] at e3
    exact absurd e3 (Nat.not_lt.mpr hn)
  unfold PyProof.Rows.ksk_tree
  refine wpAny_bind (listItems_at hoL rfl ?_)
  refine wpAny_bind (listUpdate_at hoL rfl ?_ (by rw [List.size_toArray]; exact hle) (Nat.zero_le _))
  obtain ⟨e1, ho1⟩ : ∃ e1, ((hh.push (seqObj "list" its.toArray 0)).update hh.objs.size (Obj.mapSeq fun _ => (#[] : Array Value))).get? hh.objs.size = some (seqObj "list" #[] e1) := ⟨_, get?_update_seq hoL fun _ => #[]⟩
  have up := Heap.SameBut.update (hh.push (seqObj "list" its.toArray 0)) hh.objs.size (Obj.mapSeq fun _ => (#[] : Array Value))
  have I2 := I1.turned (t' := t') (it := hh.objs.size) (fun b o hbx e => (up.2 b hbx).trans e) ha (nl _ (Nat.le_refl _)) (.inr (zl _ (Nat.le_refl _))) (cc _ (Nat.le_refl _)) (pp _ (Nat.le_refl _))
  refine wpAny_bind (seqEpoch_at ho1 rfl ?_)
  refine wpAny_bind (wpAny_newTuple ?_ (by show its.length ≤ _; exact hle))
  refine wpAny_bind (wpAny_newList ?_ (Nat.zero_le _))
  refine wpAny_holding ?_
  dsimp only
  have us2 : ((hh.push (seqObj "list" its.toArray 0)).update hh.objs.size (Obj.mapSeq fun _ => (#[] : Array Value))).objs.size = hh.objs.size + 1 := by rw [Heap.size_update, csz]
  have us3 : (((hh.push (seqObj "list" its.toArray 0)).update hh.objs.size (Obj.mapSeq fun _ => (#[] : Array Value))).push (seqObj "tuple" its.toArray 0)).objs.size = hh.objs.size + 2 := by rw [size_push', us2]
  have I3 := I2.kept (t' := t') (h' := (((hh.push (seqObj "list" its.toArray 0)).update hh.objs.size (Obj.mapSeq fun _ => (#[] : Array Value))).push (seqObj "tuple" its.toArray 0)).push (seqObj "list" #[] 0)) fun b o e => Heap.get?_push_of_some _ (Heap.get?_push_of_some _ e)
  have gx : ((((hh.push (seqObj "list" its.toArray 0)).update hh.objs.size (Obj.mapSeq fun _ => (#[] : Array Value))).push (seqObj "tuple" its.toArray 0)).push (seqObj "list" #[] 0)).get? (hh.objs.size + 2) = some (seqObj "list" #[] 0) := by
    have := Heap.get?_push_size (h := ((hh.push (seqObj "list" its.toArray 0)).update hh.objs.size (Obj.mapSeq fun _ => (#[] : Array Value))).push (seqObj "tuple" its.toArray 0)) (o := seqObj "list" #[] 0) rfl
    rw [us3] at this
    exact this
  have ga := Heap.get?_push_of_some (seqObj "list" #[] 0) (Heap.get?_push_of_some (seqObj "tuple" its.toArray 0) ho1)
  have go := keys_run (K := X.K) (x := hh.objs.size + 2) (a := hh.objs.size) (e1 := e1) (E := X.xe) (P := fun f s' => f = .done (.ret .none) ∧ EP X pins σ Q (.ref hh.objs.size) s') F hr hb hd rfl I3 rv hx ha (nl _ (Nat.le_add_right _ 2)) (nl _ (Nat.le_refl _)) (zl _ (Nat.le_add_right _ 2)) (zl _ (Nat.le_refl _)) (cc _ (Nat.le_add_right _ 2)) (cc _ (Nat.le_refl _)) (pp _ (Nat.le_add_right _ 2)) (pp _ (Nat.le_refl _)) fx fa (show (hh.objs.size + 2 : Nat) ≠ hh.objs.size by omega) gx ga hz al so dp (fun b hb' H1 s1 Q1 q1 => turn b hb' H1 s1 Q1 fun v H2 a1 a2 => q1 v H2 a1 (a2 X.K))
    (fun s' H' ys J sH na e => ⟨rfl, .ref hh.objs.size, _, J, rfl, q _ _ (Same.trans sH (fun b o e2 => by rw [upd_ne (fun z => by rw [z, na] at e2; cases e2)]; exact e2)) ha (by rw [upd_same, e])⟩)
  have ek : ((hh.push (seqObj "list" its.toArray 0)).update hh.objs.size (Obj.mapSeq fun _ => (#[] : Array Value))).push { cls := .type "tuple", data := .seq its.toArray } = ((hh.push (seqObj "list" its.toArray 0)).update hh.objs.size (Obj.mapSeq fun _ => (#[] : Array Value))).push (seqObj "tuple" its.toArray 0) := rfl
  rw [ek, us3]
  exact go
end
end L2

namespace PySem
theorem Runs.det {M : Model} {Γ : Ctx} {p : Pos} {t : Sem Fin} {fs : List Frame} {s : Shared} {e : End} {s1 : Shared} (h : Runs M Γ p t fs s e s1) : ∀ {e2 : End} {s2 : Shared}, Runs M Γ p t fs s e2 s2 → e2 = e ∧ s2 = s1 := by
  induction h with
  | done => intro e2 s2 h; cases h; exact ⟨rfl, rfl⟩
  | raise => intro e2 s2 h; cases h; exact ⟨rfl, rfl⟩
  | again q _ ih => intro e2 s2 h; cases h with | again _ h => exact ih h
  | rule _ ih => intro e2 s2 h; cases h with | rule h => exact ih h
  | «at» _ ih => intro e2 s2 h; cases h with | «at» h => exact ih h
  | load q _ ih => intro e2 s2 h; cases h with | load q2 h => rw [q] at q2; cases q2; exact ih h
  | update _ _ ih => intro e2 s2 h; cases h with | update _ h => exact ih h
  | loadIfAlive _ ih => intro e2 s2 h; cases h with | loadIfAlive h => exact ih h
  | point _ ih => intro e2 s2 h; cases h with | point h => exact ih h
  | alloc _ ih => intro e2 s2 h; cases h with | alloc h => exact ih h
  | fresh _ ih => intro e2 s2 h; cases h with | fresh h => exact ih h
  | ask _ ih => intro e2 s2 h; cases h with | ask h => exact ih h
  | choose _ _ ih => intro e2 s2 h; cases h with | choose _ h => exact ih h
  | os _ ih => intro e2 s2 h; cases h with | os h => exact ih h
  | handled _ ih => intro e2 s2 h; cases h with | handled h => exact ih h
  | genState q _ ih => intro e2 s2 h; cases h with | genState q2 h => rw [q] at q2; cases q2; exact ih h
  | stack _ ih => intro e2 s2 h; cases h with | stack h => exact ih h
  | thread _ ih => intro e2 s2 h; cases h with | thread h => exact ih h
  | newGen _ ih => intro e2 s2 h; cases h with | newGen h => exact ih h
  | call _ _ ih1 ih2 =>
    intro e2 s2 h
    cases h with
    | call h1 h2 =>
      obtain ⟨a, b⟩ := ih1 h1
      cases a; cases b
      exact ih2 h2
    | callSusp h1 =>
      obtain ⟨a, _⟩ := ih1 h1
      cases a
  | callSusp _ ih =>
    intro e2 s2 h
    cases h with
    | call h1 h2 =>
      obtain ⟨a, _⟩ := ih h1
      cases a
    | callSusp h1 =>
      obtain ⟨a, b⟩ := ih h1
      cases a; cases b
      exact ⟨rfl, rfl⟩
  | yield => intro e2 s2 h; cases h; exact ⟨rfl, rfl⟩
  | resumeFresh q _ _ _ ih1 ih2 =>
    intro e2 s2 h
    cases h with
    | resumeFresh q2 h1 _ h2 =>
      rw [q] at q2; cases q2
      obtain ⟨a, b⟩ := ih1 h1
      cases a; cases b
      exact ih2 h2
    | resumeSuspended q2 => rw [q] at q2; cases q2
    | resumeJustStarted q2 n => exact absurd rfl n
    | resumeRunning q2 => rw [q] at q2; cases q2
    | resumeFinished q2 => rw [q] at q2; cases q2
  | resumeSuspended q _ _ _ ih1 ih2 =>
    intro e2 s2 h
    cases h with
    | resumeFresh q2 => rw [q] at q2; cases q2
    | resumeSuspended q2 h1 _ h2 =>
      rw [q] at q2; cases q2
      obtain ⟨a, b⟩ := ih1 h1
      cases a; cases b
      exact ih2 h2
    | resumeJustStarted q2 => rw [q] at q2; cases q2
    | resumeThrowFresh q2 => rw [q] at q2; cases q2
    | resumeRunning q2 => rw [q] at q2; cases q2
    | resumeFinished q2 => rw [q] at q2; cases q2
  | resumeJustStarted q n _ ih =>
    intro e2 s2 h
    cases h with
    | resumeFresh q2 => exact absurd rfl n
    | resumeSuspended q2 => rw [q] at q2; cases q2
    | resumeJustStarted q2 _ h => exact ih h
    | resumeRunning q2 => rw [q] at q2; cases q2
    | resumeFinished q2 => rw [q] at q2; cases q2
  | resumeThrowFresh q _ ih =>
    intro e2 s2 h
    cases h with
    | resumeSuspended q2 => rw [q] at q2; cases q2
    | resumeThrowFresh q2 h => exact ih h
    | resumeRunning q2 => rw [q] at q2; cases q2
    | resumeFinished q2 => rw [q] at q2; cases q2
  | resumeRunning q _ ih =>
    intro e2 s2 h
    cases h with
    | resumeFresh q2 => rw [q] at q2; cases q2
    | resumeSuspended q2 => rw [q] at q2; cases q2
    | resumeJustStarted q2 => rw [q] at q2; cases q2
    | resumeThrowFresh q2 => rw [q] at q2; cases q2
    | resumeRunning q2 h => exact ih h
    | resumeFinished q2 => rw [q] at q2; cases q2
  | resumeFinished q _ ih =>
    intro e2 s2 h
    cases h with
    | resumeFresh q2 => rw [q] at q2; cases q2
    | resumeSuspended q2 => rw [q] at q2; cases q2
    | resumeJustStarted q2 => rw [q] at q2; cases q2
    | resumeThrowFresh q2 => rw [q] at q2; cases q2
    | resumeRunning q2 => rw [q] at q2; cases q2
    | resumeFinished q2 h => exact ih h
  | segRet _ _ ih1 ih2 =>
    intro e2 s2 h
    cases h with
    | segRet h1 h2 =>
      obtain ⟨a, b⟩ := ih1 h1
      cases a; cases b
      exact ih2 h2
    | segSuspOut _ h1 => obtain ⟨a, _⟩ := ih1 h1; cases a
    | segSuspGen _ h1 => obtain ⟨a, _⟩ := ih1 h1; cases a
  | segGen _ _ ih1 ih2 =>
    intro e2 s2 h
    cases h with
    | segGen h1 h2 =>
      obtain ⟨a, b⟩ := ih1 h1
      cases a; cases b
      exact ih2 h2
    | segSuspOut _ h1 => obtain ⟨a, _⟩ := ih1 h1; cases a
    | segSuspGen _ h1 => obtain ⟨a, _⟩ := ih1 h1; cases a
  | segSuspOut q _ ih =>
    intro e2 s2 h
    cases h with
    | segRet h1 => obtain ⟨a, _⟩ := ih h1; cases a
    | segGen h1 => obtain ⟨a, _⟩ := ih h1; cases a
    | segSuspOut _ h1 =>
      obtain ⟨a, b⟩ := ih h1
      cases a; cases b
      exact ⟨rfl, rfl⟩
    | segSuspGen q2 => rw [q] at q2; cases q2
  | segSuspGen q _ _ _ ih1 ih2 =>
    intro e2 s2 h
    cases h with
    | segRet h1 => obtain ⟨a, _⟩ := ih1 h1; cases a
    | segGen h1 => obtain ⟨a, _⟩ := ih1 h1; cases a
    | segSuspOut q2 => rw [q] at q2; cases q2
    | segSuspGen q2 h1 _ h2 =>
      rw [q] at q2; cases q2
      obtain ⟨a, b⟩ := ih1 h1
      cases a; cases b
      exact ih2 h2
theorem Wakes.det {M : Model} {Γ : Ctx} {p : Pos} {g : Nat} {r : Resume} {s : Shared} {a b : GenResult} {s1 s2 : Shared} (h1 : Wakes M Γ p g r s a s1) (h2 : Wakes M Γ p g r s b s2) : b = a ∧ s2 = s1 := by
  have runs : ∀ {Γ' : Ctx} {p' : Pos} {t : Sem Fin} {fs : List Frame} {s0 : Shared}, (∃ e₁ t₁, Runs M Γ' p' t fs s0 e₁ t₁ ∧ e₁.quiet = true ∧ a = e₁.result ∧ s1 = t₁.setGen g e₁.genState) → (∃ e₁ t₁, Runs M Γ' p' t fs s0 e₁ t₁ ∧ e₁.quiet = true ∧ b = e₁.result ∧ s2 = t₁.setGen g e₁.genState) → b = a ∧ s2 = s1 := by
    rintro _ _ _ _ _ ⟨e1, t1, r1, _, rfl, rfl⟩ ⟨e2, t2, r2, _, rfl, rfl⟩
    obtain ⟨rfl, rfl⟩ := r1.det r2
    exact ⟨rfl, rfl⟩
  have same : ∀ {x : GenResult} {t : Shared}, (a = x ∧ s1 = t) → (b = x ∧ s2 = t) → b = a ∧ s2 = s1 := by
    rintro _ _ ⟨rfl, rfl⟩ h
    exact h
  unfold Wakes at h1 h2
  generalize s.gens[g]? = o at h1 h2
  cases o with
  | none => exact h1.elim
  | some st =>
    cases st with
    | fresh c =>
      cases r with
      | send v =>
        cases v with
        | none => exact runs h1 h2
        | _ => exact same h1 h2
      | throw x => exact same h1 h2
    | suspended => exact runs h1 h2
    | running => exact same h1 h2
    | finished => exact same h1 h2
theorem wpCode_and {M : Model} {Γ : Ctx} {R R' : Result → Shared → Prop} {p : Pos} {s : Shared} (h1 : wpCode M Γ R p s) (h2 : wpCode M Γ R' p s) : wpCode M Γ (fun r s' => R r s' ∧ R' r s') p s := by
  obtain ⟨r, s1, d1, q1⟩ := h1
  obtain ⟨r2, s2, d2, q2⟩ := h2
  obtain ⟨e, rfl⟩ := Runs.det d1 d2
  cases e
  exact ⟨_, _, d1, q1, q2⟩
theorem wp_and {M : Model} {α : Type} {Q Q' : α → Pos → Shared → Prop} {E E' : Value → Pos → Shared → Prop} : ∀ (t : Sem α) (Γ : Ctx) (p : Pos) (s : Shared), Sem.wp M Γ t Q E p s → Sem.wp M Γ t Q' E' p s → Sem.wp M Γ t (fun a p s => Q a p s ∧ Q' a p s) (fun a p s => E a p s ∧ E' a p s) p s := by
  intro t
  induction t with
  | pure a => intro Γ p s h1 h2; simp only [Sem.wp] at h1 h2 ⊢; exact ⟨h1, h2⟩
  | raise e => intro Γ p s h1 h2; simp only [Sem.wp] at h1 h2 ⊢; exact ⟨h1, h2⟩
  | unsupported _ => intro Γ p s h1 h2; simp only [Sem.wp] at h1
  | finish _ => intro Γ p s h1 h2; simp only [Sem.wp] at h1
  | rule _ k ih => intro Γ p s h1 h2; simp only [Sem.wp] at h1 h2 ⊢; exact ih _ _ _ _ h1 h2
  | «at» _ k ih => intro Γ p s h1 h2; simp only [Sem.wp] at h1 h2 ⊢; exact ih _ _ _ _ h1 h2
  | load a _ k ih =>
    intro Γ p s h1 h2
    simp only [Sem.wp] at h1 h2 ⊢
    obtain ⟨o, e1, h1⟩ := h1
    obtain ⟨o2, e2, h2⟩ := h2
    rw [e1] at e2; cases e2
    exact ⟨o, e1, ih _ _ _ _ h1 h2⟩
  | update a _ f k ih => intro Γ p s h1 h2; simp only [Sem.wp] at h1 h2 ⊢; exact ⟨h1.1, ih _ _ _ _ h1.2 h2.2⟩
  | loadIfAlive a k ih => intro Γ p s h1 h2; simp only [Sem.wp] at h1 h2 ⊢; exact ih _ _ _ _ h1 h2
  | point _ k ih => intro Γ p s h1 h2; simp only [Sem.wp] at h1 h2 ⊢; exact ih _ _ _ _ h1 h2
  | alloc o k ih => intro Γ p s h1 h2; simp only [Sem.wp] at h1 h2 ⊢; exact ih _ _ _ _ h1 h2
  | fresh k ih => intro Γ p s h1 h2; simp only [Sem.wp] at h1 h2 ⊢; exact ih _ _ _ _ h1 h2
  | ask k ih => intro Γ p s h1 h2; simp only [Sem.wp] at h1 h2 ⊢; exact ih _ _ _ _ h1 h2
  | choose src n k ih => intro Γ p s h1 h2; simp only [Sem.wp] at h1 h2 ⊢; exact ⟨h1.1, ih _ _ _ _ h1.2 h2.2⟩
  | os q _ k ih => intro Γ p s h1 h2; simp only [Sem.wp] at h1 h2 ⊢; exact ih _ _ _ _ h1 h2
  | call c h _ _ k ih =>
    intro Γ p s h1 h2
    simp only [Sem.wp] at h1 h2 ⊢
    obtain ⟨r, s1, d1, q1⟩ := h1
    obtain ⟨r2, s2, d2, q2⟩ := h2
    obtain ⟨e, rfl⟩ := Runs.det d1 d2
    cases e
    exact ⟨_, _, d1, ih _ _ _ _ q1 q2⟩
  | handled own k ih => intro Γ p s h1 h2; simp only [Sem.wp] at h1 h2 ⊢; exact ih _ _ _ _ h1 h2
  | genState g k ih =>
    intro Γ p s h1 h2
    simp only [Sem.wp] at h1 h2 ⊢
    obtain ⟨o, e1, h1⟩ := h1
    obtain ⟨o2, e2, h2⟩ := h2
    rw [e1] at e2; cases e2
    exact ⟨o, e1, ih _ _ _ _ h1 h2⟩
  | newGen c k ih => intro Γ p s h1 h2; simp only [Sem.wp] at h1 h2 ⊢; exact ih _ _ _ _ h1 h2
  | resume g r _ k ih =>
    intro Γ p s h1 h2
    simp only [Sem.wp] at h1 h2 ⊢
    obtain ⟨res, s1, d1, q1⟩ := h1
    obtain ⟨res2, s2, d2, q2⟩ := h2
    obtain ⟨rfl, rfl⟩ := d1.det d2
    exact ⟨_, _, d1, ih _ _ _ _ q1 q2⟩
  | stack k ih => intro Γ p s h1 h2; simp only [Sem.wp] at h1 h2 ⊢; exact ih _ _ _ _ h1 h2
  | thread k ih => intro Γ p s h1 h2; simp only [Sem.wp] at h1 h2 ⊢; exact ih _ _ _ _ h1 h2
  | _ => intro Γ p s h1 h2; simp only [Sem.wp] at h1
theorem wpAny_conj {M : Model} {A : Around} {α : Type} {t : Sem α} {Q Q' : α → Shared → Prop} {E E' : Value → Shared → Prop} {s : Shared} (h1 : wpAny M A t Q E s) (h2 : wpAny M A t Q' E' s) : wpAny M A t (fun a s => Q a s ∧ Q' a s) (fun a s => E a s ∧ E' a s) s :=
  fun Γ p hΓ => wp_and t Γ p s (h1 Γ p hΓ) (h2 Γ p hΓ)
end PySem

namespace L2
open PySem PySem.Spec PyProof.Rows
/-! ### a parameter whose token is known: text.replace(sign, "") of it -/
/-- the local x is the text c, its token out already -/
def RawS (X : Cx) (x c : Str) (s : Shared) : Prop := ∃ (t : Tok) (m : Str → Option Value), t ≠ 0 ∧ t < s.toks ∧ s.heap.Ns X.env.locals m ∧ m x = some (.str c t)
section
variable {X : Cx} {pins : List (Addr × Obj)} {σ : St} {H : Hp} {s : Shared} {a dx C d : Addr} {fs : List (Str × V)} {f : Str} {v : V} {A : Around} {E : Value → Shared → Prop}
theorem attr_at {b : Bool} {Q : Value → Shared → Prop} (I : Inv X pins σ H s) (e : H a = some (.ins C dx fs)) (c : Cls X.K C) (n : NoAttr X.K C f) (l : fs.lookup f = some v) (h : ∀ u, RelV v u → Q u { s with toks := s.toks + 1 }) :
    wpAny (model X.prog X.w) A (getAttr (.ref a) f b) Q E s := by
  obtain ⟨mA, O, r, _, _, _⟩ := ins_get I.hok e
  obtain ⟨u, hu, ru⟩ := RelO.some_of (v := v) (o := mA f) (by rw [← l]; exact r f)
  exact get_map I.kIn O (c.get f) c.hd n hu (handed_of ru) (h u ru)
theorem item_at {kvs : List (Key × V)} {k : Key} {u : Value} {Q : Value → Shared → Prop} (I : Inv X pins σ H s) (e : H d = some (.dK kvs)) (l : valV kvs k = some v) (ry : RelV (kV k) u) (h : ∀ w, RelV v w → Q w { s with toks := s.toks + 1 }) :
    wpAny (model X.prog X.w) A (getItem (.ref d) u) Q E s := by
  obtain ⟨z, hd, vs, rel, dd⟩ := dk_of I.hok e
  obtain ⟨w, hw, rw⟩ := RelO.some_of (v := v) (o := valueAt vs k) (by have := rel.val k; rwa [l] at this)
  exact wpAny_getItem_of (kV_is ry) dd.mapOf hw (h w rw)
theorem ns_one {h : Heap} {a : Addr} {m m' : Str → Option Value} (h1 : h.Ns a m) (h2 : h.Ns a m') : m = m' := by
  obtain ⟨o, es, ep, e1, e2, _, e3⟩ := h1
  obtain ⟨o', es', ep', f1, f2, _, f3⟩ := h2
  rw [e1] at f1
  cases f1
  rw [e2] at f2
  cases f2
  exact funext fun y => (e3 y).symm.trans (f3 y)
/-- a local is stored: behind it a token is out, another local stays -/
theorem store_raw {i : Nat} {x : Str} {u : Value} {Q : Unit → Shared → Prop} {E : Value → Shared → Prop} (I : Inv X pins σ H s) (hN : X.N.Nodup) (hi : X.N[i]? = some x) (hx : X.env.scope.names.lookup x = some .local) (r : RelV v u)
    (h : ∀ s', Inv X pins (σ.set i (some v)) H s' → 1 ≤ s'.toks → (∀ y c, y ≠ x → RawS X y c s → RawS X y c s') → Q () s') : wpAny (model X.prog X.w) X.A (storeName X.env x u) Q E s := by
  have hcls : (X.env.scope.kind == .class || (X.env.scope.kind == .module && X.env.locals != X.env.globals)) = false := by rw [I.ok.kind]; rfl
  have low : wpAny (model X.prog X.w) X.A (storeName X.env x u) (fun _ s' => 1 ≤ s'.toks ∧ ∀ y c, y ≠ x → RawS X y c s → RawS X y c s') E s := by
    obtain ⟨m, hn, _⟩ := I.loc
    refine wpAny_storeName_local hx hn (fun h' hn' hs => ⟨Nat.succ_le_succ (Nat.zero_le _), ?_⟩) hcls
    rintro y c hy ⟨t, m', h1, h2, h3, h4⟩
    refine ⟨t, _, h1, Nat.lt_succ_of_lt h2, hn', ?_⟩
    show (if y = x then some u else m y) = _
    rw [if_neg hy, ns_one hn h3, h4]
  have hi2 : wpAny (model X.prog X.w) X.A (storeName X.env x u) (fun _ s' => Inv X pins (σ.set i (some v)) H s') E s := store_ok I hN hi (.inl hx) r (fun s2 I2 => I2) (.inr hx)
  exact wpAny_mono (wpAny_conj hi2 low) (fun _ s' q => h s' q.1 q.2.1 q.2.2) fun _ _ q => q.1
/-- name = e: behind it a token is out -/
theorem pss_setT {i : Nat} {x : Str} {e : Expr} {te : TE} {rest : List Stmt} {u : TS} {pos' pos : Pos} (hN : X.N.Nodup) (hi : X.N[i]? = some x) (hx : X.env.scope.names.lookup x = some .local) (he : PE X e te) (h2 : PSsT X rest u)
    (hs : swapsWith e (some (.Name x pos')) pos.line X.env = pure false := by rfl) : PSs X (.Assign [.Name x pos'] e pos :: rest) (tSeq (tAsg te (gName i)) u) := by
  refine ⟨fun pins s σ H D I h => ?_⟩
  refine wpAny_execs_cons (wpAny_Assign_Name (thn (he.run pins s σ H _ I h) fun v s1 ⟨y, H1, I1, r1, q1⟩ => ?_) hs)
  exact store_raw I1 hN hi hx r1 fun s2 I2 ht _ => h2 pins s2 _ H1 D ht I2 q1
/-- the body of a def whose parameter's token is known -/
def BodyR (X : Cx) (x c : Str) (b : List Stmt) (t : TS) : Prop :=
  ∀ (pins : List (Addr × Obj)) (s : Shared) (σ : St) (H : Hp) (D : Ends), RawS X x c s → Inv X pins σ H s → t D σ H → wpAny (model X.prog X.w) X.A (execs b X.env) (SP X pins D) X.xe s
/-- y = o.f, ahead of such a body -/
theorem body_set {i j : Nat} {x y c o : Str} {f : Str} {rest : List Stmt} {u : TS} {p1 apos pos' pos : Pos} (hN : X.N.Nodup) (hi : X.N[i]? = some y) (hy : X.env.scope.names.lookup y = some .local) (hj : X.N[j]? = some o) (ho : Vis X.env.scope o) (hxy : x ≠ y) (h2 : BodyR X x c rest u)
    (hb : attributeBase (.Name o p1) f X.env (eval (.Name o p1) X.env) = eval (.Name o p1) X.env := by rfl) (hs : swapsWith (.Attribute (.Name o p1) f apos) (some (.Name y pos')) pos.line X.env = pure false := by rfl)
    (hd : (o == ("__debug__" : Str)) = false := by decide) (hcd : (o == ("__classdict__" : Str)) = false := by decide) :
    BodyR X x c (.Assign [.Name y pos'] (.Attribute (.Name o p1) f apos) pos :: rest) (tSeq (tAsg (tFld X.K (tVar j) f) (gName i)) u) := by
  intro pins s σ H D raw I h
  obtain ⟨v0, hv0, a, C, dx, fs, v, rfl, ea, c0, n, l, q⟩ := h
  refine wpAny_execs_cons (wpAny_Assign_Name (attr_of hb (raw_name hj ho I hv0 (fun u0 r0 => ?_) hd hcd)) hs)
  obtain rfl : u0 = Value.ref a := r0
  refine attr_at I ea c0 n l fun w rw => ?_
  refine store_raw (I.tok _) hN hi hy rw fun s2 I2 _ keep => h2 pins s2 _ H D (keep x c hxy ?_) I2 q
  obtain ⟨t, m, h1, h2, h3, h4⟩ := raw
  exact ⟨t, m, h1, Nat.lt_succ_of_lt h2, h3, h4⟩
/-- o[i] = p.f[y].replace(x, "") -/
def tRepl (K : PySem.W.Frag) (jp jy : Nat) (f c : Str) (td ty : TE) : TS := fun D σ H => ∃ (a C dx d : Addr) (fs : List (Str × V)) (kvs : List (Key × V)) (k : Key) (z : Str), σ[jp]? = some (some (.ref a)) ∧ H a = some (.ins C dx fs) ∧ Cls K C ∧ NoAttr K C f ∧ fs.lookup f = some (.ref d) ∧
  σ[jy]? = some (some (kV k)) ∧ H d = some (.dK kvs) ∧ valV kvs k = some (.str z) ∧ z.length ≤ 1000 ∧ (c == ("" : Str)) = false ∧
  td σ H fun x H2 => ty σ H2 fun y H3 => ∃ a H4, x = .ref a ∧ DPut H3 a y (.str (Txt.replace z c ("" : Str))) H4 ∧ D.nx σ H4
theorem body_repl {jp jy : Nat} {x c p y : Str} {f : Str} {o i : Expr} {td ty : TE} {rest : List Stmt} {u : TS} {kk : Nat} {q1 q2 q3 q4 q5 q6 apos cpos pos' pos : Pos} (hu : X.A.units + 1 < cLine) (hjp : X.N[jp]? = some p) (hp : Vis X.env.scope p) (hjy : X.N[jy]? = some y) (hy : Vis X.env.scope y) (hx : X.env.scope.names.lookup x = some .local)
    (ho : PE X o td) (hi : PE X i ty) (h2 : PSs X rest u)
    (hb : attributeBase (.Name p q1) f X.env (eval (.Name p q1) X.env) = eval (.Name p q1) X.env := by rfl)
    (hbase : attributeBase (.Subscript (.Attribute (.Name p q1) f q2) (.Name y q3) q4) "replace" X.env (eval (.Subscript (.Attribute (.Name p q1) f q2) (.Name y q3) q4) X.env) = eval (.Subscript (.Attribute (.Name p q1) f q2) (.Name y q3) q4) X.env := by rfl)
    (hst : starEach [.Name x q5, .Constant (.str ("" : Str)) kk q6] X.env = [(false, eval (.Name x q5) X.env), (false, eval (.Constant (.str ("" : Str)) kk q6) X.env)] := by rfl)
    (hline : (apos.endLine == cpos.line) = true := by rfl) (hns : NoSl (.Name y q3) := by first | exact fun _ _ => rfl | (intro _ _; rfl))
    (hs : swapsWith (.Call (.Attribute (.Subscript (.Attribute (.Name p q1) f q2) (.Name y q3) q4) "replace" apos) [.Name x q5, .Constant (.str ("" : Str)) kk q6] [] cpos) (some (.Subscript o i pos')) pos.line X.env = pure false := by rfl)
    (hd1 : (p == ("__debug__" : Str)) = false := by decide) (hc1 : (p == ("__classdict__" : Str)) = false := by decide) (hd2 : (y == ("__debug__" : Str)) = false := by decide) (hc2 : (y == ("__classdict__" : Str)) = false := by decide) (hd3 : (x == ("__debug__" : Str)) = false := by decide) :
    BodyR X x c (.Assign [.Subscript o i pos'] (.Call (.Attribute (.Subscript (.Attribute (.Name p q1) f q2) (.Name y q3) q4) "replace" apos) [.Name x q5, .Constant (.str ("" : Str)) kk q6] [] cpos) pos :: rest) (tSeq (tRepl X.K jp jy f c td ty) u) := by
  intro pins s σ H D raw I h
  obtain ⟨a, C, dx, d, fs, kvs, k, z, hσp, ea, c0, n, l, hσy, ed, lv, zz, hc, q⟩ := h
  obtain ⟨t, m, t0, t1, hm, mx⟩ := raw
  refine wpAny_execs_cons (wpAny_Assign_Subscript (Call_method2 hbase hst hline ?_) hs)
  refine subD_of PySem.F.slot_dict_getitem.lookup hns (attr_of hb (raw_name hjp hp I hσp (fun u0 r0 => ?_) hd1 hc1))
  obtain rfl : u0 = Value.ref a := r0
  refine attr_at I ea c0 n l fun w rw => ?_
  obtain rfl : w = Value.ref d := rw
  refine raw_name hjy hy (I.tok _) hσy (fun u1 r1 => ?_) hd2 hc2
  refine ⟨dict_typeIs (I.tok _) (DGet.k (k := k) ed), item_at (I.tok _) ed lv r1 fun w2 rw2 => ?_⟩
  obtain ⟨tz, rfl⟩ := rw2
  refine ⟨"str", _, PySem.F.plainAttrs_str, PySem.F.slot_str_replace, PySem.F.type_str_replace, typeIs_str _ _ _, (fun _ e => nomatch e), Calls.callWith_builtin rfl (Calls.evalArgs_plain (Calls.spliced_cons ?_))⟩
  refine wpAny_Name (wpAny_loadName_local I.ok.kind hx hm mx ?_) hd3
  refine Calls.spliced_cons (Calls.Constant_str (Calls.spliced_nil ?_))
  refine PySem.SC.replace t0 (by show s.toks + 1 + 1 ≠ 0; omega) (Nat.ne_of_lt (Nat.lt_succ_of_lt (Nat.lt_succ_of_lt t1))) hc (by show z.length + (z.length + 1) * 0 ≤ 16777216; omega) fun t' k' => ?_
  refine thn (ho.run pins _ σ H _ (I.tok _) q) fun u2 s2 ⟨x2, H2, I2, rx, q2⟩ => thn (hi.run pins s2 σ H2 _ I2 q2) fun iv s3 ⟨y2, H3, I3, ry, a2, H4, ex, g, q3⟩ => ?_
  subst ex
  obtain rfl : u2 = Value.ref a2 := rx
  exact d_setItem hu I3 g ry ⟨t', rfl⟩ fun s4 I4 => h2.run pins s4 σ H4 D I4 q3
end
/-- a def's promise where its second argument is a text whose token is out -/
structure FnRaw (P : Program) (w : World) (K : PySem.W.Frag) (mg : Str → Option Value) (base : Heap) (CX : CXT) (k : Nat) (f : Addr) (fd : FuncData) (ps : List Str) (sp : Sp) : Prop where
  len : ∀ vs H Q E, sp vs H Q E → vs.length = ps.length
  run : ∀ (A : Around) (outer : List Env) (s : Shared) (H : Hp) (as : Args) (us : List Value) (vs : List V) (Q : VK) (E : XK), Room k A → Env0 P w K mg base A outer s H → BindsTo s fd as (ps.zip us) → Vals vs us → (∃ (a : Addr) (c : Str) (t : Tok), vs = [.ref a, .str c] ∧ us = [.ref a, .str c t] ∧ t ≠ 0 ∧ t < s.toks) → sp vs H Q E →
    codeAny (model P w) A (.call (.ref f) as) (CR CX outer P w H s Q E) s
theorem fn_ofRaw {CX : CXT} {P : Program} {w : World} {K : PySem.W.Frag} {mg : Str → Option Value} {base : Heap} {k : Nat} {f : Addr} {nm ql x y : Str} {params : Arguments} {body : List Stmt} {scope : Scope} {dV kV doc pm cdv ct oc : Value} {an od : Option Addr}
    {osl : Array (Option Value)} {N : List Str} {sp : Sp} (lk : K.lookup f = some ⟨oc, od, .func (PySem.W.fnOf nm ql params body scope dV kV doc pm an cdv ct), osl⟩) (hcd : PySem.W.codeIn K cdv ql = true) (S : FnScope N [y, x] scope) (hx : scope.names.lookup x = some .local)
    (len : ∀ vs H Q E, sp vs H Q E → vs.length = [y, x].length)
    (go : ∀ (A : Around) (outer : List Env) (s : Shared) (H : Hp) (a : Addr) (c : Str) (Q : VK) (E : XK), Room k (A.deeper (envOfC ql scope s.heap.objs.size f cdv)) → sp [.ref a, .str c] H Q E →
      ∃ t, BodyR (cxOf CX P w K mg base N ql scope f cdv A outer s H E) x c body t ∧ t { nx := fun _ H' => Q .non H', rt := Q } (start N [.ref a, .str c]) H) :
    FnRaw P w K mg base CX (k + 1) f (PySem.W.fnOf nm ql params body scope dV kV doc pm an cdv ct) [y, x] sp := by
  refine ⟨len, fun A outer s H as us vs Q E room e0 hb r raw z => ?_⟩
  obtain ⟨a, c, t, rfl, rfl, t0, t1⟩ := raw
  have inK : K.In s.heap := e0.mod.kin.keeps fun b o e => (e0.bs b o e).1
  have noLim : s.heap.NoLimit := e0.mod.nolimit.keeps fun b o e => (e0.bs b o e).1
  have kinds : ∀ v ∈ [y, x].zip [Value.ref a, .str c t], scope.names.lookup v.1 = some .local ∨ (scope.names.lookup v.1 = some .cell ∧ ((cellsFrom (s.heap.objs.size + 1) scope.names []).lookup v.1).isSome = true) := fun v hv => by
    obtain ⟨n, v⟩ := v
    exact (S.par n (List.of_mem_zip hv).1).imp id fun q => ⟨q, PySem.W.cellsFrom_some _ _ _ (.inl q)⟩
  refine codeAny_call_function room.depth (inK _ _ lk) rfl S.co S.gen rfl (PySem.W.codeRec_of inK hcd) (hb _ _ _ _ ?_)
  refine wpAny_mono (wpAny_toks (wpAny_newFunctionEnv_cells (Q := fun env s1 => env = _ ∧ InCallC s _ _ _ _ s1) S.kind kinds fun env he s1 x => ⟨he, x⟩)) (fun env s1 hq => ?_) fun _ _ q => q.2
  obtain ⟨ht, he, xx⟩ := hq
  subst he
  refine ⟨noLim.keeps xx.toInCall.keep, codeAny_func ?_⟩
  obtain ⟨t', ht', q⟩ := go A outer s H a c Q E (room.deeper _) z
  have I := inv_start (CX := CX) (E := E) S room.hd e0 (len _ _ _ _ z) r xx
  have nd : [y, x].Nodup := by
    have e : [y, x] = N.take 2 := S.pre.symm
    rw [e]
    exact S.nd.sublist (List.take_sublist _ _)
  have m1 := bindL_get (kindOf := (envOfC ql scope s.heap.objs.size f cdv).kindOf) (x := x) (v := Value.str c t) (P := [y, x]) (vs := [.ref a, .str c t]) (i := 1) (m := fun _ => none) nd rfl rfl hx
  refine wpAny_mono (ht' [] s1 (start N [.ref a, .str c]) H _ ⟨t, _, t0, Nat.lt_of_lt_of_le t1 ht, xx.toInCall.ns, m1⟩ I q) (fun fl s' hs => ?_) fun _ _ hs => hs
  cases fl with
  | ret u => exact let ⟨v, σ', H', J, rv, q⟩ := hs; ⟨v, H', J.os, J.bare, J.base, J.hok, rv, q⟩
  | next => exact let ⟨σ', H', J, q⟩ := hs; ⟨V.non, H', J.os, J.bare, J.base, J.hok, rfl, q⟩
  | brk => exact let ⟨_, _, _, q⟩ := hs; False.elim q
  | cont => exact let ⟨_, _, _, q⟩ := hs; False.elim q
/-- o.m(z[y]) as a statement, m such a method; a token is out -/
theorem pst_methRaw {X : Cx} {CX : CXT} {k jz jy : Nat} {f C : Addr} {fd : FuncData} {ps : List Str} {ds : List Value} {sp : Sp} {E : XK} {o : Expr} {ta : TE} {m z y : Str} {pl : Sem Bool} {pz py ps' apos pos pos2 : Pos}
    (he : PE X o ta) (c : Cls X.K C) (hm : Meth X.K C m f) (F : FnRaw X.prog X.w X.K X.mg X.base CX k f fd ps sp) (hr : Room k X.A) (hb : Binds X.K fd ps ds) (hd : Vals [] ds) (hx : Passes CX X E)
    (hjz : X.N[jz]? = some z) (hz : Vis X.env.scope z) (hjy : X.N[jy]? = some y) (hy : Vis X.env.scope y)
    (hst : starEach [.Subscript (.Name z pz) (.Name y py) ps'] X.env = (false, eval (.Subscript (.Name z pz) (.Name y py) ps') X.env) :: starEach [] X.env := by rfl) (hpl : (backTo pos (starEach [] X.env)).any (·.1) = false := by rfl)
    (ht : eval (.Call (.Attribute o m apos) [.Subscript (.Name z pz) (.Name y py) ps'] [] pos) X.env = (do
      let ov ← eval o X.env
      standAt apos.atName
      let (f, first) ← holding [ov] (getMethod ov m pl)
      callWith pos f first (backTo pos (starEach [.Subscript (.Name z pz) (.Name y py) ps'] X.env)) (backToKw pos (keywordEach [] X.env))) := by rfl)
    (hs : swapsWith (.Call (.Attribute o m apos) [.Subscript (.Name z pz) (.Name y py) ps'] [] pos) none pos2.line X.env = pure false := by rfl)
    (hsl : ∀ v u, subscripted (.Name y py) false v u = operate [v, u] (getItem v u) := by intro _ _; rfl)
    (hd1 : (z == ("__debug__" : Str)) = false := by decide) (hc1 : (z == ("__classdict__" : Str)) = false := by decide) (hd2 : (y == ("__debug__" : Str)) = false := by decide) (hc2 : (y == ("__classdict__" : Str)) = false := by decide) :
    PST X (.Expr (.Call (.Attribute o m apos) [.Subscript (.Name z pz) (.Name y py) ps'] [] pos) pos2) (tDrop (tMeth C m sp [] E ta (tCons (tOp rIxS (tVar jz) (tVar jy)) tNil))) := by
  intro pins s σ H D h0 I h
  refine wpAny_Expr_any (thn (?_ : wpAny (model X.prog X.w) X.A _ (EP X pins σ fun _ H1 => D.nx σ H1) X.xe s) fun v s1 ⟨x, H1, I1, r1, q1⟩ => ⟨σ, H1, I1, q1⟩) I.quiet hs
  refine PySem.W.methodCall_KW (pl := pl) (wpAny_mono (PySem.wpAny_toks (he.run pins s σ H _ I h)) (fun u s1 q0 => ?_) fun _ _ q => q.2) ht
  obtain ⟨hk, x, H1, I1, rx, a, dx, fs, ex, ea, l, q⟩ := q0
  subst ex
  obtain rfl : u = Value.ref a := rx
  refine getmeth_ok I1 ea c hm l ?_
  refine PySem.W.callWith_K (first := [.ref a]) (h₀ := X.base) I1.ok.mod.kin hm.kp ?_ hst hpl
  obtain ⟨v1, hv1, v2, hv2, zz, i, cc, rfl, rfl, hzz, hat, q⟩ := q
  show wpAny _ _ (spliced ((false, eval (.Subscript (.Name z pz) (.Name y py) ps') X.env) :: backTo pos (starEach [] X.env))) _ _ _
  refine Calls.spliced_cons (Subscript_ (raw_name hjz hz I1 hv1 (fun w1 r1 => raw_name hjy hy I1 hv2 (fun w2 r2 => ?_) hd2 hc2) hd1 hc1))
  obtain ⟨tz, rfl⟩ := r1
  obtain ⟨ti, rfl⟩ := r2
  obtain ⟨j, h1, h2, h3, h4, h5⟩ := atI_get hat
  have hl : zz.cps.toList.length = zz.length := by simp [Str.length]
  rw [hl] at h1 h4 h5
  have hn := line63
  refine tail_any (typeIs_str s1 zz tz) slot_str_getitem.lookup (getItem_str (c := cc) (by
    have e1 : decide (i < -(2 ^ 63 : Int)) = false := decide_eq_false (by omega)
    have e2 : decide (i ≥ 2 ^ 63) = false := decide_eq_false (by omega)
    rw [e1, e2, Bool.or_false]) (by rw [h1]; simpa using h2) ?_) (hsl _ _)
  refine Calls.spliced_nil ⟨(I1.tok _).kIn, ?_⟩
  obtain rfl : ds = [] := by cases hd; rfl
  have rr : Vals [V.ref a, .str ⟨#[cc]⟩] [Value.ref a, .str ⟨#[cc]⟩ s1.toks] := .cons rfl (.cons ⟨_, rfl⟩ .nil)
  have I2 := I1.tok (s1.toks + 1)
  have hb2 := hb { s1 with toks := s1.toks + 1 } [Value.ref a, .str ⟨#[cc]⟩ s1.toks] I2.kIn (by rw [List.append_nil, ← rr.length]; exact F.len _ _ _ _ q)
  rw [List.append_nil] at hb2
  refine wpAny_call (codeAny_mono (F.run X.A X.stack { s1 with toks := s1.toks + 1 } H1 ⟨[Value.ref a, .str ⟨#[cc]⟩ s1.toks], []⟩ _ _ _ E hr I2.env0 hb2 rr ⟨a, _, s1.toks, rfl, rfl, Nat.ne_of_gt (Nat.lt_of_lt_of_le h0 hk), Nat.lt_succ_self _⟩ q) fun r s' hq => ?_)
  cases r with
  | error er => exact hx pins σ H1 _ er s' I2 hq
  | ok fl =>
    cases fl with
    | ret u => exact I2.after hq
    | _ => exact False.elim hq
theorem PSsT.one {X : Cx} {st : Stmt} {t : TS} (h : PST X st t) : PSsT X [st] t := by
  intro pins s σ H D h0 I q
  refine wpAny_execs_cons (thn (h pins s σ H D h0 I q) fun f s1 q => ?_)
  cases f with
  | next => exact wpAny_execs_nil q
  | ret v => exact q
  | brk => exact q
  | cont => exact q
theorem BodyR.nox {X : Cx} {x c : Str} {b : List Stmt} {t : TS} (h : BodyR X.nox x c b t) : BodyR X x c b t := by
  intro pins s σ H D raw I q
  exact wpAny_mono (h pins s σ H D raw (I.wish _) q) (fun _ _ q => q.unwish) fun _ _ z => False.elim z
theorem call_divmodW {X : Cx} : CallR X (.builtin "divmod") (fun xs H Q => ∃ i j, xs = [.int i, .int j] ∧ CDivW i j ∧ ∀ p, H p = none → Q (.ref p) (upd H p (.tup [.int (i / j), .int (i % j)]))) := by
  intro pins s σ H xs us Q I r h
  obtain ⟨i, j, rfl, ⟨h1, h2⟩, q⟩ := h
  obtain ⟨u, w', rfl, ⟨t, rfl⟩, ⟨t', rfl⟩⟩ := vals2 r
  refine divmod_int (by omega) ?_ (.inl (PyProof.noPylong_of_log2 h2))
  rw [Int.fdiv_eq_ediv_of_nonneg i (by omega), Int.fmod_eq_emod_of_nonneg i (by omega)]
  have hn : H s.heap.objs.size = none := I.hok.fresh (Nat.le_refl _)
  refine ⟨.ref s.heap.objs.size, _, ?_, rfl, q _ hn⟩
  refine I.laid (fun b o e => Heap.get?_push_of_some _ e) (Nat.le_refl _) ⟨by simp only [List.length_cons, List.length_nil]; rw [sizeLine_eq]; decide, [.int (i / j) s.toks, .int (i % j) (s.toks + 1)], .cons ⟨_, rfl⟩ (.cons ⟨_, rfl⟩ .nil), ?_⟩
  exact ⟨_, Heap.get?_push_size s.heap rfl, rfl, 0, rfl⟩
section
variable {P : Program} {w : World} {K : PySem.W.Frag} {mg : Str → Option Value} {base : Heap}
theorem Fun.okRaw {x ql y sgn : Str} {st : Stmt} {f : Addr} {fd : FuncData} {N : List Str} {k : Nat} {sp : Sp} (F : Fun K x ql st f fd) (S : FnScope N [y, sgn] (defScope st)) (hx : (defScope st).names.lookup sgn = some .local) (len : ∀ vs H Q E, sp vs H Q E → vs.length = [y, sgn].length)
    (go : ∀ (cdv : Value) (A : Around) (outer : List Env) (s : Shared) (H : Hp) (a : Addr) (c : Str) (Q : VK) (E : XK), Room k (A.deeper (envOfC ql (defScope st) s.heap.objs.size f cdv)) → sp [.ref a, .str c] H Q E →
      ∃ t, BodyR (cxOf CX0 P w K mg base N ql (defScope st) f cdv A outer s H E).nox sgn c (defBody st) t ∧ t { nx := fun _ H' => Q .non H', rt := Q } (start N [.ref a, .str c]) H) : FnRaw P w K mg base CX0 (k + 1) f fd [y, sgn] sp := by
  obtain ⟨oc, od, kV, doc, pm, an, cdv, ct, osl, rfl, lk, hcd⟩ := F.ex
  refine fn_ofRaw lk hcd S hx len fun A outer s H a c Q E room z => ?_
  obtain ⟨t, h, q⟩ := go cdv A outer s H a c Q E room z
  exact ⟨t, h.nox, q⟩
end
end L2

namespace L2
open PySem PySem.Spec PyProof.Rows
/-! ### except (x, y): -/
theorem sky_push {B h h' : Heap} {l : List Env} {e : Addr} {Z : Obj → Prop} (x : HandSPX.FlyingZ B l e Z h) (k : ∀ b o, h.get? b = some o → h'.get? b = some o) : HandSPX.FlyingZ B l e Z h' := by
  obtain ⟨x1, x2, x3, oe, vs, T, oT, ts, a1, a2, a3, a4, a5, a6, a7, a8, a9⟩ := x
  exact ⟨fun b o z => k b o (x1 b o z), x2, x3.of_keeps fun b o z _ => ⟨o, k b o z, rfl⟩, oe, vs, T, oT, ts, k _ _ a1, a2, a3, a4, a5, a6, k _ _ a7, a8, a9⟩
/-- what the clause 'except (x, y)' wishes of an exception of the body -/
def wTwo (K : PySem.W.Frag) (c c' : Value) (ts : Addr → Value → Option Addr → TS) (Wout : WX) (D : Ends) : WX := fun cls d σ H =>
  ∃ b, PySem.W.exmAny K cls [c, c'] = some b ∧ (b = true → ∀ a, H a = none → ts a cls d D σ H) ∧ (b = false → Wout cls d σ H)
section
variable {X : Cx} {x y : Str} {c c' : Value} {body suite : List Stmt} {b₀ : Stmt} {np nq pos pos' pos2 : Pos} {kk : Nat} {tb : WX → TS} {ts : Addr → Value → Option Addr → TS} {Wout : WX}
theorem ps_try_two (hst : X.stack = X.env :: X.outer) (hfr : X.env.frame = some X.env.locals) (hc : Names X x c) (hc' : Names X y c') (tk : Takes X Wout)
    (hb : ∀ (W : WX) (pn : List (Addr × Obj)) (xe : Value → Shared → Prop), Takes (X.tr pn xe) W → PassesOwn (model X.prog X.w) X.A X.env xe → PSs (X.tr pn xe) body (tb W))
    (hs : ∀ (a : Addr) (oe : Obj) (cls : Value) (d : Option Addr) (pn : List (Addr × Obj)), Zc cls d oe → (∃ vs, oe.data = .fields vs) → PSs (X.suite a ((a, oe) :: pn)) (b₀ :: suite) (ts a cls d)) :
    PS X (.Try body [.ExceptHandler (some (.Tuple [.Name x np, .Name y nq] kk pos2)) none (b₀ :: suite) pos'] [] [] pos) (fun D σ H => tb (wTwo X.K c c' ts Wout D) D σ H) := by
  refine ⟨fun pins s σ H D I h => wpAny_Try_except ?_⟩
  have ok := I.ok
  have fA : X.A.frames = some (X.env :: X.outer) := ok.frames.trans (congrArg some hst)
  refine wpAny_mono ((hb (wTwo X.K c c' ts Wout D) (X.pn ++ pins) (fun e s₁ => wpAny (model X.prog X.w) X.A (noteFrame e X.env) (fun _ s₂ => wpAny (model X.prog X.w) X.A (setFlight e none) (fun _ s₃ =>
    wpAny (model X.prog X.w) X.A (handleBy e X.env [.ExceptHandler (some (.Tuple [.Name x np, .Name y nq] kk pos2)) none (b₀ :: suite) pos']) (SP X pins D) X.xe s₃) X.xe s₂) X.xe s₁) (fun u s' z => ?_) PassesOwn.looking).run [] s σ H D (I.toTry _) h) (fun fl s1 z => ?_) (fun _ _ z => z)
  · obtain ⟨a, M, s0, p0, τ, G, cls, d, rfl, J0, nb, up, sky0, nx, os, ag, b, hb1, hyes, hno⟩ := z
    have J : Inv X pins τ G s0 := J0.ofTry ok
    have sky : Sky M (X.env :: X.outer) a (Zc cls d) X.env.locals s'.heap := hst ▸ sky0
    show wpAny (model X.prog X.w) X.A (noteFrame (.ref a) X.env) _ _ _
    refine Sky.land Zc.steady fA hfr sky fun h2 fl2 up2 => ?_
    have J2 : Inv X pins τ G { s' with heap := h2 } := J.landed nb fl2.1 (up.trans up2) os ag
    obtain ⟨oe2, vs2, ge2, hz2, dd2⟩ := fl2.there
    have nfr : a ∉ frs (X.env :: X.outer) := fun hm => by
      obtain ⟨_, o', e', ne⟩ := fl2.2.2.1.mem hm
      rw [ge2] at e'; cases e'
      exact ne _ dd2
    have nL : a ≠ X.env.locals := fun z => nfr (List.mem_filterMap.mpr ⟨X.env, .head _, by rw [hfr, z]⟩)
    have nF : a ∉ X.fs := fun hm => by
      obtain ⟨v, hv, q⟩ := List.mem_filterMap.mp hm
      exact nfr (List.mem_filterMap.mpr ⟨v, .tail _ hv, q⟩)
    have S2 := J2.suite ge2 dd2 nx nL nF
    have look : ∀ {y : Str} {c : Value} {np : Pos} {Q : Value → Shared → Prop} {E : Value → Shared → Prop}, Names X y c → Q c { s' with heap := h2 } → wpAny (model X.prog X.w) (X.A.mark (some (.ref a))) (eval (.Name y np) X.env) Q E { s' with heap := h2 } := fun {y c np Q E} hc q => by
      obtain ⟨g1, g2, g3 | ⟨g3, g4, g5⟩⟩ := hc
      · exact ld_glob (X := X.suite a ((a, oe2) :: (X.pn ++ pins))) S2 g1 g3 q g2
      · exact ld_blt (X := X.suite a ((a, oe2) :: (X.pn ++ pins))) S2 g1 g3 g4 q g5 g2
    refine wpAny_handleBy_cons (codeAny_handlers_test (wpAny_Tuple (wpAny_items_cons (look hc (wpAny_items_cons (look hc' (wpAny_items_nil ⟨by show 2 ≤ sizeLine; decide, ?_⟩))))))) (fun z => nomatch z)
    have kp : ∀ b o, h2.get? b = some o → (h2.push { cls := .type "tuple", data := .seq [c, c'].toArray }).get? b = some o := fun _ _ e => Heap.get?_push_of_some _ e
    have gt : (h2.push { cls := .type "tuple", data := .seq [c, c'].toArray }).get? h2.objs.size = some { cls := .type "tuple", data := .seq [c, c'].toArray } := Heap.get?_push_size _ rfl
    have fl3 := sky_push fl2 kp
    have up3 := up2.trans (Heap.UpToSlots.of_keeps kp)
    show wpAny _ _ (excMatches (.ref a) (.ref h2.objs.size)) _ _ { s' with heap := h2.push { cls := .type "tuple", data := .seq [c, c'].toArray } }
    generalize h2.push { cls := .type "tuple", data := .seq [c, c'].toArray } = h3 at *
    have J3 : Inv X pins τ G { s' with heap := h3 } := J.landed nb fl3.1 (up.trans up3) os ag
    have ge3 := kp _ _ ge2
    have LT : PySem.W.Looks (model X.prog X.w) h3 (typeOf (.ref a)) cls := fun A Q E s k q => wpAny_typeOf_ref (k _ _ ge3) (by rw [hz2.1]; exact q)
    refine (PySem.W.exm_tup2 (M := model X.prog X.w) J3.kIn LT gt hb1).here ?_
    cases b with
    | true =>
      refine codeAny_handlers_suite (HandSPX.lands_againZ fl3 fun h4 fl4 up4 => ?_)
      obtain ⟨oe4, vs4, ge4, hz4, dd4⟩ := fl4.there
      have S4 := (J.landed nb fl4.1 ((up.trans up3).trans up4) os ag : Inv X pins τ G { s' with heap := h4 }).suite ge4 dd4 nx nL nF
      refine wpAny_mono ((hs a oe4 cls d (X.pn ++ pins) hz4 ⟨_, dd4⟩).run [] _ _ G _ S4 (hyes rfl a nx)) (fun f s6 z => ?_) (fun _ _ z => z.elim)
      cases f with
      | ret u => exact let ⟨v6, τ6, G6, S6, r6, q6⟩ := z; ⟨v6, τ6, G6, S6.unsuite ok, r6, q6⟩
      | _ => exact let ⟨τ6, G6, S6, q6⟩ := z; ⟨τ6, G6, S6.unsuite ok, q6⟩
    | false =>
      show wpAny _ X.A (handleBy (.ref a) X.env []) _ _ _
      refine wpAny_handleBy_nil ?_
      obtain ⟨k1, k2, k3, oe, vs, T, oT, ts', he, hz, hd, h1, hr⟩ := id fl3
      unfold PySem.passOn
      refine wpAny_bind (wpAny_field he hd h1 ?_)
      rw [if_neg (show ¬ ((Value.ref T == Value.none) = true) from by simp)]
      have off : wpAny (model X.prog X.w) X.A (setFlight (.ref a) X.env.frame) (fun _ s4 => wpAny (model X.prog X.w) X.A (throw (.ref a) : Sem Flow) (SP X pins D) X.xe s4) X.xe { s' with heap := h3 } := by
        rw [hfr]
        exact HandSPX.setFlight_upZ fl3 fun h4 hh4 up4 => wpAny_throw (tk _ _ ⟨a, M, s0, pins, τ, G, cls, d, rfl, J, nb, (up.trans up3).trans up4, .inr (.inr (by rw [hst]; exact hh4)), nx, os, ag, hno rfl⟩)
      first | exact wpAny_bind (wpAny_pure (wpAny_bind off)) | exact wpAny_bind off
  · cases fl with
    | next => exact let ⟨τ, G, J, q⟩ := z; wpAny_execs_nil ⟨τ, G, J.ofTry ok, q⟩
    | ret u => exact let ⟨v, τ, G, J, r, q⟩ := z; ⟨v, τ, G, J.ofTry ok, r, q⟩
    | _ => exact let ⟨τ, G, J, q⟩ := z; ⟨τ, G, J.ofTry ok, q⟩
/-- which of two clauses takes an exception -/
theorem exm_any2 {K : PySem.W.Frag} {cls c c' : Value} {b b' : Bool} (h1 : PySem.W.exmOne K cls c = some b) (h2 : PySem.W.exmOne K cls c' = some b') : PySem.W.exmAny K cls [c, c'] = some (b || b') := by
  simp [PySem.W.exmAny, h1, h2]
end
end L2

namespace Toy
open PySem L2

def top (i : Nat) : Stmt := PySem.Challenge.pw_undotrees_k69_logs_full.main.body.getD i (.Pass ⟨0, 0, 0, 0⟩)
abbrev s_law_pool : Stmt := top 36
abbrev s_law_take : Stmt := top 37
abbrev s_Log___init__ : Stmt := inClass (top 34) 0
abbrev s_is_name : Stmt := top 33
abbrev s_NoMark___init__ : Stmt := inClass (top 4) 0
abbrev s_Log_mark : Stmt := inClass (top 34) 5
abbrev s_is_row_within : Stmt := top 13
abbrev s_is_row : Stmt := top 14
abbrev s_look_at_row : Stmt := top 15
abbrev s_Full___init__ : Stmt := inClass (top 8) 0
abbrev s_contrary_sign : Stmt := top 16
abbrev s_made_plain : Stmt := top 18
abbrev s_Log_look_at_room : Stmt := inClass (top 34) 1
abbrev s_Log_put : Stmt := inClass (top 34) 2
abbrev s_Log_do : Stmt := inClass (top 34) 3
abbrev s_Log_row : Stmt := inClass (top 34) 7
abbrev s_Log_standing : Stmt := inClass (top 34) 8
abbrev s_Log_marks : Stmt := inClass (top 34) 9
abbrev s_Log___len__ : Stmt := inClass (top 34) 14
abbrev s_is_plain_row : Stmt := top 27
abbrev s_first_wrong : Stmt := top 28
abbrev s_rank : Stmt := top 19
abbrev s_Walk___init__ : Stmt := inClass (top 30) 0
abbrev s_Log_walk : Stmt := inClass (top 34) 10
abbrev s_named : Stmt := top 29
abbrev s_Walk___str__ : Stmt := inClass (top 30) 8
abbrev s_Walk_end : Stmt := inClass (top 30) 2
abbrev s_Walk_places : Stmt := inClass (top 30) 1
abbrev s_Rounds___init__ : Stmt := inClass (top 22) 0
abbrev s_Rounds_rest_many : Stmt := inClass (top 22) 1
abbrev s_is_whole : Stmt := top 12
abbrev s_Walk___len__ : Stmt := inClass (top 30) 6
abbrev s_signs_many : Stmt := top 23
abbrev s_Rounds_home : Stmt := inClass (top 22) 2
abbrev s_Rounds_choices : Stmt := inClass (top 22) 3
abbrev s_Rounds_go_on : Stmt := inClass (top 22) 4
abbrev s_shortest_at : Stmt := top 24
abbrev s_Log_short : Stmt := inClass (top 34) 11
abbrev s_law_seen : Stmt := top 39
abbrev s_NoBack___init__ : Stmt := inClass (top 7) 0
abbrev s_turned : Stmt := top 17
abbrev s_Log_back : Stmt := inClass (top 34) 4
abbrev s_Log_back_to : Stmt := inClass (top 34) 6
abbrev s_law_told : Stmt := top 38
abbrev s_law : Stmt := top 40
open RowM (sgns con ix Row)
open TL
/-- the reading, as far as it goes by itself -/
local macro_rules | `(tactic| walk_at "rd") => `(tactic| repeat (first
  | refine ⟨_, rfl, ?_⟩
  | refine ⟨_, _, rfl, rfl, ?_⟩
  | refine ⟨rfl, ?_⟩
  | refine ⟨(by show (0 : Int) < _; omega), ?_⟩
  | refine ⟨⟨by omega, by omega⟩, ?_⟩
  | refine ⟨(by decide), ?_⟩
  | refine ⟨(by omega), ?_⟩))
/-- the text of a list of signs' numbers -/
abbrev S (l : List Nat) : Str := ⟨l.toArray⟩
/-- all but the object at p is as it was -/
def Off (p : Addr) (H H' : Hp) : Prop := ∀ b o, b ≠ p → H b = some o → H' b = some o
theorem Off.refl (p : Addr) (H : Hp) : Off p H H := fun _ _ _ h => h
theorem Off.trans {p : Addr} {H H1 H2 : Hp} (a : Off p H H1) (b : Off p H1 H2) : Off p H H2 := fun c o n h => b c o n (a c o n h)
theorem off_of {p : Addr} {H H' : Hp} (a : Same H H') : Off p H H' := fun c o _ h => a c o h
theorem Off.upd {p : Addr} {H H' : Hp} {o : HO} (a : Off p H H') : Off p H (upd H' p o) := fun c u n h => by
  rw [upd_ne n]
  exact a c u n h
/-- the law's own pool of draws -/
def Pool (H : Hp) (p : Addr) : Prop := ∃ c n : Int, H p = some (.lst [.int c, .int n]) ∧ 0 ≤ n ∧ n < 2147483647
theorem Pool.same {H H' : Hp} {p : Addr} (h : Pool H p) (s : Same H H') : Pool H' p := by
  obtain ⟨c, n, e, r⟩ := h
  exact ⟨c, n, s _ _ e, r⟩
theorem Same.new {H : Hp} {p : Addr} {o : HO} (h : H p = none) : Same H (upd H p o) := fun b u e => by
  rw [upd_ne (ne_of_none e h)]
  exact e
theorem atI0 {α : Type} {a : α} {l : List α} : atI (a :: l) 0 = some a := atI_nat (xs := a :: l) (j := 0) rfl
theorem atI1 {α : Type} {a b : α} {l : List α} : atI (a :: b :: l) 1 = some b := atI_nat (xs := a :: b :: l) (j := 1) rfl
theorem one_le {c : Nat} : (⟨#[c]⟩ : Str).length ≤ 5592405 := by show 1 ≤ _; decide
/-! ### signs -/
open RowM (lo up)
theorem low1 : ∀ c ∈ sgns, Txt.lower (S [c]) = S [lo c] := by decide +kernel
theorem up1 : ∀ c ∈ sgns, Txt.upper (S [c]) = S [up c] := by decide +kernel
theorem isup1 : ∀ c ∈ sgns, Txt.isupper (S [c]) = decide (c < 97) := by decide +kernel
theorem islo1 : ∀ c ∈ sgns, Txt.islower (S [c]) = decide (97 ≤ c) := by decide +kernel
theorem six1 : ∀ c ∈ sgns, ∃ r, Builtin.Str.occurrences "aAbBcCdDeEfF" (S [c]) 0 12 1 = ix c :: r := by
  intro c hc
  have h : ∀ c ∈ sgns, (Builtin.Str.occurrences "aAbBcCdDeEfF" (S [c]) 0 12 1).head? = some (ix c) := by decide +kernel
  have := h c hc
  cases e : Builtin.Str.occurrences "aAbBcCdDeEfF" (S [c]) 0 12 1 with
  | nil => rw [e] at this; cases this
  | cons a r => rw [e] at this; cases this; exact ⟨r, rfl⟩
theorem sgns_at : ∀ i : Nat, i < 12 → ∃ c, (Str.ofString "aAbBcCdDeEfF").cps.toList[i]? = some c ∧ c ∈ sgns ∧ ix c = i := by
  have h : ∀ i ∈ List.range 12, (Str.ofString "aAbBcCdDeEfF").cps.toList[i]? = sgns[i]? ∧ (sgns[i]?).isSome = true ∧ ix (sgns.getD i 0) = i := by decide +kernel
  intro i hi
  obtain ⟨h1, h2, h3⟩ := h i (List.mem_range.mpr hi)
  have h4 : i < sgns.length := hi
  refine ⟨sgns[i], by rw [h1, List.getElem?_eq_getElem h4], List.getElem_mem _, ?_⟩
  rw [List.getD_eq_getElem?_getD, List.getElem?_eq_getElem h4] at h3
  exact h3
theorem sgns_mem : ∀ c : Nat, (c ∈ (Str.ofString "aAbBcCdDeEfF").cps.toList) = (c ∈ sgns) := by
  have h : (Str.ofString "aAbBcCdDeEfF").cps.toList = sgns := by decide +kernel
  intro c
  rw [h]
theorem sign_of_at {i : Int} {z : Str} (h0 : 0 ≤ i) (h1 : i < 12) (hz : z = Str.ofString "aAbBcCdDeEfF") : ∃ c, atI z.cps.toList i = some c ∧ c ∈ sgns ∧ (ix c : Int) = i := by
  subst hz
  obtain ⟨c, e, hc, hi⟩ := sgns_at i.toNat (by omega)
  refine ⟨c, ?_, hc, by omega⟩
  have : i = (i.toNat : Int) := by omega
  rw [this]
  exact atI_nat e
theorem el_is {te : TE} {σ : L2.St} {H : Hp} {xs ys : List V} (h : Evl.EvL te σ H xs) (e : xs = ys) : Evl.EvL te σ H ys := e ▸ h
theorem len_S (l : List Nat) : (S l).length = l.length := by simp [S, Str.length]
theorem add_S (l m : List Nat) : S l ++ S m = S (l ++ m) := ext_tl (by rw [tl_append])
theorem joinL_nil : ∀ ps : List (List Nat), joinL [] ps = ps.flatten
  | [] => rfl
  | [p] => by simp [joinL]
  | p :: q :: r => by rw [joinL, joinL_nil (q :: r)]; simp
theorem join_S (a : Str) (ha : tl a = []) (l : List Nat) : Txt.join a (l.map fun c => S [c]) = S l := by
  refine ext_tl ?_
  rw [join_eq, tl_join, ha, joinL_nil]
  show _ = l
  induction l with
  | nil => rfl
  | cons c l ih => simp [tl] at ih ⊢; exact ih
theorem sum_ones (l : List Nat) : ((l.map fun c => S [c]).map (·.length)).sum = l.length := by
  induction l with
  | nil => rfl
  | cons c l ih => simp only [List.map_cons, List.sum_cons, List.length_cons, ih, len_S]; simp; omega
section
open Evl
variable {K : PySem.W.Frag} {σ : L2.St} {H : Hp} {te tl' to : TE} {j : Nat} {vs : List Nat}
/-- "".join([e for sign in text]), each e a sign -/
theorem ev_joinMap {a s : Str} (g : Nat → Nat) (ho : Ev to σ H (.str a)) (ha : tl a = []) (h : Ev tl' σ H (.str s)) (hz : s.length ≤ 40000) (hw : ∀ x, wipe ((wipe σ vs).set j (some x)) vs = wipe σ vs)
    (he : ∀ (c : Nat) H1, Ex H H1 → c ∈ s.cps.toList → Ev te ((wipe σ vs).set j (some (.str ⟨#[c]⟩))) H1 (.str (S [g c]))) :
    Ev (tM1 (rJoinK K) to (tLc (iStr tl') (gName j) tYes te vs)) σ H
      (.str (S (s.cps.toList.map g))) := by
  have e1 : s.cps.toList.map (fun c => V.str (S [g c])) = ((s.cps.toList.map g).map fun c => S [c]).map V.str := by simp [List.map_map, Function.comp]
  have e2 : a.length = 0 := by rw [len_tl, ha]; rfl
  have z : s.cps.toList.length = s.length := rfl
  refine ev_is (ev_join ho (el_is (el_mapS (fun c => .str (S [g c])) h hz hw he) e1) ?_) (by rw [join_S a ha])
  rw [sum_ones, e2, List.length_map, z]
  omega
end
/-- [sign.upper(), sign.lower()][int(sign.isupper())] -/
theorem at_turn {c : Nat} (hc : c ∈ sgns) : atI [V.str (Txt.upper (S [c])), V.str (Txt.lower (S [c]))] (if Txt.isupper (S [c]) then 1 else 0) = some (.str (S [con c])) := by
  rw [up1 c hc, low1 c hc, isup1 c hc]
  unfold con up lo
  by_cases h : c < 97
  · have h2 : ¬ 97 ≤ c := by omega
    rw [if_neg h2, if_neg h2, if_neg h2, decide_eq_true h]
    exact atI1
  · have h2 : 97 ≤ c := by omega
    rw [if_pos h2, if_pos h2, if_pos h2, decide_eq_false h]
    exact atI0
theorem sz_str {l m : List Nat} (h1 : l.length < 40000) (h2 : m.length < 40000) : (S l).length + (S m).length ≤ sizeLine := by
  rw [len_S, len_S]
  exact Nat.le_trans (by omega : _ ≤ 100000) (by decide)
theorem row_snoc {l : List Nat} {c : Nat} (h : Row l) (hc : c ∈ sgns) : Row (l ++ [c]) := fun d hd => by
  rcases List.mem_append.mp hd with q | q
  · exact h d q
  · rw [List.mem_singleton.mp q]; exact hc
theorem all_snoc {P : Nat → Prop} {l : List Nat} {c : Nat} (h : ∀ d ∈ l, P d) (hc : P c) : ∀ d ∈ l ++ [c], P d := fun d hd => by
  rcases List.mem_append.mp hd with q | q
  · exact h d q
  · rw [List.mem_singleton.mp q]; exact hc
theorem at_last {m : List Nat} {d : Nat} : atI (S (m ++ [d])).cps.toList (-(1 : Int)) = some d := by
  show atI (m ++ [d]) (-1) = some d
  unfold atI ixN
  have h : -(((m ++ [d]).length : Nat) : Int) ≤ -1 := by simp; omega
  rw [if_neg (by decide), if_pos h]
  have e : ((-1 : Int) + ((m ++ [d]).length : Nat)).toNat = m.length := by simp; omega
  rw [e]
  simp
theorem cut_S (l : List Nat) (lo hi : Option Int) : cutS (S l) lo hi = S ((l.drop (HT.sIx l.length 0 lo)).take (HT.sIx l.length l.length hi - HT.sIx l.length 0 lo)) := by
  unfold cutS
  rw [len_S]
theorem cut_last {m : List Nat} {d : Nat} : cutS (S (m ++ [d])) none (some (-1)) = S m := by
  rw [cut_S, HT.sIx_none]
  have e : HT.sIx (m ++ [d]).length (m ++ [d]).length (some (-1)) = m.length := by
    show (if (-1 : Int) < 0 then ((-1 : Int) + ((m ++ [d]).length : Nat)).toNat else min (-1 : Int).toNat (m ++ [d]).length) = _
    rw [if_pos (by decide)]
    simp
    omega
  rw [e, List.drop_zero, Nat.sub_zero]
  simp
theorem sz_of' {n : Nat} (h : n ≤ 100000) : n ≤ sizeLine := Nat.le_trans h (by decide)
theorem exists_snoc {α : Type} {m : List α} (h : m ≠ []) : ∃ l d, m = l ++ [d] := ⟨m.dropLast, m.getLast h, (List.dropLast_concat_getLast h).symm⟩
theorem ix_con {c : Nat} (h : c ∈ sgns) : ix (con c) / 2 = ix c / 2 := by
  have : ∀ c ∈ sgns, ix (con c) / 2 = ix c / 2 := by decide
  exact this c h
/-! ### the rank of a row, as data -/
def intsD (xs : List Nat) : List PyData := xs.map fun (c : Nat) => .int (c : Int)
def rankD (l : List Nat) : PyData := .tuple [.int l.length, .list (intsD (l.map ix))]
theorem alike_ints : ∀ xs ys : List Nat, PySem.W.alikeAll (intsD xs) (intsD ys) = true
  | [], _ => by simp [intsD, PySem.W.alikeAll]
  | _ :: _, [] => by simp [intsD, PySem.W.alikeAll]
  | x :: xs, y :: ys => by
    have ih := alike_ints xs ys
    simp only [intsD] at ih ⊢
    simp [PySem.W.alikeAll, PySem.W.alike, ih]
theorem alike_rank (l m : List Nat) : PySem.W.alike (rankD l) (rankD m) = true := by
  simp [rankD, PySem.W.alike, PySem.W.alikeAll, alike_ints]
theorem eqv_int (a b : Int) : PyData.eqv (.int a) (.int b) = decide (a = b) := by
  simp [PyData.eqv]
  by_cases h : a = b <;> simp [h]
theorem lex_ints : ∀ xs ys : List Nat, xs.length = ys.length → PyProof.Rows.lexLt PyProof.Rows.itemOrd (PySem.W.keyToksAll (intsD xs)) (PySem.W.keyToksAll (intsD ys)) = RowM.lexI xs ys
  | [], [], _ => by decide
  | [], _ :: _, h => by simp at h
  | _ :: _, [], h => by simp at h
  | x :: xs, y :: ys, h => by
    have ih := lex_ints xs ys (by simpa using h)
    show PyProof.Rows.lexLt PyProof.Rows.itemOrd (PySem.W.keyToksAll (.int (x : Int) :: intsD xs)) (PySem.W.keyToksAll (.int (y : Int) :: intsD ys)) = _
    by_cases e : x = y
    · rw [PySem.W.dataLt_all_yes rfl (by rw [eqv_int]; simp [e]), ih, RowM.lexI, if_pos e]
    · rw [PySem.W.dataLt_all_no rfl (by rw [eqv_int]; simp; omega), PySem.W.dataLt_int, RowM.lexI, if_neg e]
      congr 1
      simp
theorem eqv_list_len : ∀ xs ys : List Nat, PyData.eqvAll (intsD xs) (intsD ys) = true → xs = ys
  | [], [], _ => rfl
  | [], _ :: _, h => by simp [intsD, PyData.eqvAll] at h
  | _ :: _, [], h => by simp [intsD, PyData.eqvAll] at h
  | x :: xs, y :: ys, h => by
    have h2 : PyData.eqvAll (.int (x : Int) :: intsD xs) (.int (y : Int) :: intsD ys) = true := h
    rw [PySem.W.eqv_all_cons, Bool.and_eq_true, eqv_int] at h2
    have := eqv_list_len xs ys h2.2
    have e := of_decide_eq_true h2.1
    rw [this]
    congr 1
    omega
theorem lt_rank {l m : List Nat} : PySem.W.dataLt (rankD l) (rankD m) = RowM.before l m := by
  unfold rankD
  rw [PySem.W.dataLt_tuple]
  unfold RowM.before
  by_cases e : l.length = m.length
  · rw [if_pos e, PySem.W.dataLt_all_yes rfl (by rw [eqv_int]; simp [e])]
    by_cases q : PyData.eqv (.list (intsD (l.map ix))) (.list (intsD (m.map ix))) = true
    · rw [PySem.W.dataLt_all_yes (by rw [PySem.W.alike]; exact alike_ints _ _) q]
      have : l.map ix = m.map ix := eqv_list_len _ _ (by simpa [PyData.eqv] using q)
      rw [this]
      have z : ∀ n : List Nat, RowM.lexI n n = false := by
        intro n
        induction n with
        | nil => rfl
        | cons a n ih => simp [RowM.lexI, ih]
      rw [z]
      decide
    · rw [PySem.W.dataLt_all_no (by rw [PySem.W.alike]; exact alike_ints _ _) (by simpa using q), PySem.W.dataLt_list, lex_ints _ _ (by simpa using e)]
  · rw [if_neg e, PySem.W.dataLt_all_no rfl (by rw [eqv_int]; simp; omega), PySem.W.dataLt_int]
    congr 1
    simp
section
variable {K : PySem.W.Frag} {H : Hp}
theorem dp_ints : ∀ xs : List Nat, DpAll K H (xs.map fun (c : Nat) => V.int (c : Int)) (intsD xs)
  | [] => .nil
  | x :: xs => .cons (.int _) (dp_ints xs)
theorem dp_rank {t q : Addr} {l : List Nat} (ht : H t = some (.tup [.int l.length, .ref q])) (hq : H q = some (.lst (l.map fun c => V.int (ix c : Nat)))) : Dp K H (.ref t) (rankD l) :=
  .tup (SqT.of ht) (.cons (.int _) (.cons (.lst (SqL.of hq) (by
    have := dp_ints (K := K) (H := H) (l.map ix)
    rw [List.map_map] at this
    exact this)) .nil))
end
theorem depth_ints : ∀ xs : List Nat, PyData.depthAll (intsD xs) = 0
  | [] => rfl
  | x :: xs => by
    have := depth_ints xs
    simp only [intsD, List.map_cons, PyData.depthAll, PyData.depth] at this ⊢
    omega
theorem depth_rank (l : List Nat) : (rankD l).depth ≤ 60 := by
  simp [rankD, PyData.depth, PyData.depthAll, depth_ints]
def isRow (l : List Nat) : Bool := decide (l.length ≤ 60) && l.all fun c => decide (c ∈ sgns)
theorem isRow_iff {l : List Nat} : isRow l = true ↔ l.length ≤ 60 ∧ Row l := by
  simp [isRow, RowM.Row]
theorem turns_ok (x t : Int) (h : 1 ≤ t) : 1 ≤ (if (if t < x then t else x) > 1 then (if t < x then t else x) else 1) ∧ (if (if t < x then t else x) > 1 then (if t < x then t else x) else 1) ≤ t := by
  by_cases a : t < x
  · rw [if_pos a]
    by_cases b : t > 1
    · rw [if_pos b]; omega
    · rw [if_neg b]; omega
  · rw [if_neg a]
    by_cases b : x > 1
    · rw [if_pos b]; omega
    · rw [if_neg b]; omega
theorem at2 {α : Type} {a b : α} {v : Int} (h0 : 0 ≤ v) (h1 : v < 2) : ∃ x, atI [a, b] v = some x ∧ (x = a ∨ x = b) := by
  have : v = 0 ∨ v = 1 := by omega
  rcases this with rfl | rfl
  · exact ⟨a, atI0, .inl rfl⟩
  · exact ⟨b, atI1, .inr rfl⟩
theorem cut_to {l : List Nat} {k : Nat} (h : k ≤ l.length) : cutS (S l) none (some (k : Int)) = S (l.take k) := by
  rw [cut_S, HT.sIx_none, HT.sIx_nat, Nat.min_eq_left h, List.drop_zero, Nat.sub_zero]
theorem cut_from {l : List Nat} {k : Nat} : cutS (S l) (some (k : Int)) none = S (l.drop k) := by
  rw [cut_S, HT.sIx_none, HT.sIx_nat]
  congr 1
  by_cases h : k ≤ l.length
  · rw [Nat.min_eq_left h]
    have : (l.drop k).length = l.length - k := List.length_drop ..
    rw [← this, List.take_length]
  · have h2 : l.length ≤ k := by omega
    rw [Nat.min_eq_right h2, List.drop_eq_nil_of_le h2, Nat.sub_self, List.take_zero]
theorem str_dec {c d : Nat} : decide (V.str (S [c]) = V.str (S [d])) = decide (c = d) := by
  apply decide_eq_decide.mpr
  constructor
  · intro h
    have h1 := congrArg (fun v => match v with | V.str z => z.cps.toList | _ => []) h
    simpa using h1
  · intro h; rw [h]
theorem row_sub {l m : List Nat} (h : Row l) (s : ∀ c ∈ m, c ∈ l) : Row m := fun c hc => h c (s c hc)
theorem row_app {l m : List Nat} (h : Row l) (h2 : Row m) : Row (l ++ m) := fun c hc => by
  rcases List.mem_append.mp hc with q | q
  · exact h c q
  · exact h2 c q
theorem at2of3 {α : Type} {a b c : α} {l : List α} : atI (a :: b :: c :: l) 2 = some c := atI_nat (xs := a :: b :: c :: l) (j := 2) rfl
theorem at3 {α : Type} {a b c : α} {v : Int} (h0 : 0 ≤ v) (h1 : v < 3) : ∃ x, atI [a, b, c] v = some x ∧ (x = a ∨ x = b ∨ x = c) := by
  have : v = 0 ∨ v = 1 ∨ v = 2 := by omega
  rcases this with rfl | rfl | rfl
  · exact ⟨a, atI0, .inl rfl⟩
  · exact ⟨b, atI1, .inr (.inl rfl)⟩
  · exact ⟨c, at2of3, .inr (.inr rfl)⟩
theorem at4 {α : Type} {a b c d : α} {v : Int} (h0 : 0 ≤ v) (h1 : v < 4) : ∃ x, atI [a, b, c, d] v = some x ∧ (x = a ∨ x = b ∨ x = c ∨ x = d) := by
  have : v = 0 ∨ v = 1 ∨ v = 2 ∨ v = 3 := by omega
  rcases this with rfl | rfl | rfl | rfl
  · exact ⟨a, atI0, .inl rfl⟩
  · exact ⟨b, atI1, .inr (.inl rfl)⟩
  · exact ⟨c, at2of3, .inr (.inr (.inl rfl))⟩
  · exact ⟨d, atI_nat (xs := [a, b, c, d]) (j := 3) rfl, .inr (.inr (.inr rfl))⟩
theorem Pool.ne {H : Hp} {p d : Addr} (h : Pool H p) (hd : H d = none) : p ≠ d := fun e => by
  obtain ⟨_, _, q, _⟩ := h
  rw [e, hd] at q
  cases q
theorem Pool.new {H : Hp} {p d : Addr} {o : HO} (h : Pool H p) (hd : H d = none) : Pool (upd H d o) p := h.same (Same.new hd)
/-- what stood ahead of the pool stands -/
theorem Off.same {H0 H H' : Hp} {p : Addr} (hp : H0 p = none) (s : Same H0 H) (o : Off p H H') : Same H0 H' := fun b u e => o b u (fun q => by rw [q, hp] at e; cases e) (s b u e)
/-! ### things of any kind -/
def NotStr (H : Hp) (x : V) : Prop := x = .non ∨ (∃ i, x = .int i) ∨ (∃ b, x = .bl b) ∨ ∃ a, x = .ref a ∧ ((∃ xs, H a = some (.lst xs)) ∨ (∃ xs, H a = some (.tup xs)) ∨ ∃ kvs, H a = some (.dK kvs))
theorem NotStr.same {H H' : Hp} {x : V} (h : NotStr H x) (s : Same H H') : NotStr H' x := by
  rcases h with h | h | h | ⟨a, e, ⟨xs, h⟩ | ⟨xs, h⟩ | ⟨xs, h⟩⟩
  · exact .inl h
  · exact .inr (.inl h)
  · exact .inr (.inr (.inl h))
  · exact .inr (.inr (.inr ⟨a, e, .inl ⟨xs, s _ _ h⟩⟩))
  · exact .inr (.inr (.inr ⟨a, e, .inr (.inl ⟨xs, s _ _ h⟩)⟩))
  · exact .inr (.inr (.inr ⟨a, e, .inr (.inr ⟨xs, s _ _ h⟩)⟩))
theorem NotStr.ty {K : PySem.W.Frag} {H : Hp} {x : V} (h : NotStr H x) : ∃ t : String, TyX K H x (.type t) ∧ kitB t "str" = some false := by
  rcases h with rfl | ⟨i, rfl⟩ | ⟨b, rfl⟩ | ⟨a, rfl, ⟨xs, h⟩ | ⟨xs, h⟩ | ⟨xs, h⟩⟩
  · exact ⟨_, .base .non, by decide +kernel⟩
  · exact ⟨_, .base (.int _), by decide +kernel⟩
  · exact ⟨_, .base (.bl _), by decide +kernel⟩
  · exact ⟨_, .base (.lst h), by decide +kernel⟩
  · exact ⟨_, .base (.tup h), by decide +kernel⟩
  · exact ⟨_, .base (.dK h), by decide +kernel⟩
/-- whether x is a text of at most so many of the twelve signs -/
def IsRowW (H : Hp) (x : V) (most : Int) (r : Bool) : Prop := (∃ l : List Nat, x = .str (S l) ∧ l.length ≤ 40000 ∧ r = (decide ((l.length : Int) ≤ most) && l.all fun c => decide (c ∈ sgns))) ∨ (NotStr H x ∧ r = false)
def IsRowV (H : Hp) (x : V) (r : Bool) : Prop := (∃ l : List Nat, x = .str (S l) ∧ l.length ≤ 40000 ∧ r = isRow l) ∨ (NotStr H x ∧ r = false)
theorem IsRowV.same {H H' : Hp} {x : V} {r : Bool} (h : IsRowV H x r) (s : Same H H') : IsRowV H' x r := by
  rcases h with h | ⟨h, e⟩
  · exact .inl h
  · exact .inr ⟨h.same s, e⟩
theorem IsRowV.w {H : Hp} {x : V} {r : Bool} (h : IsRowV H x r) : IsRowW H x 60 r := by
  rcases h with ⟨l, e, z, q⟩ | h
  · refine .inl ⟨l, e, z, ?_⟩
    rw [q]
    unfold isRow
    have z : decide ((l.length : Int) ≤ 60) = decide (l.length ≤ 60) := decide_eq_decide.mpr (by omega)
    rw [z]
  · exact .inr h
theorem Off.mut {p D : Addr} {H H' : Hp} {o : HO} (a : Off p H H') (hD : H D = none) : Off p H (L2.upd H' D o) := fun b u n h => by
  rw [L2.upd_ne (ne_of_none h hD)]
  exact a b u n h
theorem str_at {z : Str} {u : Int} (h0 : 0 ≤ u) (h1 : u < (z.length : Int)) : ∃ c, atI z.cps.toList u = some c ∧ c ∈ z.cps.toList := by
  obtain ⟨n, rfl⟩ : ∃ n : Nat, u = (n : Int) := ⟨u.toNat, by omega⟩
  have h2 : n < z.cps.toList.length := by
    have : z.cps.toList.length = z.length := rfl
    omega
  exact ⟨z.cps.toList[n], atI_nat (List.getElem?_eq_getElem h2), List.getElem_mem _⟩
/-! ### the ten things that are no texts -/
def oddL (t1 l1 d1 l2 t2 l3 : Addr) : List V := [.non, .int 0, .bl true, .ref t1, .ref l1, .ref d1, .ref l2, .ref t2, .ref l3, .int ((10 : Int) ^ (30 : Int).toNat)]
def oddH (H : Hp) (t1 l1 d1 l2 t2 l3 O : Addr) : Hp := upd (upd (upd (upd (upd (upd (upd H t1 (.tup [])) l1 (.lst [])) d1 (.dK [])) l2 (.lst [.str (Str.ofString "a")])) t2 (.tup [.str (Str.ofString "a")])) l3 (.lst [.str (Str.ofString "a"), .str (Str.ofString "b")])) O (.lst (oddL t1 l1 d1 l2 t2 l3))
theorem oddH_ok {H H1 H2 H3 H4 H5 H6 : Hp} {t1 l1 d1 l2 t2 l3 O : Addr} (e1 : H1 = upd H t1 (.tup [])) (e2 : H2 = upd H1 l1 (.lst [])) (e3 : H3 = upd H2 d1 (.dK [])) (e4 : H4 = upd H3 l2 (.lst [.str (Str.ofString "a")])) (e5 : H5 = upd H4 t2 (.tup [.str (Str.ofString "a")])) (e6 : H6 = upd H5 l3 (.lst [.str (Str.ofString "a"), .str (Str.ofString "b")]))
    (n1 : H t1 = none) (n2 : H1 l1 = none) (n3 : H2 d1 = none) (n4 : H3 l2 = none) (n5 : H4 t2 = none) (n6 : H5 l3 = none) (n7 : H6 O = none) :
    Same H (oddH H t1 l1 d1 l2 t2 l3 O) ∧ oddH H t1 l1 d1 l2 t2 l3 O O = some (.lst (oddL t1 l1 d1 l2 t2 l3)) ∧ ∀ x ∈ oddL t1 l1 d1 l2 t2 l3, NotStr (oddH H t1 l1 d1 l2 t2 l3 O) x := by
  have eH : oddH H t1 l1 d1 l2 t2 l3 O = upd H6 O (.lst (oddL t1 l1 d1 l2 t2 l3)) := by rw [e6, e5, e4, e3, e2, e1]; rfl
  rw [eH]
  have s6 : Same H6 (upd H6 O (.lst (oddL t1 l1 d1 l2 t2 l3))) := Same.new n7
  have s5 : Same H5 _ := Same.trans (e6 ▸ Same.new n6) s6
  have s4 : Same H4 _ := Same.trans (e5 ▸ Same.new n5) s5
  have s3 : Same H3 _ := Same.trans (e4 ▸ Same.new n4) s4
  have s2 : Same H2 _ := Same.trans (e3 ▸ Same.new n3) s3
  have s1 : Same H1 _ := Same.trans (e2 ▸ Same.new n2) s2
  have s0 : Same H _ := Same.trans (e1 ▸ Same.new n1) s1
  refine ⟨s0, upd_same, fun x hx => ?_⟩
  simp only [oddL, List.mem_cons, List.not_mem_nil, or_false] at hx
  rcases hx with rfl | rfl | rfl | rfl | rfl | rfl | rfl | rfl | rfl | rfl
  · exact .inl rfl
  · exact .inr (.inl ⟨_, rfl⟩)
  · exact .inr (.inr (.inl ⟨_, rfl⟩))
  · exact .inr (.inr (.inr ⟨_, rfl, .inr (.inl ⟨_, s1 _ _ (by rw [e1]; exact upd_same)⟩)⟩))
  · exact .inr (.inr (.inr ⟨_, rfl, .inl ⟨_, s2 _ _ (by rw [e2]; exact upd_same)⟩⟩))
  · exact .inr (.inr (.inr ⟨_, rfl, .inr (.inr ⟨_, s3 _ _ (by rw [e3]; exact upd_same)⟩)⟩))
  · exact .inr (.inr (.inr ⟨_, rfl, .inl ⟨_, s4 _ _ (by rw [e4]; exact upd_same)⟩⟩))
  · exact .inr (.inr (.inr ⟨_, rfl, .inr (.inl ⟨_, s5 _ _ (by rw [e5]; exact upd_same)⟩)⟩))
  · exact .inr (.inr (.inr ⟨_, rfl, .inl ⟨_, s6 _ _ (by rw [e6]; exact upd_same)⟩⟩))
  · exact .inr (.inl ⟨_, rfl⟩)
/-- a sign among the twelve, in a list of them -/
theorem inV_signs (c : Nat) : inV (V.str (S [c])) ((Str.ofString "aAbBcCdDeEfF").cps.toList.map fun d => V.str ⟨#[d]⟩) = decide (c ∈ sgns) := by
  have h : (Str.ofString "aAbBcCdDeEfF").cps.toList = sgns := by decide +kernel
  rw [h]
  unfold inV
  rw [List.any_map]
  have e : ∀ d : Nat, eqV (V.str ⟨#[d]⟩) (V.str (S [c])) = decide (d = c) := fun d => by
    show ((⟨#[d]⟩ : Str) == S [c]) = decide (d = c)
    by_cases q : d = c
    · subst q; simp
    · rw [decide_eq_false q]
      apply beq_eq_false_iff_ne.mpr
      intro z
      have := congrArg (fun z : Str => z.cps.toList) z
      simp at this
      exact q this
  rw [show (sgns.any ((fun y => eqV y (V.str (S [c]))) ∘ fun d => V.str ⟨#[d]⟩)) = sgns.any fun d => decide (d = c) from by congr 1; funext d; exact e d]
  by_cases q : c ∈ sgns
  · rw [decide_eq_true q]
    exact List.any_eq_true.mpr ⟨c, q, by simp⟩
  · rw [decide_eq_false q]
    exact List.any_eq_false.mpr fun d hd => by simp; intro z; subst z; exact q hd
theorem dp_strs {K : PySem.W.Frag} {H : Hp} : ∀ zs : List Str, DpAll K H (zs.map V.str) (zs.map PyData.str)
  | [] => .nil
  | z :: zs => .cons (.str z) (dp_strs zs)
theorem eqv_nil : ∀ ds : List PyData, PyData.eqv (.list ds) (.list []) = ds.isEmpty
  | [] => by simp [PyData.eqv, PyData.eqvAll]
  | _ :: _ => by simp [PyData.eqv, PyData.eqvAll]
/-- a list of code points that a text may hold -/
def Chs (l : List Nat) : Prop := ∀ c ∈ l, c < 1114112
theorem chs_in {l m : List Nat} (h : ∀ c ∈ l, c ∈ m) (g : (m.all fun c => decide (c < 1114112)) = true) : Chs l := fun c hc => of_decide_eq_true (List.all_eq_true.mp g c (h c hc))
theorem chs_sgns : (sgns.all fun c => decide (c < 1114112)) = true := by decide
theorem Chs.app {l m : List Nat} (a : Chs l) (b : Chs m) : Chs (l ++ m) := fun c h => by
  rcases List.mem_append.mp h with h | h
  · exact a c h
  · exact b c h
theorem shaped_strs (zs : List Str) (hz : zs.all PyData.strOk = true) : SeqAt.shaped (.list (zs.map PyData.str)) = true := by
  have h1 : PyData.canLayAll0 (zs.map PyData.str) = true := by
    induction zs with
    | nil => rfl
    | cons z zs ih =>
      simp only [List.all_cons, Bool.and_eq_true] at hz
      simp [PyData.canLayAll0, PyData.canLay0, hz.1, ih hz.2]
  have h2 : ∀ zs : List Str, PyData.depthAll (zs.map PyData.str) = 0 := by
    intro zs
    induction zs with
    | nil => rfl
    | cons z zs ih => simp [PyData.depthAll, PyData.depth, ih]
  simp [SeqAt.shaped, PyData.canLay0, h1, PyData.depth, h2]
/-- the signs of a text that are none of the twelve -/
def strays (l : List Nat) : List Str := ((List.range l.length).filter fun i => !decide (l.getD i 0 ∈ sgns)).map fun i => S [l.getD i 0]
theorem given_strays (l : List Nat) : Evl.given l.length (fun i => !decide (l.getD i 0 ∈ sgns)) (fun i => V.str (S [l.getD i 0])) = (strays l).map V.str := by
  unfold Evl.given strays
  rw [List.map_map]
  rfl
theorem getD_mem {l : List Nat} {i : Nat} (h : i < l.length) : l.getD i 0 ∈ l := by
  rw [List.getD_eq_getElem?_getD, List.getElem?_eq_getElem h]
  exact List.getElem_mem _
theorem strays_ok {l : List Nat} (h : Chs l) : (strays l).all PyData.strOk = true := by
  refine List.all_eq_true.mpr fun z hz => ?_
  unfold strays at hz
  obtain ⟨i, hi, rfl⟩ := List.mem_map.mp hz
  have hi := (List.mem_filter.mp hi).1
  have := h _ (getD_mem (List.mem_range.mp hi))
  simp [PyData.strOk]
  simpa using this
theorem strays_none (l : List Nat) : (strays l).isEmpty = l.all fun c => decide (c ∈ sgns) := by
  by_cases h : ∀ c ∈ l, c ∈ sgns
  · have e : strays l = [] := by
      unfold strays
      rw [List.map_eq_nil_iff, List.filter_eq_nil_iff]
      intro i hi
      have := h _ (getD_mem (List.mem_range.mp hi))
      simpa using this
    rw [e, List.all_eq_true.mpr fun c hc => decide_eq_true (h c hc)]
    rfl
  · rw [show (l.all fun c => decide (c ∈ sgns)) = false from by
      cases q : l.all fun c => decide (c ∈ sgns)
      · rfl
      · exact absurd (fun c hc => of_decide_eq_true (List.all_eq_true.mp q c hc)) h]
    cases q : (strays l).isEmpty
    · rfl
    · refine absurd (fun c hc => ?_) h
      obtain ⟨i, hi, e⟩ := List.getElem_of_mem hc
      have z := List.isEmpty_iff.mp q
      unfold strays at z
      rw [List.map_eq_nil_iff, List.filter_eq_nil_iff] at z
      have := z i (List.mem_range.mpr hi)
      rw [List.getD_eq_getElem?_getD, List.getElem?_eq_getElem hi] at this
      simpa [e] using this
/-! ### walks -/
open WalkM (PRow Tree addK gone srt)
theorem S_inj1 {l m : List Nat} (h : S l = S m) : l = m := by
  have := congrArg (fun z : Str => z.cps.toList) h
  simpa using this
theorem sT_inj {l m : List Nat} (h : V.str (S l) = .str (S m)) : l = m := by
  injection h with h
  exact S_inj1 h
theorem no_both {x y : Option HO} {o : HO} (h : x = none) (g : y = some o) (e : x = y := by rfl) : False := by
  rw [← e, h] at g
  cases g
/-- a row as a value, as a key -/
def sT (p : List Nat) : V := .str (S p)
def kT (p : List Nat) : Key := Sum.inr (S p)
def kvT (ks : List (List Nat)) : List (Key × V) := ks.map fun p => (kT p, .bl true)
theorem kT_inj {p q : List Nat} : kT p = kT q ↔ p = q := ⟨fun h => by injection h with h; exact S_inj1 h, fun h => by rw [h]⟩
theorem kV_kT (p : List Nat) : kV (kT p) = sT p := rfl
theorem keys_T (ks : List (List Nat)) : (kvT ks).map (fun kv => kV kv.1) = ks.map sT := by simp [kvT, Function.comp, kV_kT]
theorem val_T (ks : List (List Nat)) (p : List Nat) : valV (kvT ks) (kT p) = if p ∈ ks then some (.bl true) else none := by
  unfold valV kvT
  induction ks with
  | nil => rfl
  | cons q ks ih =>
    rw [List.map_cons, List.find?_cons]
    by_cases h : kT q = kT p
    · have := kT_inj.mp h
      subst this
      simp
    · have h2 : ¬ p = q := fun e => h (by rw [e])
      simp only [h, decide_false]
      rw [ih]
      simp [h2]
theorem put_T (ks : List (List Nat)) (p : List Nat) : putK (kvT ks) (kT p) (.bl true) = kvT (addK ks p) := by
  have e : (kvT ks).any (fun kv => decide (kv.1 = kT p)) = decide (p ∈ ks) := by
    unfold kvT
    rw [List.any_map]
    induction ks with
    | nil => rfl
    | cons q ks ih =>
      rw [List.any_cons, ih]
      by_cases h : q = p
      · subst h; simp
      · have h2 : ¬ p = q := fun e => h e.symm
        simp [kT_inj, h, h2]
  unfold putK addK
  rw [e]
  by_cases h : p ∈ ks
  · rw [if_pos h, decide_eq_true h, if_pos rfl]
    unfold kvT
    rw [List.map_map]
    refine List.map_congr_left fun q _ => ?_
    simp only [Function.comp]
    by_cases h2 : kT q = kT p
    · rw [if_pos h2]
    · rw [if_neg h2]
  · rw [if_neg h, decide_eq_false h, if_neg (by decide)]
    simp [kvT]
theorem merge_T (p : List Nat) : mergeK [] [(kT p, V.bl true)] = kvT [p] := rfl
theorem len_kvT (ks : List (List Nat)) : (kvT ks).length = ks.length := by simp [kvT]
/-- the last sign of a text -/
theorem ends_last {l : List Nat} {d : Nat} : Txt.endswith (S l) (S [d]) = decide (l.getLast? = some d) := by
  have e1 : (S [d]).length = 1 := rfl
  have e : Txt.endswith (S l) (S [d]) = (decide ((S [d]).length ≤ (S l).length) && Builtin.Str.subAt (S l) (S [d]) ((S l).length - (S [d]).length)) := by
    unfold Txt.endswith
    simp
  rw [e, PySem.StrLaws.subAt_eq, e1, len_S]
  show (decide (1 ≤ l.length) && ((l.drop (l.length - 1)).take 1 == [d])) = _
  rcases List.eq_nil_or_concat l with rfl | ⟨m, x, rfl⟩
  · rfl
  · have h1 : (m.concat x).length - 1 = m.length := by simp
    rw [h1, List.concat_eq_append, List.drop_left]
    by_cases h : x = d <;> simp [h]
theorem made_on {l : List Nat} {i c : Nat} (hc : l[i]? = some c) : RowM.plain (l.take (i + 1)) = WalkM.on (RowM.plain (l.take i)) c := by
  rw [List.take_add_one, hc]
  exact WalkM.plain_snoc _ _
/-- a walk in the heap: the object, the list of its places, the places, the end -/
def wkfs (q : Addr) (e : List Nat) : List (Str × V) := [(Str.ofString "own_places", .ref q), (Str.ofString "own_end", sT e)]
def WkAt (C : Addr) (H : Hp) (a q : Addr) (ps : List (List Nat)) (e : List Nat) : Prop := (∃ dx, H a = some (.ins C dx (wkfs q e))) ∧ H q = some (.lst (ps.map sT))
theorem WkAt.same {C : Addr} {H H' : Hp} {a q : Addr} {ps : List (List Nat)} {e : List Nat} (h : WkAt C H a q ps e) (s : Same H H') : WkAt C H' a q ps e := ⟨let ⟨dx, z⟩ := h.1; ⟨dx, s _ _ z⟩, s _ _ h.2⟩
theorem WkAt.off {C p : Addr} {H H' : Hp} {a q : Addr} {ps : List (List Nat)} {e : List Nat} (h : WkAt C H a q ps e) (s : Off p H H') (n1 : a ≠ p) (n2 : q ≠ p) : WkAt C H' a q ps e := ⟨let ⟨dx, z⟩ := h.1; ⟨dx, s _ _ n1 z⟩, s _ _ n2 h.2⟩
theorem le_rank (l m : List Nat) : PySem.W.dataLe false (fun b : V × PyData => b.2) (sT l, rankD l) (sT m, rankD m) = WalkM.leR l m := by
  show (!PySem.W.dataLt (rankD m) (rankD l)) = _
  rw [lt_rank]
  rfl
def bsT (ts : List (List Nat)) : List (V × PyData) := ts.map fun p => (sT p, rankD p)
theorem bsT_fst (ts : List (List Nat)) : (bsT ts).map (·.1) = ts.map sT := by simp [bsT, Function.comp]
theorem sort_bsT (ts : List (List Nat)) : ((bsT ts).mergeSort (PySem.W.dataLe false (·.2))).map (·.1) = (srt ts).map sT := by
  have h : (ts.mergeSort WalkM.leR).map (fun p => ((sT p, rankD p) : V × PyData)) = (bsT ts).mergeSort (PySem.W.dataLe false (·.2)) :=
    List.map_mergeSort fun a _ b _ => (le_rank a b).symm
  rw [← h, List.map_map]
  rfl
theorem alike_bsT (ts : List (List Nat)) : PySem.W.AllAlike ((bsT ts).map (·.2)) := fun d hd d' hd' => by
  simp only [bsT, List.map_map, List.mem_map, Function.comp] at hd hd'
  obtain ⟨p, _, rfl⟩ := hd
  obtain ⟨q, _, rfl⟩ := hd'
  exact alike_rank p q
theorem sortable_bsT (ts : List (List Nat)) : PySem.W.Sortable ((bsT ts).map (·.2)) := .inl fun d hd => by
  simp only [bsT, List.map_map, List.mem_map, Function.comp] at hd
  obtain ⟨p, _, rfl⟩ := hd
  exact ⟨_, _, rfl⟩
theorem depth_rank2 (l : List Nat) : (rankD l).depth ≤ 50 := by
  simp [rankD, PyData.depth, PyData.depthAll, depth_ints]
theorem in_texts (ts : List (List Nat)) (p : List Nat) : inV (sT p) (ts.map sT) = decide (p ∈ ts) := by
  unfold inV sT
  rw [List.any_map]
  induction ts with
  | nil => rfl
  | cons q ts ih =>
    rw [List.any_cons, ih]
    by_cases h : p = q
    · subst h; simp [eqV]
    · have h2 : ¬ S p = S q := fun e => h (S_inj1 e)
      have h3 : ¬ S q = S p := fun e => h (S_inj1 e).symm
      simp [eqV, h, h2, h3]
theorem flat_T (ts : List (List Nat)) : (ts.map sT).all flatV = true := by
  rw [List.all_map]
  exact List.all_eq_true.mpr fun _ _ => rfl
/-- a tree whose rows are short -/
structure TreeS (ts : List (List Nat)) : Prop where
  t : Tree ts
  z : ∀ p ∈ ts, p.length ≤ 60
  n0 : 1 ≤ ts.length
  n1 : ts.length ≤ 61
theorem treeS_gone {l : List Nat} (h : Row l) (z : l.length ≤ 60) : TreeS (gone l) :=
  ⟨WalkM.tree_gone h, fun p hp => Nat.le_trans (WalkM.gone_small l p hp) z, WalkM.gone_pos l, Nat.le_trans (WalkM.gone_length l) (by omega)⟩
theorem on_snoc {m : List Nat} {c : Nat} : WalkM.on (m ++ [con c]) c = m := by
  unfold WalkM.on
  rw [if_pos (by simp)]
  simp
theorem on_else {p : List Nat} {c : Nat} (h : ¬ p.getLast? = some (con c)) : WalkM.on p c = p ++ [c] := if_neg h
theorem TreeS.row {ts : List (List Nat)} (h : TreeS ts) {p : List Nat} (hp : p ∈ ts) : isRow p = true := isRow_iff.mpr ⟨h.z p hp, (h.t.pr p hp).1⟩
/-- what lies within -/
def within (l m : List Nat) : Bool := (gone l).all fun p => decide (p ∈ gone m)
theorem within_srt (l m : List Nat) : ((srt (gone l)).all fun p => decide (p ∈ srt (gone m))) = within l m := by
  unfold within
  rw [(WalkM.srt_perm (gone l)).all_eq]
  simp only [WalkM.srt_mem]
theorem con_is {c : Nat} (hc : c ∈ sgns) : (if Txt.isupper (S [c]) = true then V.str (Txt.lower (S [c])) else V.str (Txt.upper (S [c]))) = .str (S [con c]) := by
  rw [up1 c hc, low1 c hc, isup1 c hc]
  unfold con lo up
  by_cases h : c < 97
  · have h2 : ¬ 97 ≤ c := by omega
    rw [decide_eq_true h, if_pos rfl, if_neg h2, if_neg h2]
  · have h2 : 97 ≤ c := by omega
    rw [decide_eq_false h, if_neg (by decide), if_pos h2, if_pos h2]
theorem ne_nil {l : List Nat} (h : l ≠ []) : decide (V.str (S l) = V.str (Str.ofString "")) = false := decide_eq_false fun e => h (sT_inj (l := l) (m := []) e)
theorem dec_nil (l : List Nat) : decide (V.str (S l) = V.str (Str.ofString "")) = decide (l = []) := decide_eq_decide.mpr ⟨fun e => sT_inj (l := l) (m := []) e, fun e => by rw [e]; rfl⟩
theorem dec_str (l m : List Nat) : decide (V.str (S l) = V.str (S m)) = decide (l = m) := decide_eq_decide.mpr ⟨sT_inj, fun e => by rw [e]⟩
/-- rows as data -/
def sD (ts : List (List Nat)) : List PyData := (ts.map S).map PyData.str
theorem sT_map (ts : List (List Nat)) : ts.map sT = (ts.map S).map V.str := by rw [List.map_map]; rfl
theorem dp_T {K : PySem.W.Frag} {H : Hp} {q : Addr} {ts : List (List Nat)} (h : H q = some (.lst (ts.map sT))) : Dp K H (.ref q) (.list (sD ts)) := .lst (SqL.of h) (by rw [sT_map]; exact dp_strs _)
theorem strOk_row {l : List Nat} (h : Row l) : PyData.strOk (S l) = true := by
  have := strays_ok (l := l) (chs_in (m := sgns) h chs_sgns)
  have q : ∀ c ∈ l, c < 1114112 := chs_in (m := sgns) h chs_sgns
  unfold PyData.strOk
  simp only [List.all_eq_true, Array.all_eq_true, decide_eq_true_eq]
  first
    | exact q
    | (intro i hi; exact q _ (by simpa using List.getElem_mem (l := l) (by simpa using hi)))
theorem shaped_T {ts : List (List Nat)} (h : ∀ p ∈ ts, Row p) : SeqAt.shaped (.list (sD ts)) = true := shaped_strs _ (by
  rw [List.all_map]
  exact List.all_eq_true.mpr fun p hp => strOk_row (h p hp))
theorem eqv_sD : ∀ ts us : List (List Nat), PyData.eqvAll (sD ts) (sD us) = decide (ts = us)
  | [], [] => by simp [sD, PyData.eqvAll]
  | [], _ :: _ => by simp [sD, PyData.eqvAll]
  | _ :: _, [] => by simp [sD, PyData.eqvAll]
  | t :: ts, u :: us => by
    have ih := eqv_sD ts us
    have e : sD (t :: ts) = .str (S t) :: sD ts := rfl
    have e2 : sD (u :: us) = .str (S u) :: sD us := rfl
    rw [e, e2, PySem.W.eqv_all_cons, ih]
    have e3 : PyData.eqv (.str (S t)) (.str (S u)) = decide (t = u) := by
      simp only [PyData.eqv]
      by_cases h : t = u
      · subst h; simp
      · have : ¬ S t = S u := fun z => h (S_inj1 z)
        simp [h, this]
    rw [e3]
    by_cases h1 : t = u
    · by_cases h2 : ts = us
      · simp [h1, h2]
      · simp [h1, h2]
    · simp [h1]
theorem eqv_T (ts us : List (List Nat)) : PyData.eqv (.list (sD ts)) (.list (sD us)) = decide (ts = us) := by rw [PyData.eqv, eqv_sD]
theorem within_nil (l m : List Nat) : decide (((gone l).filter fun p => !decide (p ∈ gone m)) = []) = within l m := by
  unfold within
  rw [Bool.eq_iff_iff, decide_eq_true_iff, List.filter_eq_nil_iff, List.all_eq_true]
  simp
theorem turn_one (c : Nat) : RowM.turn [c] = [con c] := rfl
theorem isRow_of {l : List Nat} (h : Row l) (z : l.length ≤ 60) : isRow l = true := isRow_iff.mpr ⟨z, h⟩

/-! ### rounds: what is left at each place -/
theorem starts_S {e q : List Nat} : Txt.startswith (S e) (S q) = q.isPrefixOf e := by
  have h : Txt.startswith (S e) (S q) = (decide ((S q).length ≤ (S e).length) && Builtin.Str.subAt (S e) (S q) 0) := by
    unfold Txt.startswith
    simp
  rw [h, PySem.StrLaws.subAt_eq, len_S, len_S]
  show (decide (q.length ≤ e.length) && ((e.drop 0).take q.length == q)) = _
  rw [List.drop_zero, Bool.eq_iff_iff, List.isPrefixOf_iff_prefix, Bool.and_eq_true, decide_eq_true_eq, beq_iff_eq]
  constructor
  · rintro ⟨_, h⟩
    exact ⟨e.drop q.length, by conv => lhs; lhs; rw [← h]
                               exact List.take_append_drop _ _⟩
  · rintro ⟨t, rfl⟩
    exact ⟨by simp, by simp⟩
def kvL (ps : List (List Nat)) (g : List Nat → List Nat) : List (Key × V) := ps.map fun p => (kT p, sT (g p))
def setF (g : List Nat → List Nat) (p x : List Nat) (q : List Nat) : List Nat := if q = p then x else g q
theorem setF_same {g : List Nat → List Nat} {p x : List Nat} : setF g p x p = x := if_pos rfl
theorem setF_ne {g : List Nat → List Nat} {p x q : List Nat} (h : q ≠ p) : setF g p x q = g q := if_neg h
theorem keys_L (ps : List (List Nat)) (g : List Nat → List Nat) : (kvL ps g).map (fun kv => kV kv.1) = ps.map sT := by simp [kvL, Function.comp, kV_kT]
theorem any_L (ps : List (List Nat)) (g : List Nat → List Nat) (p : List Nat) : (kvL ps g).any (fun kv => decide (kv.1 = kT p)) = decide (p ∈ ps) := by
  unfold kvL
  rw [List.any_map]
  induction ps with
  | nil => rfl
  | cons q ks ih =>
    rw [List.any_cons, ih]
    by_cases h : q = p
    · subst h; simp
    · have h2 : ¬ p = q := fun e => h e.symm
      simp [kT_inj, h, h2]
theorem val_L (g : List Nat → List Nat) {p : List Nat} : ∀ {ps : List (List Nat)}, p ∈ ps → valV (kvL ps g) (kT p) = some (sT (g p))
  | q :: ks, h => by
    unfold valV kvL
    rw [List.map_cons, List.find?_cons]
    by_cases e : kT q = kT p
    · have := kT_inj.mp e
      subst this
      simp
    · simp only [e, decide_false]
      have h2 : p ∈ ks := (List.mem_cons.mp h).resolve_left fun z => e (by rw [z])
      exact val_L g h2
theorem put_new {ps : List (List Nat)} {g : List Nat → List Nat} {p x : List Nat} (h : p ∉ ps) : putK (kvL ps g) (kT p) (sT x) = kvL (ps ++ [p]) (setF g p x) := by
  unfold putK
  rw [any_L, decide_eq_false h, if_neg (by decide)]
  unfold kvL
  rw [List.map_append, List.map_singleton, setF_same]
  congr 1
  exact List.map_congr_left fun q hq => by rw [setF_ne (fun e => h (by rw [← e]; exact hq))]
theorem put_old {ps : List (List Nat)} {g : List Nat → List Nat} {p x : List Nat} (h : p ∈ ps) : putK (kvL ps g) (kT p) (sT x) = kvL ps (setF g p x) := by
  unfold putK
  rw [any_L, decide_eq_true h, if_pos rfl]
  unfold kvL
  rw [List.map_map]
  refine List.map_congr_left fun q _ => ?_
  simp only [Function.comp]
  by_cases h2 : q = p
  · subst h2; rw [if_pos rfl, setF_same]
  · rw [if_neg (fun e => h2 (kT_inj.mp e)), setF_ne h2]
/-- a step off the way to the end -/
def offE (e p q : List Nat) : Bool := decide (q ≠ []) && decide (q.dropLast = p) && !(q.isPrefixOf e)
def cnt (qs : List (List Nat)) (e p : List Nat) : Nat := (qs.filter (offE e p)).length
theorem cnt_snoc (qs : List (List Nat)) (e p q : List Nat) : cnt (qs ++ [q]) e p = cnt qs e p + if offE e p q = true then 1 else 0 := by
  unfold cnt
  rw [List.filter_append, List.length_append, List.filter_cons]
  split <;> simp
theorem cnt_le (qs : List (List Nat)) (e p : List Nat) : cnt qs e p ≤ qs.length := List.length_filter_le _ _
theorem len_of_leR {a b : List Nat} (h : WalkM.leR a b = true) : a.length ≤ b.length := by
  unfold WalkM.leR RowM.before at h
  by_cases q : a.length ≤ b.length
  · exact q
  · have h1 : b.length < a.length := by omega
    have h2 : ¬ b.length = a.length := by omega
    simp [h1, h2] at h
/-- places in their order -/
structure Ord (ps : List (List Nat)) : Prop where
  t : TreeS ps
  le : ps.Pairwise (fun a b => WalkM.leR a b = true)
theorem ord_srt {ts : List (List Nat)} (t : TreeS ts) : Ord (srt ts) := ⟨⟨WalkM.srt_tree t.t, fun p hp => t.z p (WalkM.srt_mem.mp hp), by rw [WalkM.srt_length]; exact t.n0, by rw [WalkM.srt_length]; exact t.n1⟩, WalkM.srt_pairwise ts⟩
theorem srt_ord {ps : List (List Nat)} (o : Ord ps) : srt ps = ps := by
  refine List.Perm.eq_of_pairwise (le := fun a b => WalkM.leR a b = true) (fun a b ha hb h1 h2 => ?_) (WalkM.srt_pairwise ps) o.le (WalkM.srt_perm ps)
  have ra := (o.t.t.pr a (WalkM.srt_mem.mp ha)).1
  have rb := (o.t.t.pr b hb).1
  unfold WalkM.leR at h1 h2
  simp only [Bool.not_eq_true'] at h1 h2
  exact WalkM.before_eq ra rb h2 h1
theorem ord_before {ps : List (List Nat)} (o : Ord ps) {i j : Nat} {p q : List Nat} (hi : ps[i]? = some p) (hj : ps[j]? = some q) (h : i < j) : p.length ≤ q.length := by
  obtain ⟨h1, rfl⟩ := List.getElem?_eq_some_iff.mp hi
  obtain ⟨h2, rfl⟩ := List.getElem?_eq_some_iff.mp hj
  exact len_of_leR (List.pairwise_iff_getElem.mp o.le i j h1 h2 h)
theorem ord_new {ps : List (List Nat)} (o : Ord ps) {i : Nat} {p : List Nat} (hi : ps[i]? = some p) : p ∉ ps.take i := fun h => by
  obtain ⟨j, hj⟩ := List.mem_iff_getElem?.mp h
  have hji : j < i := by
    have := (List.getElem?_eq_some_iff.mp hj).1
    rw [List.length_take] at this
    omega
  rw [List.getElem?_take_of_lt hji] at hj
  obtain ⟨h1, e1⟩ := List.getElem?_eq_some_iff.mp hi
  obtain ⟨h2, e2⟩ := List.getElem?_eq_some_iff.mp hj
  exact (List.pairwise_iff_getElem.mp o.t.t.nd j i h2 h1 hji) (e2.trans e1.symm)
theorem ord_parent {ps : List (List Nat)} (o : Ord ps) {i : Nat} {p : List Nat} (hi : ps[i]? = some p) (ne : p ≠ []) : p.dropLast ∈ ps.take i := by
  have hp := o.t.t.cl p (List.mem_of_getElem? hi) ne
  obtain ⟨j, hj⟩ := List.mem_iff_getElem?.mp hp
  have hl : p.dropLast.length + 1 = p.length := by
    rw [List.length_dropLast]
    have := List.length_pos_iff.mpr ne
    omega
  have hji : j < i := by
    rcases Nat.lt_trichotomy j i with h | h | h
    · exact h
    · subst h
      rw [hj] at hi
      injection hi with hi
      rw [hi] at hl
      omega
    · have := ord_before o hi hj h
      omega
  exact List.mem_iff_getElem?.mpr ⟨j, by rw [List.getElem?_take_of_lt hji]; exact hj⟩
/-- nothing goes on from a place ahead of it -/
theorem ord_none {ps : List (List Nat)} (o : Ord ps) {i : Nat} {p : List Nat} (e : List Nat) (hi : ps[i]? = some p) : cnt (ps.take (i + 1)) e p = 0 := by
  unfold cnt
  rw [List.length_eq_zero_iff, List.filter_eq_nil_iff]
  intro q hq h
  unfold offE at h
  simp only [Bool.and_eq_true, decide_eq_true_eq] at h
  have hl : p.length + 1 = q.length := by
    rw [← h.1.2, List.length_dropLast]
    have := List.length_pos_iff.mpr h.1.1
    omega
  obtain ⟨j, hj⟩ := List.mem_iff_getElem?.mp hq
  have hji : j < i + 1 := by
    have := (List.getElem?_eq_some_iff.mp hj).1
    rw [List.length_take] at this
    omega
  rw [List.getElem?_take_of_lt hji] at hj
  by_cases z : j = i
  · subst z
    rw [hi] at hj
    injection hj with hj
    rw [hj] at hl
    omega
  · have := ord_before o hj hi (by omega)
    omega
/-- what is left: as many signs as steps off the way -/
def Left (ps : List (List Nat)) (e : List Nat) (g : List Nat → List Nat) : Prop := ∀ q ∈ ps, (g q).length = cnt ps e q ∧ Row (g q)
theorem take_one {ps : List (List Nat)} {i : Nat} {p : List Nat} (h : ps[i]? = some p) : ps.take (i + 1) = ps.take i ++ [p] := by rw [List.take_add_one, h]; rfl
theorem left_in {ps : List (List Nat)} (o : Ord ps) {e : List Nat} {g : List Nat → List Nat} {i : Nat} {p : List Nat} (hi : ps[i]? = some p) (L : Left (ps.take i) e g) (h : p = [] ∨ p.isPrefixOf e = true) : Left (ps.take (i + 1)) e (setF g p []) := by
  intro q hq
  by_cases z : q = p
  · subst z
    rw [setF_same, ord_none o e hi]
    exact ⟨rfl, RowM.nil_row⟩
  · rw [setF_ne z]
    rw [take_one hi] at hq ⊢
    have hq2 : q ∈ ps.take i := (List.mem_append.mp hq).resolve_right fun y => z (List.mem_singleton.mp y)
    have ho : offE e q p = false := by
      unfold offE
      rcases h with h | h
      · rw [h]; simp
      · rw [h]; simp
    rw [cnt_snoc, ho, if_neg (by decide)]
    exact L q hq2
theorem left_on {ps : List (List Nat)} (o : Ord ps) {e : List Nat} {g : List Nat → List Nat} {i : Nat} {m : List Nat} {c : Nat} (hi : ps[i]? = some (m ++ [c])) (L : Left (ps.take i) e g) (h : (m ++ [c]).isPrefixOf e = false) :
    Left (ps.take (i + 1)) e (setF (setF g (m ++ [c]) []) m (setF g (m ++ [c]) [] m ++ [c])) := by
  have nm : m ≠ m ++ [c] := fun z => by
    have := congrArg List.length z
    rw [List.length_append, List.length_singleton] at this
    omega
  have sc : c ∈ sgns := (o.t.t.pr _ (List.mem_of_getElem? hi)).1 c (by simp)
  intro q hq
  have pm : m ∈ ps.take i := by
    have := ord_parent o hi (by simp)
    rwa [List.dropLast_concat] at this
  have ho : offE e q (m ++ [c]) = decide (m = q) := by
    unfold offE
    rw [h, List.dropLast_concat]
    simp
  by_cases z : q = m
  · subst z
    rw [setF_same, setF_ne nm, take_one hi, cnt_snoc, ho, decide_eq_true rfl, if_pos rfl, List.length_append]
    exact ⟨by rw [(L q pm).1]; rfl, row_snoc (L q pm).2 sc⟩
  · rw [setF_ne z]
    by_cases y : q = m ++ [c]
    · rw [y, setF_same, ord_none o e hi]
      exact ⟨rfl, RowM.nil_row⟩
    · rw [setF_ne y]
      rw [take_one hi] at hq ⊢
      have hq2 : q ∈ ps.take i := (List.mem_append.mp hq).resolve_right fun x => y (List.mem_singleton.mp x)
      rw [cnt_snoc, ho, decide_eq_false (fun x => z x.symm), if_neg (by decide)]
      exact L q hq2
theorem left_set {ps : List (List Nat)} {e : List Nat} {g : List Nat → List Nat} {p y : List Nat} (L : Left ps e g) (hp : p ∈ ps) (h : y.Perm (g p)) : Left ps e (setF g p y) := by
  intro q hq
  by_cases z : q = p
  · subst z
    rw [setF_same, h.length_eq]
    exact ⟨(L q hq).1, fun c hc => (L q hq).2 c (h.mem_iff.mp hc)⟩
  · rw [setF_ne z]
    exact L q hq
/-- one sign each, sorted -/
theorem srt_signs (x : List Nat) : ∃ y : List Nat, srt (x.map fun c => [c]) = y.map (fun c => [c]) ∧ y.Perm x := by
  refine ⟨(srt (x.map fun c => [c])).map (fun p => p.headD 0), ?_, ?_⟩
  · rw [List.map_map]
    refine (List.map_id _).symm.trans (List.map_congr_left fun p hp => ?_)
    obtain ⟨c, _, rfl⟩ := List.mem_map.mp (WalkM.srt_mem.mp hp)
    rfl
  · have h := (WalkM.srt_perm (x.map fun c => [c])).map (fun p => p.headD 0)
    rw [List.map_map] at h
    have e : x.map ((fun p : List Nat => p.headD 0) ∘ fun c => [c]) = x := by
      conv => rhs; rw [← List.map_id x]
      rfl
    rwa [e] at h
/-! ### in how many ways -/
def fct : Nat → Nat
  | 0 => 1
  | n + 1 => fct n * (n + 1)
theorem fct_step (a j : Nat) : ((a * fct (j + 1) : Nat) : Int) = ((a * fct j : Nat) : Int) * (0 + (j : Int) + 1) := by
  have e : (0 + (j : Int) + 1) = ((j + 1 : Nat) : Int) := by omega
  rw [e, ← Int.natCast_mul, Nat.mul_assoc]
  rfl
def ways (f : List Nat → Nat) (qs : List (List Nat)) : Nat := qs.foldl (fun a p => a * fct (f p)) 1
theorem ways_snoc (f : List Nat → Nat) (qs : List (List Nat)) (p : List Nat) : ways f (qs ++ [p]) = ways f qs * fct (f p) := by simp [ways, List.foldl_append]
theorem ways_congr {f g : List Nat → Nat} {qs : List (List Nat)} (h : ∀ q ∈ qs, f q = g q) : ways f qs = ways g qs := by
  unfold ways
  generalize 1 = a
  induction qs generalizing a with
  | nil => rfl
  | cons q qs ih =>
    rw [List.foldl_cons, List.foldl_cons, h q List.mem_cons_self]
    exact ih (fun r hr => h r (List.mem_cons_of_mem _ hr)) _
/-- rounds in the heap -/
def rdfs (e : List Nat) (d : Addr) : List (Str × V) := [(Str.ofString "own_end", sT e), (Str.ofString "own_left", .ref d), (Str.ofString "own_here", sT [])]
def RdAt (C : Addr) (H : Hp) (a d : Addr) (ps : List (List Nat)) (e : List Nat) (g : List Nat → List Nat) : Prop := (∃ dx, H a = some (.ins C dx (rdfs e d))) ∧ H d = some (.dK (kvL ps g)) ∧ a ≠ d

/-! ### how many they can be -/
theorem fct_le : ∀ n : Nat, n ≤ 64 → fct n ≤ 64 ^ n
  | 0, _ => Nat.le_refl _
  | n + 1, h => by
    rw [fct, Nat.pow_succ]
    exact Nat.mul_le_mul (fct_le n (by omega)) h
theorem ways_le {f : List Nat → Nat} (h : ∀ q, f q ≤ 64) (qs : List (List Nat)) : ways f qs ≤ 64 ^ (qs.map f).sum := by
  unfold ways
  have g : ∀ (qs : List (List Nat)) (a : Nat), qs.foldl (fun a p => a * fct (f p)) a ≤ a * 64 ^ (qs.map f).sum := by
    intro qs
    induction qs with
    | nil => intro a; simp
    | cons q qs ih =>
      intro a
      rw [List.foldl_cons, List.map_cons, List.sum_cons, Nat.pow_add, ← Nat.mul_assoc]
      exact Nat.le_trans (ih _) (Nat.mul_le_mul (Nat.mul_le_mul (Nat.le_refl _) (fct_le _ (h q))) (Nat.le_refl _))
  have := g qs 1
  rwa [Nat.one_mul] at this
theorem off_zero {e q : List Nat} : ∀ {ps : List (List Nat)}, (∀ p ∈ ps, p ≠ q.dropLast) → (ps.map fun p => if offE e p q = true then 1 else 0).sum = 0
  | [], _ => rfl
  | p :: ps, h => by
    have hp : offE e p q = false := by
      unfold offE
      have := h p List.mem_cons_self
      simp [Ne.symm this]
    rw [List.map_cons, List.sum_cons, hp, off_zero fun r hr => h r (List.mem_cons_of_mem _ hr)]
    rfl
theorem off_one {e q : List Nat} : ∀ {ps : List (List Nat)}, ps.Nodup → (ps.map fun p => if offE e p q = true then 1 else 0).sum ≤ 1
  | [], _ => Nat.zero_le _
  | p :: ps, h => by
    obtain ⟨h1, h2⟩ := List.nodup_cons.mp h
    rw [List.map_cons, List.sum_cons]
    by_cases z : p = q.dropLast
    · rw [off_zero fun r hr e => h1 (by rw [z, ← e]; exact hr)]
      split <;> omega
    · have hp : offE e p q = false := by
        unfold offE
        simp [Ne.symm z]
      rw [hp]
      have := off_one (e := e) (q := q) h2
      simpa using this
theorem sum_add (f g : List Nat → Nat) : ∀ ps : List (List Nat), (ps.map fun p => f p + g p).sum = (ps.map f).sum + (ps.map g).sum
  | [] => rfl
  | p :: ps => by
    rw [List.map_cons, List.map_cons, List.map_cons, List.sum_cons, List.sum_cons, List.sum_cons, sum_add f g ps]
    omega
theorem cnt_sum {ps : List (List Nat)} (nd : ps.Nodup) (e : List Nat) (qs : List (List Nat)) : (ps.map (cnt qs e)).sum ≤ qs.length := by
  have g : ∀ n, (ps.map (cnt (qs.take n) e)).sum ≤ (qs.take n).length := by
    intro n
    induction n with
    | zero =>
      have : ∀ ps : List (List Nat), (ps.map (cnt (qs.take 0) e)).sum = 0 := by
        intro ps
        induction ps with
        | nil => rfl
        | cons p ps ih =>
          rw [List.map_cons, List.sum_cons, ih]
          rfl
      rw [this]
      exact Nat.zero_le _
    | succ n ih =>
      cases hq : qs[n]? with
      | none =>
        have : qs.take (n + 1) = qs.take n := by rw [List.take_add_one, hq]; simp
        rw [this]
        exact ih
      | some q =>
        rw [take_one hq]
        have ec : (cnt (qs.take n ++ [q]) e) = fun p => cnt (qs.take n) e p + if offE e p q = true then 1 else 0 := funext fun p => cnt_snoc _ e p q
        rw [ec, sum_add, List.length_append]
        exact Nat.add_le_add ih (off_one nd)
  have := g qs.length
  rwa [List.take_length] at this
theorem log_small {n k : Nat} (hk : 0 < k) (h : n < 2 ^ k) : n.log2 < k := by
  by_cases z : n = 0
  · subst z; exact hk
  · exact (Nat.log2_lt z).mpr h
theorem ways_log {ps : List (List Nat)} (o : Ord ps) (e : List Nat) : (ways (cnt ps e) ps).log2 < 1900 := by
  have h1 := ways_le (f := cnt ps e) (fun q => Nat.le_trans (cnt_le ps e q) (Nat.le_trans o.t.n1 (by decide))) ps
  have h2 := Nat.le_trans (cnt_sum o.t.t.nd e ps) o.t.n1
  have h3 : (64 : Nat) ^ (ps.map (cnt ps e)).sum ≤ 64 ^ 61 := Nat.pow_le_pow_right (by decide) h2
  have h4 : (64 : Nat) ^ 61 = 2 ^ 366 := by rw [show (64 : Nat) = 2 ^ 6 from rfl, ← Nat.pow_mul]
  have h5 : (2 : Nat) ^ 366 < 2 ^ 367 := Nat.pow_lt_pow_right (by decide) (by decide)
  have := log_small (n := ways (cnt ps e) ps) (k := 367) (by decide) (Nat.lt_of_le_of_lt (Nat.le_trans h1 h3) (h4 ▸ h5))
  omega
theorem small_log {i : Int} (h : i.natAbs < 1024) : i.natAbs.log2 < 1900 := by
  have := log_small (n := i.natAbs) (k := 10) (by decide) h
  omega
theorem two_ints {i j : Int} (hi : i.natAbs.log2 < 1900) (hj : j.natAbs.log2 < 1900) : (PyData.list [.int i, .int j]).showable = true ∧ (PyData.list [.int i, .int j]).hasDict = false ∧ (PyData.list [.int i, .int j]).shown.length ≤ sizeLine ∧ (PyData.list [.int i, .int j]).depth ≤ 60 := by
  refine ⟨?_, by simp [PyData.hasDict, PyData.hasDictAll], ?_, by simp [PyData.depth, PyData.depthAll]⟩
  · have h1 : i.natAbs.log2 < 1920 := by omega
    have h2 : j.natAbs.log2 < 1920 := by omega
    simp [PyData.showable, PyData.showableAll, h1, h2]
  · have l1 : (PyData.int i).shown.length ≤ 2000 := Nat.le_trans (PyProof.Rows.int_text_len_1921 (by omega)) (by decide)
    have l2 : (PyData.int j).shown.length ≤ 2000 := Nat.le_trans (PyProof.Rows.int_text_len_1921 (by omega)) (by decide)
    show (listText [(PyData.int i).shown, (PyData.int j).shown]).length ≤ sizeLine
    refine Nat.le_trans (listText_len_le _) ?_
    simp only [List.map_cons, List.map_nil, List.sum_cons, List.sum_nil, List.length_cons, List.length_nil]
    exact Nat.le_trans (by omega : _ ≤ 5000) (by decide)

/-! ### rows that are the same -/
def sameR (l m : List Nat) : Bool := decide (srt (gone l) = srt (gone m)) && decide (RowM.plain l = RowM.plain m)
theorem kit_self {K : PySem.W.Frag} {C : Addr} : PySem.W.kitOne K (.ref C) (.ref C) = some true := by simp [PySem.W.kitOne]
theorem mem_S {ps : List (List Nat)} {p : List Nat} : S p ∈ ps.map S ↔ p ∈ ps := by
  rw [List.mem_map]
  exact ⟨fun ⟨q, hq, e⟩ => by rw [← S_inj1 e]; exact hq, fun h => ⟨p, h, rfl⟩⟩
theorem mems_S {ps us : List (List Nat)} : (∀ k, k ∈ ps.map S ↔ k ∈ us.map S) ↔ ∀ p, p ∈ ps ↔ p ∈ us := by
  constructor
  · intro h p
    exact mem_S.symm.trans ((h (S p)).trans mem_S)
  · intro h k
    rw [List.mem_map, List.mem_map]
    exact ⟨fun ⟨q, hq, e⟩ => ⟨q, (h q).mp hq, e⟩, fun ⟨q, hq, e⟩ => ⟨q, (h q).mpr hq, e⟩⟩
theorem same_iff {l m : List Nat} (rl : Row l) (rm : Row m) : (RowM.plain l = RowM.plain m ∧ ∀ p, p ∈ srt (gone l) ↔ p ∈ srt (gone m)) ↔ sameR l m = true := by
  have tl := WalkM.tree_gone rl
  have tm := WalkM.tree_gone rm
  unfold sameR
  rw [Bool.and_eq_true, decide_eq_true_eq, decide_eq_true_eq]
  constructor
  · rintro ⟨h1, h2⟩
    refine ⟨WalkM.srt_uniq ((List.perm_ext_iff_of_nodup tl.nd tm.nd).mpr fun p => ?_) (fun p hp => (tl.pr p hp).1), h1⟩
    exact WalkM.srt_mem.symm.trans ((h2 p).trans WalkM.srt_mem)
  · rintro ⟨h1, h2⟩
    exact ⟨h2, fun p => by rw [h1]⟩
theorem sameR_comm (l m : List Nat) : sameR l m = sameR m l := by
  unfold sameR
  congr 1 <;> exact decide_eq_decide.mpr eq_comm
theorem sameR_self (l : List Nat) : sameR l l = true := by simp [sameR]
theorem cut_take (l : List Nat) (n : Nat) : cutS (S l) none (some (n : Int)) = S (l.take n) := by
  rw [cut_S, HT.sIx_none, HT.sIx_nat, List.drop_zero, Nat.sub_zero]
  congr 1
  by_cases h : n ≤ l.length
  · rw [Nat.min_eq_left h]
  · rw [Nat.min_eq_right (by omega), List.take_of_length_le (Nat.le_refl _), List.take_of_length_le (by omega)]
theorem cut_m1 (l : List Nat) : cutS (S l) none (some (-(1 : Int))) = S l.dropLast := by
  rcases List.eq_nil_or_concat l with rfl | ⟨m, c, rfl⟩
  · decide
  · rw [List.concat_eq_append, List.dropLast_concat]
    exact cut_last
theorem row_take {l : List Nat} (h : Row l) (n : Nat) : Row (l.take n) := fun c hc => h c (List.mem_of_mem_take hc)
theorem row_drop {l : List Nat} (h : Row l) (n : Nat) : Row (l.drop n) := fun c hc => h c (List.mem_of_mem_drop hc)
theorem at_in {L : List V} {z : Int} (h0 : 0 ≤ z) (h1 : z < (L.length : Int)) : ∃ y, atI L z = some y ∧ y ∈ L := by
  obtain ⟨n, rfl⟩ : ∃ n : Nat, z = (n : Int) := ⟨z.toNat, by omega⟩
  have hn : n < L.length := by omega
  exact ⟨L[n], atI_nat (List.getElem?_eq_getElem hn), List.getElem_mem _⟩
/-! ### what is no whole number, of anything -/
def NInt (H : Hp) (x : V) : Prop := x = .non ∨ (∃ b, x = .bl b) ∨ (∃ s, x = .str s) ∨ ∃ a, x = .ref a ∧ ((∃ xs, H a = some (.lst xs)) ∨ (∃ xs, H a = some (.tup xs)) ∨ ∃ kvs, H a = some (.dK kvs))
theorem NInt.same {H H' : Hp} {x : V} (h : NInt H x) (s : Same H H') : NInt H' x := by
  rcases h with h | h | h | ⟨a, e, ⟨xs, h⟩ | ⟨xs, h⟩ | ⟨xs, h⟩⟩
  · exact .inl h
  · exact .inr (.inl h)
  · exact .inr (.inr (.inl h))
  · exact .inr (.inr (.inr ⟨a, e, .inl ⟨xs, s _ _ h⟩⟩))
  · exact .inr (.inr (.inr ⟨a, e, .inr (.inl ⟨xs, s _ _ h⟩)⟩))
  · exact .inr (.inr (.inr ⟨a, e, .inr (.inr ⟨xs, s _ _ h⟩)⟩))
theorem NInt.ty {K : PySem.W.Frag} {H : Hp} {x : V} (h : NInt H x) : ∃ t : String, TyX K H x (.type t) ∧ ((kitB t "int" = some false) ∨ (kitB t "int" = some true ∧ kitB t "bool" = some true)) := by
  rcases h with rfl | ⟨b, rfl⟩ | ⟨s, rfl⟩ | ⟨a, rfl, ⟨xs, h⟩ | ⟨xs, h⟩ | ⟨xs, h⟩⟩
  · exact ⟨_, .base .non, .inl (by decide +kernel)⟩
  · exact ⟨_, .base (.bl _), .inr ⟨by decide +kernel, by decide +kernel⟩⟩
  · exact ⟨_, .base (.str _), .inl (by decide +kernel)⟩
  · exact ⟨_, .base (.lst h), .inl (by decide +kernel)⟩
  · exact ⟨_, .base (.tup h), .inl (by decide +kernel)⟩
  · exact ⟨_, .base (.dK h), .inl (by decide +kernel)⟩
def IntW (H : Hp) (x : V) (r : Bool) : Prop := (∃ i : Int, x = .int i ∧ r = true) ∨ (NInt H x ∧ r = false)
/-- a thing of a world of n, or none -/
def ThW (H : Hp) (n : Nat) (x : V) (r : Bool) : Prop := (∃ i : Int, x = .int i ∧ r = decide (0 ≤ i ∧ i < n)) ∨ (NInt H x ∧ r = false)
theorem ThW.same {H H' : Hp} {n : Nat} {x : V} {r : Bool} (h : ThW H n x r) (s : Same H H') : ThW H' n x r := h.imp id fun h => ⟨h.1.same s, h.2⟩
/-- an exception with one field, made -/
theorem madeF {H : Hp} {a C : Addr} {f : Str} {v : V} {E : XK} (ha : H a = none) (k : ∀ (d : Addr) (H' : Hp), Same H H' → H' d = some (.xd [(f, v)]) → E (.ref C) (some d) H') (d : Addr) (hd : (upd H a (exo a C none)) d = none) (ne : d ≠ a) :
    V.non = .non ∧ ∃ (d' : Addr) (fs : List (Str × V)), (upd (upd (upd (upd H a (exo a C none)) d (exd d [])) a (exo a C (some d))) d (exd d [(f, v)])) a = some (exo a C (some d')) ∧ (upd (upd (upd (upd H a (exo a C none)) d (exd d [])) a (exo a C (some d))) d (exd d [(f, v)])) d' = some (exd d' fs) ∧
      H d' = none ∧ E (.ref C) (some d') (upd (del (upd (upd (upd (upd H a (exo a C none)) d (exd d [])) a (exo a C (some d))) d (exd d [(f, v)])) a) d' (.xd fs)) := by
  have h0 : H d = none := by rw [upd_ne ne] at hd; exact hd
  refine ⟨rfl, d, [(f, v)], by rw [upd_ne ne.symm, upd_same], upd_same, h0, ?_⟩
  rw [fresh_xd ha ne]
  exact k d _ (Same.new h0) upd_same
/-! ### rows put together -/
theorem plain_app_r {n x : List Nat} (rn : Row n) (rx : Row x) : RowM.plain (n ++ RowM.plain x) = RowM.plain (n ++ x) := by
  unfold RowM.plain
  rw [RowM.act_append, RowM.act_append]
  have := RowM.act_plain (w := x) (st := RowM.act n []) rx (RowM.act_red _ _ trivial) (RowM.act_row _ _ rn RowM.nil_row)
  unfold RowM.plain at this
  rw [this]
theorem plain_app_l {n x : List Nat} (rn : Row n) : RowM.plain (RowM.plain n ++ x) = RowM.plain (n ++ x) := by
  have h := RowM.act_plain (w := n) (st := []) rn trivial RowM.nil_row
  show (RowM.act (RowM.plain n ++ x) []).reverse = (RowM.act (n ++ x) []).reverse
  rw [RowM.act_append, RowM.act_append, h]
theorem gone_app {n l : List Nat} (rn : Row n) (rl : Row l) (p : List Nat) : p ∈ gone (n ++ l) ↔ p ∈ gone n ∨ ∃ q ∈ gone l, p = RowM.plain (n ++ q) := by
  refine WalkM.snoc_ind (P := fun l => Row l → (p ∈ gone (n ++ l) ↔ p ∈ gone n ∨ ∃ q ∈ gone l, p = RowM.plain (n ++ q))) (fun _ => ?_) (fun l c ih rl => ?_) l rl
  · rw [List.append_nil, WalkM.gone_nil]
    refine ⟨.inl, fun h => h.elim id ?_⟩
    rintro ⟨q, hq, rfl⟩
    rw [List.mem_singleton.mp hq, List.append_nil]
    exact WalkM.end_gone n
  have hl : Row l := fun d hd => rl d (List.mem_append_left _ hd)
  rw [← List.append_assoc, WalkM.gone_snoc, WalkM.mem_addK, ih hl, ← WalkM.plain_snoc, WalkM.gone_snoc, ← WalkM.plain_snoc, List.append_assoc]
  constructor
  · rintro ((h | ⟨q, hq, e⟩) | h)
    · exact .inl h
    · exact .inr ⟨q, WalkM.mem_addK.mpr (.inl hq), e⟩
    · exact .inr ⟨_, WalkM.mem_addK.mpr (.inr rfl), by rw [plain_app_r rn rl]; exact h⟩
  · rintro (h | ⟨q, hq, e⟩)
    · exact .inl (.inl h)
    · rcases WalkM.mem_addK.mp hq with h | h
      · exact .inl (.inr ⟨q, h, e⟩)
      · rw [h, plain_app_r rn rl] at e
        exact .inr e
theorem sameR_iff {l m : List Nat} (rl : Row l) (rm : Row m) : sameR l m = true ↔ RowM.plain l = RowM.plain m ∧ ∀ p, p ∈ gone l ↔ p ∈ gone m := by
  rw [← same_iff rl rm]
  simp only [WalkM.srt_mem]
theorem sameR_trans {l m n : List Nat} (rl : Row l) (rm : Row m) (rn : Row n) (h1 : sameR l m = true) (h2 : sameR m n = true) : sameR l n = true := by
  obtain ⟨a, b⟩ := (sameR_iff rl rm).mp h1
  obtain ⟨c, d⟩ := (sameR_iff rm rn).mp h2
  exact (sameR_iff rl rn).mpr ⟨a.trans c, fun p => (b p).trans (d p)⟩
theorem sameR_ahead {n l m : List Nat} (rn : Row n) (rl : Row l) (rm : Row m) (h : sameR l m = true) : sameR (n ++ l) (n ++ m) = true := by
  obtain ⟨a, b⟩ := (sameR_iff rl rm).mp h
  refine (sameR_iff (row_app rn rl) (row_app rn rm)).mpr ⟨by rw [← plain_app_r rn rl, a, plain_app_r rn rm], fun p => ?_⟩
  rw [gone_app rn rl, gone_app rn rm]
  refine or_congr Iff.rfl ⟨?_, ?_⟩
  · rintro ⟨q, hq, e⟩; exact ⟨q, (b q).mp hq, e⟩
  · rintro ⟨q, hq, e⟩; exact ⟨q, (b q).mpr hq, e⟩
theorem sameR_behind {n l m : List Nat} (rn : Row n) (rl : Row l) (rm : Row m) (h : sameR l m = true) : sameR (l ++ n) (m ++ n) = true := by
  obtain ⟨a, b⟩ := (sameR_iff rl rm).mp h
  have e : ∀ x, RowM.plain (l ++ x) = RowM.plain (m ++ x) := fun x => by rw [← plain_app_l rl, a, plain_app_l rm]
  refine (sameR_iff (row_app rl rn) (row_app rm rn)).mpr ⟨e n, fun p => ?_⟩
  rw [gone_app rl rn, gone_app rm rn, b p]
  simp only [e]
/-! ### things of no own class -/
/-- what is no world -/
def NWld (H : Hp) (x : V) : Prop := x = .non ∨ (∃ i, x = .int i) ∨ (∃ b, x = .bl b) ∨ (∃ s, x = .str s) ∨ ∃ a, x = .ref a ∧ ((∃ xs, H a = some (.lst xs)) ∨ ∃ xs, H a = some (.tup xs))
theorem NWld.same {H H' : Hp} {x : V} (h : NWld H x) (s : Same H H') : NWld H' x := by
  rcases h with h | h | h | h | ⟨a, e, ⟨xs, h⟩ | ⟨xs, h⟩⟩
  · exact .inl h
  · exact .inr (.inl h)
  · exact .inr (.inr (.inl h))
  · exact .inr (.inr (.inr (.inl h)))
  · exact .inr (.inr (.inr (.inr ⟨a, e, .inl ⟨xs, s _ _ h⟩⟩)))
  · exact .inr (.inr (.inr (.inr ⟨a, e, .inr ⟨xs, s _ _ h⟩⟩)))
theorem NWld.ty {K : PySem.W.Frag} {H : Hp} {x : V} (h : NWld H x) : ∃ t : String, TyX K H x (.type t) ∧ (t = "NoneType" ∨ t = "int" ∨ t = "bool" ∨ t = "str" ∨ t = "list" ∨ t = "tuple") := by
  rcases h with rfl | ⟨i, rfl⟩ | ⟨b, rfl⟩ | ⟨s, rfl⟩ | ⟨a, rfl, ⟨xs, h⟩ | ⟨xs, h⟩⟩
  · exact ⟨_, .base .non, by simp⟩
  · exact ⟨_, .base (.int _), by simp⟩
  · exact ⟨_, .base (.bl _), by simp⟩
  · exact ⟨_, .base (.str _), by simp⟩
  · exact ⟨_, .base (.lst h), by simp⟩
  · exact ⟨_, .base (.tup h), by simp⟩
theorem kit_tC {K : PySem.W.Frag} {C : Addr} {t : String} {l : List Value} (h : PySem.fastBuiltinMro t = some l) (hl : l.contains (Value.ref C) = false) (iD : PySem.W.isClsIn K C = true) (tD : PySem.W.typeIn K (.ref C) = some (.type "type")) : PySem.W.kitOne K (.type t) (.ref C) = some false := by
  have q : (PySem.W.clsIn K C).isSome = true := iD
  have n : (Value.type t == Value.ref C) = false := by
    apply beq_eq_false_iff_ne.mpr
    intro z
    cases z
  show (if (Value.type t == Value.ref C) = true then some true else if ((PySem.W.clsIn K C).isSome && PySem.W.typeIn K (.ref C) == some (.type "type")) = true then (PySem.fastBuiltinMro t).map (·.contains (Value.ref C)) else none) = some false
  rw [n, if_neg (by decide), if_pos (by rw [q, tD]; rfl), h]
  show some (l.contains (Value.ref C)) = some false
  rw [hl]
theorem kit_tCs {K : PySem.W.Frag} {C : Addr} {t : String} (ht : t = "NoneType" ∨ t = "int" ∨ t = "bool" ∨ t = "str" ∨ t = "list" ∨ t = "tuple") (iD : PySem.W.isClsIn K C = true) (tD : PySem.W.typeIn K (.ref C) = some (.type "type")) : PySem.W.kitOne K (.type t) (.ref C) = some false := by
  rcases ht with rfl | rfl | rfl | rfl | rfl | rfl
  · exact kit_tC (l := [.type "NoneType", .type "object"]) (by kernel_rfl) rfl iD tD
  · exact kit_tC (l := [.type "int", .type "object"]) (by kernel_rfl) rfl iD tD
  · exact kit_tC (l := [.type "bool", .type "int", .type "object"]) (by kernel_rfl) rfl iD tD
  · exact kit_tC (l := [.type "str", .type "object"]) (by kernel_rfl) rfl iD tD
  · exact kit_tC (l := [.type "list", .type "object"]) (by kernel_rfl) rfl iD tD
  · exact kit_tC (l := [.type "tuple", .type "object"]) (by kernel_rfl) rfl iD tD
/-! ### products and contraries of walks -/
theorem mem_gone {l p : List Nat} : p ∈ gone l ↔ ∃ u v, l = u ++ v ∧ p = RowM.plain u := by
  refine WalkM.snoc_ind (P := fun l => p ∈ gone l ↔ ∃ u v, l = u ++ v ∧ p = RowM.plain u) ?_ (fun l c ih => ?_) l
  · rw [WalkM.gone_nil, List.mem_singleton]
    constructor
    · rintro rfl
      exact ⟨[], [], rfl, rfl⟩
    · rintro ⟨u, v, e, rfl⟩
      obtain ⟨rfl, rfl⟩ := List.append_eq_nil_iff.mp e.symm
      rfl
  · rw [WalkM.gone_snoc, WalkM.mem_addK, ih, ← WalkM.plain_snoc]
    constructor
    · rintro (⟨u, v, rfl, e⟩ | e)
      · exact ⟨u, v ++ [c], by simp, e⟩
      · exact ⟨l ++ [c], [], by simp, e⟩
    · rintro ⟨u, v, e, rfl⟩
      rcases List.eq_nil_or_concat v with rfl | ⟨w, x, rfl⟩
      · rw [List.append_nil] at e
        exact .inr (by rw [e])
      · rw [List.concat_eq_append, ← List.append_assoc] at e
        obtain ⟨e1, _⟩ := List.append_inj' e rfl
        exact .inl ⟨u, w, e1, rfl⟩
theorem plain_shift {b p : List Nat} (rb : Row b) (rp : Row p) : RowM.plain (RowM.turn b ++ RowM.plain (b ++ p)) = RowM.plain p := by
  rw [plain_app_r (RowM.turn_row rb) (row_app rb rp), ← List.append_assoc]
  have h : RowM.plain (RowM.turn b ++ b) = [] := by
    have := RowM.plain_there_back (RowM.turn_row rb)
    rwa [RowM.turn_turn rb] at this
  rw [← plain_app_l (row_app (RowM.turn_row rb) rb), h]
  rfl
theorem turn_gone {l : List Nat} (rl : Row l) (p : List Nat) : p ∈ gone (RowM.turn l) ↔ ∃ q ∈ gone l, p = RowM.plain (RowM.turn (RowM.plain l) ++ q) := by
  have key : ∀ u v, l = u ++ v → RowM.plain (RowM.turn v) = RowM.plain (RowM.turn (RowM.plain l) ++ RowM.plain u) := fun u v e => by
    subst e
    have ru : Row u := fun c hc => rl c (List.mem_append_left _ hc)
    have rv : Row v := fun c hc => rl c (List.mem_append_right _ hc)
    rw [← RowM.plain_turn rl, plain_app_l (RowM.turn_row rl), plain_app_r (RowM.turn_row rl) ru, RowM.turn_append, List.append_assoc]
    have h : RowM.plain (RowM.turn u ++ u) = [] := by
      have := RowM.plain_there_back (RowM.turn_row ru)
      rwa [RowM.turn_turn ru] at this
    rw [← plain_app_r (RowM.turn_row rv) (row_app (RowM.turn_row ru) ru), h, List.append_nil]
  rw [mem_gone]
  constructor
  · rintro ⟨a, b, e, rfl⟩
    have e2 : l = RowM.turn b ++ RowM.turn a := by rw [← RowM.turn_append, ← e, RowM.turn_turn rl]
    refine ⟨RowM.plain (RowM.turn b), mem_gone.mpr ⟨_, _, e2, rfl⟩, ?_⟩
    have ra : Row a := fun c hc => RowM.turn_row rl c (by rw [e]; exact List.mem_append_left _ hc)
    rw [← key _ _ e2, RowM.turn_turn ra]
  · rintro ⟨q, hq, rfl⟩
    obtain ⟨u, v, e, rfl⟩ := mem_gone.mp hq
    exact ⟨RowM.turn v, RowM.turn u, by rw [e, RowM.turn_append], (key u v e).symm⟩
theorem perm_of {ts us : List (List Nat)} (n1 : ts.Nodup) (n2 : us.Nodup) (h : ∀ p, p ∈ ts ↔ p ∈ us) : ts.Perm us := (List.perm_ext_iff_of_nodup n1 n2).mpr h
theorem treeS_perm {ts us : List (List Nat)} (t : TreeS ts) (h : ts.Perm us) : TreeS us := ⟨⟨h.nodup_iff.mp t.t.nd, fun p hp => t.t.pr p (h.mem_iff.mpr hp), fun p hp ne => h.mem_iff.mp (t.t.cl p (h.mem_iff.mpr hp) ne)⟩, fun p hp => t.z p (h.mem_iff.mpr hp), h.length_eq ▸ t.n0, h.length_eq ▸ t.n1⟩
/-- the places of the contrary -/
def backL (l : List Nat) : List (List Nat) := (srt (gone l)).map fun p => RowM.plain (RowM.turn (RowM.plain l) ++ p)
theorem backL_perm {l : List Nat} (rl : Row l) : (gone (RowM.turn l)).Perm (backL l) := by
  have tl := WalkM.srt_tree (WalkM.tree_gone rl)
  refine perm_of (WalkM.tree_gone (RowM.turn_row rl)).nd ?_ fun p => ?_
  · unfold backL
    refine List.pairwise_map.mpr ?_
    refine List.Pairwise.imp_of_mem ?_ tl.nd
    intro p q hp hq ne e
    refine ne ?_
    have rb := RowM.turn_row (RowM.plain_row rl)
    have h1 := plain_shift rb (tl.pr p hp).1
    have h2 := plain_shift rb (tl.pr q hq).1
    rw [e] at h1
    rw [h1] at h2
    rw [WalkM.plain_prow (tl.pr p hp), WalkM.plain_prow (tl.pr q hq)] at h2
    exact h2
  · rw [turn_gone rl]
    unfold backL
    rw [List.mem_map]
    exact ⟨fun ⟨q, hq, e⟩ => ⟨q, WalkM.srt_mem.mpr hq, e.symm⟩, fun ⟨q, hq, e⟩ => ⟨q, WalkM.srt_mem.mp hq, e.symm⟩⟩
/-- the places of a product, as they come -/
def prodL (l m : List Nat) (k : Nat) : List (List Nat) := ((srt (gone m)).take k).foldl (fun ks p => addK ks (RowM.plain (RowM.plain l ++ p))) (srt (gone l))
theorem prodL_step {l m p : List Nat} {k : Nat} (h : (srt (gone m))[k]? = some p) : prodL l m (k + 1) = addK (prodL l m k) (RowM.plain (RowM.plain l ++ p)) := by
  unfold prodL
  rw [List.take_add_one, h, List.foldl_append]
  rfl
theorem prodL_nd {l m : List Nat} (rl : Row l) : ∀ k, (prodL l m k).Nodup := by
  intro k
  unfold prodL
  generalize (srt (gone m)).take k = xs
  have : ∀ (xs ks : List (List Nat)), ks.Nodup → (xs.foldl (fun ks p => addK ks (RowM.plain (RowM.plain l ++ p))) ks).Nodup := by
    intro xs
    induction xs with
    | nil => intro ks h; exact h
    | cons x xs ih => intro ks h; exact ih _ (WalkM.addK_nodup h)
  exact this _ _ (WalkM.srt_nodup (WalkM.tree_gone rl).nd)
theorem prodL_mem {l m : List Nat} (p : List Nat) : ∀ k, p ∈ prodL l m k ↔ p ∈ gone l ∨ ∃ q ∈ (srt (gone m)).take k, p = RowM.plain (RowM.plain l ++ q) := by
  intro k
  unfold prodL
  generalize (srt (gone m)).take k = xs
  have : ∀ (xs ks : List (List Nat)), p ∈ (xs.foldl (fun ks p => addK ks (RowM.plain (RowM.plain l ++ p))) ks) ↔ p ∈ ks ∨ ∃ q ∈ xs, p = RowM.plain (RowM.plain l ++ q) := by
    intro xs
    induction xs with
    | nil => intro ks; simp
    | cons x xs ih =>
      intro ks
      rw [List.foldl_cons, ih, WalkM.mem_addK]
      simp only [List.mem_cons]
      constructor
      · rintro ((h | h) | ⟨q, hq, e⟩)
        · exact .inl h
        · exact .inr ⟨x, .inl rfl, h⟩
        · exact .inr ⟨q, .inr hq, e⟩
      · rintro (h | ⟨q, rfl | hq, e⟩)
        · exact .inl (.inl h)
        · exact .inl (.inr e)
        · exact .inr ⟨q, hq, e⟩
  rw [this, WalkM.srt_mem]
theorem prodL_perm {l m : List Nat} (rl : Row l) (rm : Row m) : (gone (l ++ m)).Perm (prodL l m (srt (gone m)).length) := by
  refine perm_of (WalkM.tree_gone (row_app rl rm)).nd (prodL_nd rl _) fun p => ?_
  rw [gone_app rl rm, prodL_mem, List.take_length]
  refine or_congr Iff.rfl ⟨?_, ?_⟩
  · rintro ⟨q, hq, e⟩; exact ⟨q, WalkM.srt_mem.mpr hq, by rw [plain_app_l rl]; exact e⟩
  · rintro ⟨q, hq, e⟩; exact ⟨q, WalkM.srt_mem.mp hq, by rw [← plain_app_l rl]; exact e⟩
theorem prodL_len (l m : List Nat) (k : Nat) : (prodL l m k).length ≤ (gone l).length + k := by
  unfold prodL
  have : ∀ (xs ks : List (List Nat)), (xs.foldl (fun ks p => addK ks (RowM.plain (RowM.plain l ++ p))) ks).length ≤ ks.length + xs.length := by
    intro xs
    induction xs with
    | nil => intro ks; exact Nat.le_refl _
    | cons x xs ih =>
      intro ks
      have h1 := ih (addK ks (RowM.plain (RowM.plain l ++ x)))
      have h2 := WalkM.addK_length ks (RowM.plain (RowM.plain l ++ x))
      rw [List.foldl_cons, List.length_cons]
      omega
  have h := this ((srt (gone m)).take k) (srt (gone l))
  rw [WalkM.srt_length] at h
  have := List.length_take_le k (srt (gone m))
  omega
/-- a tree is as deep as it has places -/
theorem deep : ∀ (n : Nat) (ts : List (List Nat)), (∀ k, k ≤ n → ∃ p ∈ ts, p.length = k) → n + 1 ≤ ts.length
  | 0, ts, h => by
    obtain ⟨p, hp, _⟩ := h 0 (Nat.le_refl _)
    have := List.length_pos_of_mem hp
    omega
  | n + 1, ts, h => by
    have ih := deep n (ts.filter fun p => decide (p.length ≤ n)) fun k hk => by
      obtain ⟨p, hp, e⟩ := h k (by omega)
      exact ⟨p, List.mem_filter.mpr ⟨hp, decide_eq_true (by omega)⟩, e⟩
    obtain ⟨p, hp, e⟩ := h (n + 1) (Nat.le_refl _)
    have : (ts.filter fun p => decide (p.length ≤ n)).length < ts.length := by
      refine List.length_filter_lt_length_iff_exists.mpr ⟨p, hp, ?_⟩
      simp [e]
    omega
theorem tree_deep {ts : List (List Nat)} (t : Tree ts) {p : List Nat} (hp : p ∈ ts) : p.length + 1 ≤ ts.length := by
  refine deep p.length ts ?_
  have : ∀ (n : Nat) (p : List Nat), p ∈ ts → p.length = n → ∀ k, k ≤ n → ∃ q ∈ ts, q.length = k := by
    intro n
    induction n with
    | zero => intro p hp e k hk; exact ⟨p, hp, by omega⟩
    | succ n ih =>
      intro p hp e k hk
      by_cases q : k = n + 1
      · exact ⟨p, hp, by omega⟩
      · have ne : p ≠ [] := fun z => by rw [z] at e; simp at e
        exact ih p.dropLast (t.cl p hp ne) (by rw [List.length_dropLast]; omega) k (by omega)
  exact this _ p hp rfl
theorem treeS_of {l : List Nat} (rl : Row l) (h : (gone l).length ≤ 61) : TreeS (gone l) :=
  ⟨WalkM.tree_gone rl, fun p hp => by have := tree_deep (WalkM.tree_gone rl) hp; omega, WalkM.gone_pos l, h⟩
theorem rows_gone {l : List Nat} (rl : Row l) : ∀ p ∈ gone l, Row p := fun p hp => ((WalkM.tree_gone rl).pr p hp).1
/-- a walk's text -/
def nm (p : List Nat) : List Nat := if p = [] then [45] else p
def wtxt (ps : List (List Nat)) (e : List Nat) : List Nat := (joinL [32] (ps.map nm) ++ [32, 58, 32]) ++ nm e
theorem joinL_len (a : List Nat) : ∀ ps : List (List Nat), (joinL a ps).length ≤ (ps.map fun p => p.length + a.length).sum
  | [] => by simp [joinL]
  | [p] => by simp [joinL]
  | p :: q :: r => by
    have := joinL_len a (q :: r)
    rw [joinL]
    simp only [List.length_append, List.map_cons, List.sum_cons] at this ⊢
    omega
theorem nm_len {p : List Nat} (h : p.length ≤ 60) : (nm p).length ≤ 60 := by
  unfold nm
  split
  · simp
  · exact h
theorem sum_le {xs : List Nat} {b : Nat} (h : ∀ x ∈ xs, x ≤ b) : xs.sum ≤ xs.length * b := by
  induction xs with
  | nil => simp
  | cons x xs ih =>
    have h1 := ih fun y hy => h y (List.mem_cons_of_mem _ hy)
    have h2 := h x List.mem_cons_self
    rw [List.sum_cons, List.length_cons, Nat.succ_mul]
    omega
/-- what a walk may be held against -/
def EqW (C : Addr) (H : Hp) (ps : List (List Nat)) (e : List Nat) (y : V) (z : Bool) : Prop := (∃ (b r : Addr) (us : List (List Nat)) (f : List Nat), y = .ref b ∧ WkAt C H b r us f ∧ us.length ≤ 61 ∧ (z = true ↔ e = f ∧ ∀ p, p ∈ ps ↔ p ∈ us)) ∨ (NWld H y ∧ z = false)
/-- what is due of a product -/
def DueAt (H : Hp) (D : Addr) (l m : List Nat) : Prop := ((gone (l ++ m)).length ≤ 61 ∧ ∃ s, H D = some (.lst [.ref s, sT (RowM.plain (l ++ m))]) ∧ H s = some (.lst ((srt (gone (l ++ m))).map sT))) ∨ (¬ (gone (l ++ m)).length ≤ 61 ∧ H D = some (.lst [.int ((gone (l ++ m)).length : Nat)]))
theorem DueAt.same {H H' : Hp} {D : Addr} {l m : List Nat} (h : DueAt H D l m) (s : Same H H') : DueAt H' D l m := by
  rcases h with ⟨h, t, e1, e2⟩ | ⟨h, e⟩
  · exact .inl ⟨h, t, s _ _ e1, s _ _ e2⟩
  · exact .inr ⟨h, s _ _ e⟩
def dueD (l m : List Nat) : PyData := if (gone (l ++ m)).length ≤ 61 then .list [.list (sD (srt (gone (l ++ m)))), .str (S (RowM.plain (l ++ m)))] else .list [.int ((gone (l ++ m)).length : Nat)]
theorem DueAt.dp {K : PySem.W.Frag} {H : Hp} {D : Addr} {l m : List Nat} (h : DueAt H D l m) : Dp K H (.ref D) (dueD l m) := by
  unfold dueD
  rcases h with ⟨h, t, e1, e2⟩ | ⟨h, e⟩
  · rw [if_pos h]
    exact .lst (SqL.of e1) (.cons (dp_T e2) (.cons (.str _) .nil))
  · rw [if_neg h]
    exact .lst (SqL.of e) (.cons (.int _) .nil)
theorem canLay_sD {ts : List (List Nat)} (h : ∀ p ∈ ts, Row p) : PyData.canLayAll0 (sD ts) = true := by
  induction ts with
  | nil => rfl
  | cons t ts ih =>
    have e : sD (t :: ts) = .str (S t) :: sD ts := rfl
    rw [e, PyData.canLayAll0, ih fun p hp => h p (List.mem_cons_of_mem _ hp), PyData.canLay0, strOk_row (h t List.mem_cons_self)]
    rfl
theorem depth_sD (ts : List (List Nat)) : PyData.depthAll (sD ts) = 0 := by
  induction ts with
  | nil => rfl
  | cons t ts ih =>
    have e : sD (t :: ts) = .str (S t) :: sD ts := rfl
    rw [e, PyData.depthAll, ih, PyData.depth]
    rfl
theorem shaped_dueD {l m : List Nat} (rl : Row l) (rm : Row m) : SeqAt.shaped (dueD l m) = true := by
  have r := row_app rl rm
  unfold dueD
  split
  · have h1 : PyData.canLayAll0 (sD (srt (gone (l ++ m)))) = true := canLay_sD fun p hp => rows_gone r p (WalkM.srt_mem.mp hp)
    have h2 := depth_sD (srt (gone (l ++ m)))
    have h3 := strOk_row (RowM.plain_row r)
    simp [SeqAt.shaped, PyData.canLay0, PyData.canLayAll0, PyData.depth, PyData.depthAll, h1, h2, h3]
  · simp [SeqAt.shaped, PyData.canLay0, PyData.canLayAll0, PyData.depth, PyData.depthAll]
theorem eqv_dueD (l m : List Nat) : PyData.eqv (dueD l m) (dueD l m) = true := by
  unfold dueD
  split
  · simp [PyData.eqv, PyData.eqvAll, eqv_sD]
  · simp [PyData.eqv, PyData.eqvAll]
theorem mul_a : Txt.mul (Str.ofString "a") 30 = S (List.replicate 30 97) := by decide +kernel
theorem mul_b : ∀ v : Int, 0 ≤ v → v < 4 → MulOk (Str.ofString "b") (29 + v) ∧ ∃ k, k ≤ 32 ∧ Txt.mul (Str.ofString "b") (29 + v) = S (List.replicate k 98) := by
  intro v h0 h1
  have : v = 0 ∨ v = 1 ∨ v = 2 ∨ v = 3 := by omega
  rcases this with rfl | rfl | rfl | rfl
  · exact ⟨⟨by decide, fun _ _ => by decide +kernel, fun _ _ => by decide +kernel⟩, 29, by decide, by decide +kernel⟩
  · exact ⟨⟨by decide, fun _ _ => by decide +kernel, fun _ _ => by decide +kernel⟩, 30, by decide, by decide +kernel⟩
  · exact ⟨⟨by decide, fun _ _ => by decide +kernel, fun _ _ => by decide +kernel⟩, 31, by decide, by decide +kernel⟩
  · exact ⟨⟨by decide, fun _ _ => by decide +kernel, fun _ _ => by decide +kernel⟩, 32, by decide, by decide +kernel⟩
theorem row_rep (c k : Nat) (h : c ∈ sgns) : Row (List.replicate k c) := fun d hd => by rw [(List.mem_replicate.mp hd).2]; exact h
theorem ok_w : ∀ l : List Nat, (∀ c ∈ l, c ∈ [32, 45, 58] ++ sgns) → PyData.strOk (S l) = true := by
  intro l h
  have q : ∀ c ∈ l, c < 1114112 := fun c hc => by
    have : ∀ c ∈ [32, 45, 58] ++ sgns, c < 1114112 := by decide
    exact this c (h c hc)
  unfold PyData.strOk
  simp only [List.all_eq_true, Array.all_eq_true, decide_eq_true_eq]
  first
    | exact q
    | (intro i hi; exact q _ (by simpa using List.getElem_mem (l := l) (by simpa using hi)))
theorem joinL_mem {c : Nat} {a : List Nat} : ∀ {ps : List (List Nat)}, c ∈ joinL a ps → c ∈ a ∨ ∃ p ∈ ps, c ∈ p
  | [], h => by simp [joinL] at h
  | [p], h => by simp [joinL] at h; exact .inr ⟨p, by simp, h⟩
  | p :: q :: r, h => by
    rw [joinL] at h
    simp only [List.mem_append] at h
    rcases h with h | h | h
    · exact .inr ⟨p, by simp, h⟩
    · exact .inl h
    · rcases joinL_mem h with h | ⟨x, hx, h⟩
      · exact .inl h
      · exact .inr ⟨x, List.mem_cons_of_mem _ hx, h⟩
theorem nm_mem {c : Nat} {p : List Nat} (h : c ∈ nm p) : c = 45 ∨ c ∈ p := by
  unfold nm at h
  split at h
  · exact .inl (List.mem_singleton.mp h)
  · exact .inr h
theorem wtxt_ok {ps : List (List Nat)} {e : List Nat} (h : ∀ p ∈ ps, Row p) (he : Row e) : ∀ c ∈ wtxt ps e, c ∈ [32, 45, 58] ++ sgns := by
  intro c hc
  unfold wtxt at hc
  simp only [List.mem_append] at hc ⊢
  rcases hc with (hc | hc) | hc
  · rcases joinL_mem hc with q | ⟨x, hx, q⟩
    · rw [List.mem_singleton.mp q]; exact .inl (by decide)
    · obtain ⟨p, hp, rfl⟩ := List.mem_map.mp hx
      rcases nm_mem q with q | q
      · rw [q]; exact .inl (by decide)
      · exact .inr (h p hp c q)
  · refine .inl ?_
    revert hc
    revert c
    decide
  · rcases nm_mem hc with q | q
    · rw [q]; exact .inl (by decide)
    · exact .inr (he c q)
theorem shaped_W {l m : List Nat} (ol : Ord (srt (gone l))) (om : Ord (srt (gone m))) (rl : Row l) (rm : Row m) : SeqAt.shaped (.list (sD [wtxt (srt (gone l)) (RowM.plain l), wtxt (srt (gone m)) (RowM.plain m)])) = true := shaped_strs _ (by
  have h1 := ok_w _ (wtxt_ok (fun p hp => (ol.t.t.pr p hp).1) (RowM.plain_row rl))
  have h2 := ok_w _ (wtxt_ok (fun p hp => (om.t.t.pr p hp).1) (RowM.plain_row rm))
  simp [h1, h2])
theorem neg_bl (x : Bool) : decide (V.bl (!x) = V.bl x) = false := decide_eq_false fun h => by injection h with h; cases x <;> cases h
theorem dec_bl (x y : Bool) : decide (V.bl x = V.bl y) = decide (x = y) := decide_eq_decide.mpr ⟨fun h => by injection h, fun h => by rw [h]⟩
/-! ### a walk read of its text -/
theorem rpart_app {A B : List Nat} (h1 : 32 ∉ B) (h2 : 58 ∉ B) : Txt.rpartition (S (A ++ [32, 58, 32] ++ B)) (Str.ofString " : ") = (S A, Str.ofString " : ", S B) := by
  have ey : tl (Str.ofString " : ") = [32, 58, 32] := by decide
  have hy : tl (Str.ofString " : ") ≠ [] := by rw [ey]; simp
  have ex : tl (S (A ++ [32, 58, 32] ++ B)) = A ++ [32, 58, 32] ++ B := rfl
  have yes : PySem.StrLaws.At (S (A ++ [32, 58, 32] ++ B)) (Str.ofString " : ") (S (A ++ [32, 58, 32] ++ B)).length A.length := by
    rw [at_iff hy, ex, ey, List.append_assoc, List.drop_left]
    rfl
  have no : ∀ k, A.length < k → ¬ PySem.StrLaws.At (S (A ++ [32, 58, 32] ++ B)) (Str.ofString " : ") (S (A ++ [32, 58, 32] ++ B)).length k := fun k hk z => by
    rw [at_iff hy, ex, ey, List.append_assoc] at z
    obtain ⟨j, rfl⟩ : ∃ j, k = A.length + 1 + j := ⟨k - A.length - 1, by omega⟩
    have e : (A ++ ([32, 58, 32] ++ B)).drop (A.length + 1 + j) = ([58, 32] ++ B).drop j := by
      rw [show A.length + 1 + j = A.length + (1 + j) by omega, ← List.drop_drop, List.drop_left, ← List.drop_drop]
      rfl
    rw [e] at z
    have z : (([58, 32] ++ B).drop j).take 3 = [32, 58, 32] := eq_of_beq z
    match j, z with
    | 0, z => simp at z
    | 1, z =>
      have : 58 ∈ B := by
        have : B.take 2 = [58, 32] := by simpa using z
        exact List.mem_of_mem_take (i := 2) (by rw [this]; simp)
      exact h2 this
    | j + 2, z =>
      have : 32 ∈ B := by
        have z : (B.drop j).take 3 = [32, 58, 32] := z
        have h : 32 ∈ (B.drop j).take 3 := by rw [z]; simp
        exact List.mem_of_mem_drop (List.mem_of_mem_take h)
      exact h1 this
  unfold Txt.rpartition
  rcases PySem.StrLaws.last_spec (S (A ++ [32, 58, 32] ++ B)) (Str.ofString " : ") with ⟨_, hn⟩ | ⟨i, e, hi, hn⟩
  · exact absurd yes (hn _)
  · have ei : i = A.length := by
      rcases Nat.lt_trichotomy i A.length with q | q | q
      · exact absurd yes (hn _ q)
      · exact q
      · exact absurd hi (no _ q)
    rw [e, ei]
    have e1 : Builtin.Str.strSub (S (A ++ [32, 58, 32] ++ B)) 0 A.length = S A := ext_tl (by
      rw [tl_strSub, ex, List.drop_zero, Nat.sub_zero, List.append_assoc, List.take_left])
    have e2 : Builtin.Str.strSub (S (A ++ [32, 58, 32] ++ B)) (A.length + (Str.ofString " : ").length) (S (A ++ [32, 58, 32] ++ B)).length = S B := ext_tl (by
      rw [tl_strSub_end, ex]
      show (A ++ [32, 58, 32] ++ B).drop (A.length + 3) = B
      rw [List.append_assoc, ← List.drop_drop, List.drop_left]
      rfl)
    show (Builtin.Str.strSub _ 0 A.length, Str.ofString " : ", Builtin.Str.strSub _ (A.length + (Str.ofString " : ").length) _) = _
    rw [e1, e2]
theorem no_32 : ∀ c ∈ sgns, c ≠ 32 ∧ c ≠ 58 ∧ c ≠ 45 := by decide
theorem nm_no {p : List Nat} (h : Row p) : 32 ∉ nm p ∧ 58 ∉ nm p := by
  constructor
  · intro z
    rcases nm_mem z with q | q
    · cases q
    · exact (no_32 32 (h _ q)).1 rfl
  · intro z
    rcases nm_mem z with q | q
    · cases q
    · exact (no_32 58 (h _ q)).2.1 rfl
theorem nm_ne {p : List Nat} (h : Row p) (ne : p ≠ []) : nm p ≠ [45] ∧ nm p = p := by
  have e : nm p = p := if_neg ne
  refine ⟨fun z => ?_, e⟩
  rw [e] at z
  exact (no_32 45 (h 45 (by rw [z]; simp))).2.2 rfl
theorem split_w {ps : List (List Nat)} (h : ∀ p ∈ ps, Row p) (ne : ps ≠ []) : Txt.split (S (joinL [32] (ps.map nm))) (Str.ofString " ") = ps.map fun p => S (nm p) := by
  have eJ : S (joinL [32] (ps.map nm)) = Txt.join (Str.ofString " ") (ps.map fun p => S (nm p)) := ext_tl (by
    rw [join_eq, tl_join, List.map_map]
    rfl)
  rw [eJ]
  refine split_join (s := 32) (S := []) rfl (by decide +kernel) (fun e => ne (List.map_eq_nil_iff.mp e)) fun p hp => ?_
  obtain ⟨q, hq, rfl⟩ := List.mem_map.mp hp
  exact (nm_no (h q hq)).1
theorem wtxt_len {ps : List (List Nat)} {e : List Nat} (h : ∀ p ∈ ps, p.length ≤ 60) (hz : ps.length ≤ 61) (he : e.length ≤ 60) : (wtxt ps e).length ≤ 4000 := by
  have zj : (joinL [32] (ps.map nm)).length ≤ 3721 := by
    refine Nat.le_trans (joinL_len _ _) (Nat.le_trans (sum_le (b := 61) fun x hx => ?_) ?_)
    · rw [List.map_map] at hx
      obtain ⟨p, hpp, rfl⟩ := List.mem_map.mp hx
      have := nm_len (h p hpp)
      show (nm p).length + 1 ≤ 61
      omega
    · rw [List.length_map, List.length_map]
      omega
  have := nm_len he
  unfold wtxt
  rw [List.length_append, List.length_append]
  show _ + 3 + _ ≤ _
  omega
/-! ### walks put together -/
theorem idle_gone {x m : List Nat} (rx : Row x) (rm : Row m) (h : RowM.plain x = []) (p : List Nat) : p ∈ gone (x ++ m) ↔ p ∈ gone x ∨ p ∈ gone m := by
  rw [gone_app rx rm]
  refine or_congr Iff.rfl ⟨?_, fun hp => ⟨p, hp, ?_⟩⟩
  · rintro ⟨q, hq, rfl⟩
    rw [← plain_app_l rx, h, List.nil_append, WalkM.plain_prow ((WalkM.tree_gone rm).pr q hq)]
    exact hq
  · rw [← plain_app_l rx, h, List.nil_append, WalkM.plain_prow ((WalkM.tree_gone rm).pr p hp)]
theorem idle_plain {x m : List Nat} (rx : Row x) (h : RowM.plain x = []) : RowM.plain (x ++ m) = RowM.plain m := by
  rw [← plain_app_l rx, h, List.nil_append]
theorem look_gone {l : List Nat} (rl : Row l) (p : List Nat) : p ∈ gone (l ++ RowM.turn l) ↔ p ∈ gone l := by
  rw [gone_app rl (RowM.turn_row rl)]
  constructor
  · rintro (h | ⟨q, hq, rfl⟩)
    · exact h
    · obtain ⟨r, hr, rfl⟩ := (turn_gone rl q).mp hq
      have rp := RowM.plain_row rl
      have rr := rows_gone rl r hr
      rw [plain_app_r rl (row_app (RowM.turn_row rp) rr), ← plain_app_l rl, ← List.append_assoc, ← plain_app_l (row_app rp (RowM.turn_row rp)), RowM.plain_there_back rp, List.nil_append, WalkM.plain_prow ((WalkM.tree_gone rl).pr r hr)]
      exact hr
  · exact .inl
theorem sameW {l m : List Nat} (rl : Row l) (rm : Row m) (h : sameR l m = true) : true = true ↔ RowM.plain l = RowM.plain m ∧ ∀ p, p ∈ srt (gone l) ↔ p ∈ srt (gone m) := iff_of_true rfl ((same_iff rl rm).mpr h)
theorem same_there {l : List Nat} (rl : Row l) : sameR (l ++ RowM.turn l ++ l) l = true := by
  have rt := row_app rl (RowM.turn_row rl)
  have h := RowM.plain_there_back rl
  refine (sameR_iff (row_app rt rl) rl).mpr ⟨idle_plain rt h, fun p => ?_⟩
  rw [idle_gone rt rl h, look_gone rl, or_self]
theorem same_swap {x y : List Nat} (rx : Row x) (ry : Row y) (hx : RowM.plain x = []) (hy : RowM.plain y = []) : sameR (x ++ y) (y ++ x) = true := by
  refine (sameR_iff (row_app rx ry) (row_app ry rx)).mpr ⟨by rw [idle_plain rx hx, idle_plain ry hy, hx, hy], fun p => ?_⟩
  rw [idle_gone rx ry hx, idle_gone ry rx hy, or_comm]
theorem same_twice {x : List Nat} (rx : Row x) (hx : RowM.plain x = []) : sameR (x ++ x) x = true := by
  refine (sameR_iff (row_app rx rx) rx).mpr ⟨idle_plain rx hx, fun p => ?_⟩
  rw [idle_gone rx rx hx, or_self]
theorem look_srt {l : List Nat} (rl : Row l) : srt (gone (l ++ RowM.turn l)) = srt (gone l) :=
  WalkM.srt_uniq (perm_of (WalkM.tree_gone (row_app rl (RowM.turn_row rl))).nd (WalkM.tree_gone rl).nd (look_gone rl)) (rows_gone (row_app rl (RowM.turn_row rl)))
/-- a walk of a row -/
def Wl (C : Addr) (H : Hp) (a : Addr) (l : List Nat) : Prop := Row l ∧ l.length ≤ 60 ∧ ∃ q, WkAt C H a q (srt (gone l)) (RowM.plain l)
theorem Wl.same {C : Addr} {H H' : Hp} {a : Addr} {l : List Nat} (h : Wl C H a l) (s : Same H H') : Wl C H' a l := by
  obtain ⟨r, z, q, w⟩ := h
  exact ⟨r, z, q, w.same s⟩
theorem Wl.cons {l : List Nat} : ∃ t ts, (srt (gone l)).map sT = sT t :: ts := by
  cases h : srt (gone l) with
  | nil =>
    have := WalkM.gone_pos l
    rw [← WalkM.srt_length (gone l), h] at this
    cases this
  | cons t ts => exact ⟨t, ts.map sT, rfl⟩
theorem Wl.offp {C : Addr} {H H' : Hp} {a p : Addr} {l : List Nat} (h : Wl C H a l) (hp : Pool H p) (o : Off p H H') : Wl C H' a l := by
  obtain ⟨r, z, q, ⟨dx, w1⟩, w2⟩ := h
  obtain ⟨c0, n0, g0, _⟩ := hp
  obtain ⟨t, ts, e0⟩ := Wl.cons (l := l)
  refine ⟨r, z, q, WkAt.off ⟨⟨dx, w1⟩, w2⟩ o (fun e => ?_) (fun e => ?_)⟩
  · rw [e, g0] at w1
    cases w1
  · rw [e, g0, e0] at w2
    injection w2 with w2
    injection w2 with w2
    injection w2 with w2
    cases w2
theorem Wl.updD {C : Addr} {H : Hp} {a D : Addr} {l : List Nat} {xs : List Addr} {o : HO} (h : Wl C H a l) (g : H D = some (.lst (xs.map V.ref))) : Wl C (upd H D o) a l := by
  obtain ⟨r, z, q, ⟨dx, w1⟩, w2⟩ := h
  obtain ⟨t, ts, e0⟩ := Wl.cons (l := l)
  refine ⟨r, z, q, ⟨dx, ?_⟩, ?_⟩
  · rw [upd_ne fun e => by rw [e, g] at w1; cases w1]
    exact w1
  · rw [upd_ne fun e => ?_]
    · exact w2
    · rw [e, g, e0] at w2
      injection w2 with w2
      injection w2 with w2
      cases xs with
      | nil => cases w2
      | cons x xs =>
        injection w2 with w2
        cases w2
/-- an expression that tells a walk of a row -/
def Gv (C : Addr) (σ : L2.St) (H0 : Hp) (ta : L2.TE) (l : List Nat) : Prop := ∀ H1, Same H0 H1 → ∀ Q : VK, (∀ a H2, Same H1 H2 → Wl C H2 a l → Q (.ref a) H2) → ta σ H1 Q
theorem Gv.var {C : Addr} {σ : L2.St} {H0 : Hp} {i : Nat} {a : Addr} {l : List Nat} (w : Wl C H0 a l) (hs : σ[i]? = some (some (.ref a))) : Gv C σ H0 (L2.tVar i) l := fun H1 s1 Q k => ⟨_, hs, k a H1 (Same.refl _) (w.same s1)⟩
theorem seq0 {x : V} {xs ys : List V} : seqIndex? 0 (x :: xs ++ ys).length = some 0 := by
  rw [List.cons_append, List.length_cons]
  unfold seqIndex?
  simp
  omega
/-- shown, within the line -/
def Shown (d : PyData) : Prop := d.showable = true ∧ d.hasDict = false ∧ d.shown.length ≤ sizeLine ∧ d.depth ≤ 60
/-! ### data that is shown shortly -/
structure Sm (d : PyData) : Prop where
  s : d.showable = true
  h : d.hasDict = false
  l : d.leavesShort 13 = true
  b : d.bulk ≤ 9
  z : d.depth = 0
theorem sm_all : ∀ {ds : List PyData}, (∀ d ∈ ds, Sm d) → PyData.showableAll ds = true ∧ PyData.hasDictAll ds = false ∧ PyData.leavesShortAll 13 ds = true ∧ PyData.bulkAll ds ≤ 10 * ds.length ∧ PyData.depthAll ds = 0
  | [], _ => ⟨rfl, rfl, rfl, Nat.le_refl _, by rw [PyData.depthAll]⟩
  | d :: ds, h => by
    obtain ⟨a, b, c, e, f⟩ := sm_all fun d' hd => h d' (List.mem_cons_of_mem _ hd)
    obtain ⟨a', b', c', e', f'⟩ := h d List.mem_cons_self
    refine ⟨by rw [PyData.showableAll, a, a']; rfl, by rw [PyData.hasDictAll, b, b']; rfl, by rw [PyData.leavesShortAll, c, c']; rfl, ?_, by rw [PyData.depthAll, f, f']; rfl⟩
    rw [PyData.bulkAll, List.length_cons]
    omega
theorem sm_list {ds : List PyData} (h : ∀ d ∈ ds, Sm d) (hz : ds.length ≤ 10) : Shown (.list ds) := by
  obtain ⟨a, b, c, e, f⟩ := sm_all h
  exact ⟨by rw [PyData.showable]; exact a, by rw [PyData.hasDict]; exact b, PyData.shown_fits_bulk (B := 13) (by decide) (by decide) (by rw [PyData.leavesShort]; exact c) (by rw [PyData.bulk]; omega), by rw [PyData.depth, f]; decide⟩
theorem sm_int {i : Int} (h : i.natAbs < 10 ^ 12) : Sm (.int i) := by
  have q : i.natAbs.log2 < 1920 := by
    by_cases z : i.natAbs = 0
    · rw [z]; decide
    · exact (Nat.log2_lt z).mpr (Nat.lt_trans h (by decide))
  refine ⟨by rw [PyData.showable]; exact decide_eq_true q, by rw [PyData.hasDict], by rw [PyData.leavesShort]; exact decide_eq_true (PyData.shown_int_le h), by simp [PyData.bulk], by rw [PyData.depth]⟩
theorem sm_sign {c : Nat} (h : c ∈ sgns) : Sm (.str (S [c])) := by
  have : ∀ c ∈ sgns, (PyData.str (S [c])).showable = true ∧ (PyData.str (S [c])).hasDict = false ∧ (PyData.str (S [c])).leavesShort 13 = true ∧ (PyData.str (S [c])).bulk ≤ 9 ∧ (PyData.str (S [c])).depth = 0 := by decide +kernel
  obtain ⟨a, b, c, d, e⟩ := this c h
  exact ⟨a, b, c, d, e⟩
theorem sm_none : Sm .none := ⟨by decide +kernel, by decide +kernel, by decide +kernel, by decide +kernel, by decide +kernel⟩
theorem sm_bool (b : Bool) : Sm (.bool b) := by cases b <;> exact ⟨by decide +kernel, by decide +kernel, by decide +kernel, by decide +kernel, by decide +kernel⟩
theorem mem_two {α : Type} {P : α → Prop} {a b : α} (h1 : P a) (h2 : P b) : ∀ d ∈ [a, b], P d := fun d h => by
  simp only [List.mem_cons, List.not_mem_nil, or_false] at h
  rcases h with rfl | rfl
  · exact h1
  · exact h2
theorem mem_three {α : Type} {P : α → Prop} {a b c : α} (h1 : P a) (h2 : P b) (h3 : P c) : ∀ d ∈ [a, b, c], P d := fun d h => by
  simp only [List.mem_cons, List.not_mem_nil, or_false] at h
  rcases h with rfl | rfl | rfl
  · exact h1
  · exact h2
  · exact h3
/-! ### logs -/
theorem plain_app (t r : List Nat) : RowM.plain (t ++ r) = r.foldl WalkM.on (RowM.plain t) := by
  rw [← WalkM.plain_fold, List.foldl_append, WalkM.plain_fold]
theorem gone_mono {p t : List Nat} (h : p ∈ gone t) (r : List Nat) : p ∈ gone (t ++ r) := by
  refine WalkM.snoc_ind (P := fun r => p ∈ gone (t ++ r)) (by simpa using h) (fun l c ih => ?_) r
  rw [← List.append_assoc, WalkM.gone_snoc]
  exact WalkM.mem_addK.mpr (.inl ih)
theorem gone_len_mono (t r : List Nat) : (gone t).length ≤ (gone (t ++ r)).length := by
  refine WalkM.snoc_ind (P := fun r => (gone t).length ≤ (gone (t ++ r)).length) (by simp) (fun l c ih => ?_) r
  rw [← List.append_assoc, WalkM.gone_snoc]
  unfold addK
  split
  · exact ih
  · rw [List.length_append]; omega
/-- what a log's signs and its open ones have to do with one another -/
structure LI (t o : List Nat) : Prop where
  rt : Row t
  ro : Row o
  e : RowM.plain t = RowM.plain o
  p : ∀ j, RowM.plain (o.take j) ∈ gone t
theorem LI.nil : LI [] [] := ⟨RowM.nil_row, RowM.nil_row, rfl, fun j => by rw [List.take_nil]; exact WalkM.nil_gone []⟩
theorem LI.more {t o r : List Nat} (h : LI t o) (hr : Row r) : LI (t ++ r) (o ++ r) := by
  refine ⟨row_app h.rt hr, row_app h.ro hr, by rw [plain_app, plain_app, h.e], fun j => ?_⟩
  by_cases q : j ≤ o.length
  · rw [List.take_append_of_le_length q]
    exact gone_mono (h.p j) r
  · have e : (o ++ r).take j = o ++ r.take (j - o.length) := by
      rw [List.take_append, List.take_of_length_le (by omega)]
    rw [e, plain_app, ← h.e, ← plain_app]
    have := gone_mono (WalkM.end_gone (t ++ r.take (j - o.length))) (r.drop (j - o.length))
    rwa [List.append_assoc, List.take_append_drop] at this
theorem LI.back1 {t p : List Nat} {c : Nat} (h : LI t (p ++ [c])) : LI (t ++ [con c]) p ∧ gone (t ++ [con c]) = gone t := by
  have sc : c ∈ sgns := h.ro c (by simp)
  have rp : Row p := fun d hd => h.ro d (List.mem_append_left _ hd)
  have e1 : RowM.plain (t ++ [con c]) = RowM.plain p := by
    rw [plain_app, h.e, ← plain_app, List.append_assoc]
    have := RowM.plain_pair (c := c) (u := p) (v := []) sc
    simpa using this
  have hp : ∀ j, RowM.plain (p.take j) ∈ gone t := fun j => by
    have := h.p (min j p.length)
    rwa [List.take_append_of_le_length (Nat.min_le_right _ _), show p.take (min j p.length) = p.take j from by rw [← List.take_take, List.take_length]] at this
  have e2 : gone (t ++ [con c]) = gone t := by
    rw [WalkM.gone_snoc, ← WalkM.plain_snoc, e1]
    have := hp p.length
    rw [List.take_length] at this
    unfold addK
    rw [if_pos this]
  exact ⟨⟨row_app h.rt (fun d hd => by rw [List.mem_singleton.mp hd]; exact RowM.con_mem sc), rp, e1, fun j => by rw [e2]; exact hp j⟩, e2⟩
theorem LI.backs (p : List Nat) (q : List Nat) : ∀ t, LI t (p ++ q) → LI (t ++ RowM.turn q) p ∧ gone (t ++ RowM.turn q) = gone t := by
  refine WalkM.snoc_ind (P := fun q => ∀ t, LI t (p ++ q) → LI (t ++ RowM.turn q) p ∧ gone (t ++ RowM.turn q) = gone t) (fun t h => ?_) (fun l c ih t h => ?_) q
  · have : RowM.turn [] = [] := rfl
    rw [this, List.append_nil]
    rw [List.append_nil] at h
    exact ⟨h, rfl⟩
  · rw [← List.append_assoc] at h
    obtain ⟨h1, e1⟩ := h.back1
    obtain ⟨h2, e2⟩ := ih _ h1
    have et : RowM.turn (l ++ [c]) = con c :: RowM.turn l := by rw [RowM.turn_append]; rfl
    rw [et]
    have ea : t ++ con c :: RowM.turn l = (t ++ [con c]) ++ RowM.turn l := by simp
    rw [ea]
    exact ⟨h2, e2.trans e1⟩
/-! ### marks -/
abbrev Mks := List (Key × V)
def leV (n : Nat) : V → Bool
  | .int v => decide (v ≤ (n : Int))
  | _ => true
def cutM (n : Nat) (mk : Mks) : Mks := mk.filter fun kv => leV n kv.2
structure MkI (mk : Mks) (n : Nat) : Prop where
  nd : (mk.map (·.1)).Nodup
  tx : ∀ kv ∈ mk, ∃ (s : Str) (j : Nat), kv = (Sum.inr s, .int (j : Int)) ∧ j ≤ n
theorem MkI.nil (n : Nat) : MkI [] n := ⟨List.nodup_nil, fun _ h => nomatch h⟩
theorem MkI.mono {mk : Mks} {m n : Nat} (h : MkI mk m) (z : m ≤ n) : MkI mk n := ⟨h.nd, fun kv hk => by
  obtain ⟨s, j, e, hj⟩ := h.tx kv hk
  exact ⟨s, j, e, by omega⟩⟩
theorem MkI.cut {mk : Mks} {n : Nat} (h : MkI mk n) (m : Nat) : MkI (cutM m mk) m := by
  refine ⟨(List.filter_sublist.map _).nodup h.nd, fun kv hk => ?_⟩
  obtain ⟨hk, hv⟩ := List.mem_filter.mp hk
  obtain ⟨s, j, rfl, hj⟩ := h.tx kv hk
  have := of_decide_eq_true (show decide ((j : Int) ≤ (m : Int)) = true from hv)
  exact ⟨s, j, rfl, by omega⟩
theorem cutM_all {mk : Mks} {n : Nat} (h : MkI mk n) : cutM n mk = mk := by
  unfold cutM
  refine List.filter_eq_self.mpr fun kv hk => ?_
  obtain ⟨s, j, rfl, hj⟩ := h.tx kv hk
  exact decide_eq_true (by omega : (j : Int) ≤ (n : Int))
theorem val_none {mk : Mks} {k : Key} (h : k ∉ mk.map (·.1)) : valV mk k = none := by
  unfold valV
  rw [List.find?_eq_none.mpr fun kv hk => ?_]
  · rfl
  · simp only [decide_eq_true_eq]
    intro e
    exact h (List.mem_map.mpr ⟨kv, hk, e⟩)
theorem val_app {a b : Mks} {k : Key} (h : k ∉ a.map (·.1)) : valV (a ++ b) k = valV b k := by
  unfold valV
  rw [List.find?_append, List.find?_eq_none.mpr fun kv hk => ?_]
  · rfl
  · simp only [decide_eq_true_eq]
    intro e
    exact h (List.mem_map.mpr ⟨kv, hk, e⟩)
theorem val_head (k : Key) (v : V) (r : Mks) : valV ((k, v) :: r) k = some v := by simp [valV]
theorem drop_app {a b : Mks} {k : Key} (h : k ∉ a.map (·.1)) : dropK (a ++ b) k = a ++ dropK b k := by
  unfold dropK
  rw [List.filter_append]
  congr 1
  refine List.filter_eq_self.mpr fun kv hk => ?_
  have : kv.1 ≠ k := fun e => h (List.mem_map.mpr ⟨kv, hk, e⟩)
  simp [this]
theorem drop_not {b : Mks} {k : Key} (h : k ∉ b.map (·.1)) : dropK b k = b := by
  have := drop_app (b := []) h
  simpa [dropK] using this
theorem drop_head {b : Mks} {k : Key} {v : V} (h : k ∉ b.map (·.1)) : dropK ((k, v) :: b) k = b := by
  have e : dropK ((k, v) :: b) k = dropK b k := by simp [dropK]
  rw [e, drop_not h]
/-- the marks, i of them looked at -/
def cutI (n i : Nat) (mk : Mks) : Mks := cutM n (mk.take i) ++ mk.drop i
theorem cutI_zero (n : Nat) (mk : Mks) : cutI n 0 mk = mk := by simp [cutI, cutM]
theorem cutI_all (n : Nat) (mk : Mks) : cutI n mk.length mk = cutM n mk := by simp [cutI]
theorem cutI_next {mk : Mks} {n i : Nat} {s : Str} {j : Nat} (nd : (mk.map (·.1)).Nodup) (h : mk[i]? = some (Sum.inr s, .int (j : Int))) :
    valV (cutI n i mk) (Sum.inr s) = some (.int (j : Int)) ∧ (j ≤ n → cutI n (i + 1) mk = cutI n i mk) ∧ (n < j → cutI n (i + 1) mk = dropK (cutI n i mk) (Sum.inr s)) := by
  obtain ⟨hi, hv⟩ := List.getElem?_eq_some_iff.mp h
  have ed : mk.drop i = (Sum.inr s, .int (j : Int)) :: mk.drop (i + 1) := by rw [List.drop_eq_getElem_cons hi, hv]
  have et : mk.take (i + 1) = mk.take i ++ [(Sum.inr s, .int (j : Int))] := by rw [List.take_add_one, h]; rfl
  have nd2 : ((mk.take i).map (·.1) ++ (Sum.inr s :: (mk.drop (i + 1)).map (·.1))).Nodup := by
    have : mk.map (·.1) = (mk.take i).map (·.1) ++ (Sum.inr s :: (mk.drop (i + 1)).map (·.1)) := by
      rw [← List.map_cons (f := Prod.fst) (a := (Sum.inr s, V.int (j : Int))), ← ed, ← List.map_append, List.take_append_drop]
    rwa [this] at nd
  have n1 : (Sum.inr s : Key) ∉ (mk.take i).map (·.1) := fun m => (List.nodup_append.mp nd2).2.2 _ m _ List.mem_cons_self rfl
  have n2 : (Sum.inr s : Key) ∉ (mk.drop (i + 1)).map (·.1) := (List.nodup_cons.mp (List.nodup_append.mp nd2).2.1).1
  have n3 : (Sum.inr s : Key) ∉ (cutM n (mk.take i)).map (·.1) := fun m => n1 ((List.filter_sublist.map _).subset m)
  refine ⟨by unfold cutI; rw [val_app n3, ed, val_head], fun hj => ?_, fun hj => ?_⟩
  · unfold cutI
    rw [et, ed]
    have : cutM n (mk.take i ++ [(Sum.inr s, .int (j : Int))]) = cutM n (mk.take i) ++ [(Sum.inr s, .int (j : Int))] := by
      unfold cutM
      rw [List.filter_append]
      congr 1
      exact List.filter_eq_self.mpr fun kv hk => by
        rw [List.mem_singleton.mp hk]
        exact decide_eq_true (by omega : (j : Int) ≤ (n : Int))
    rw [this]
    simp
  · unfold cutI
    rw [drop_app n3, ed, drop_head n2, et]
    have : cutM n (mk.take i ++ [(Sum.inr s, .int (j : Int))]) = cutM n (mk.take i) := by
      unfold cutM
      rw [List.filter_append]
      have : List.filter (fun kv : Key × V => leV n kv.2) [(Sum.inr s, .int (j : Int))] = [] := by
        refine List.filter_eq_nil_iff.mpr fun kv hk => ?_
        rw [List.mem_singleton.mp hk]
        show ¬ decide ((j : Int) ≤ (n : Int)) = true
        simp
        omega
      rw [this, List.append_nil]
    rw [this]
theorem MkI.put {mk : Mks} {n : Nat} (h : MkI mk n) (s : Str) : MkI (putK mk (Sum.inr s) (.int (n : Int))) n := by
  unfold putK
  split
  · refine ⟨?_, fun kv hk => ?_⟩
    · have : (mk.map fun kv => if kv.1 = Sum.inr s then (kv.1, V.int (n : Int)) else kv).map (·.1) = mk.map (·.1) := by
        rw [List.map_map]
        refine List.map_congr_left fun kv _ => ?_
        simp only [Function.comp]
        split <;> rfl
      rw [this]
      exact h.nd
    · obtain ⟨kv', hk', rfl⟩ := List.mem_map.mp hk
      obtain ⟨s', j, rfl, hj⟩ := h.tx kv' hk'
      split
      · exact ⟨s', n, rfl, Nat.le_refl _⟩
      · exact ⟨s', j, rfl, hj⟩
  · rename_i hn
    refine ⟨?_, fun kv hk => ?_⟩
    · rw [List.map_append]
      refine List.nodup_append.mpr ⟨h.nd, by simp, fun a ha b hb e => hn ?_⟩
      rw [List.map_cons, List.map_nil, List.mem_singleton] at hb
      subst e hb
      obtain ⟨kv, hk, e⟩ := List.mem_map.mp ha
      exact List.any_eq_true.mpr ⟨kv, hk, decide_eq_true e⟩
    · rcases List.mem_append.mp hk with hk | hk
      · exact h.tx kv hk
      · rw [List.mem_singleton.mp hk]
        exact ⟨s, n, rfl, Nat.le_refl _⟩
theorem MkI.val {mk : Mks} {n : Nat} {s : Str} (h : MkI mk n) {v : V} (e : valV mk (Sum.inr s) = some v) : ∃ j : Nat, v = .int (j : Int) ∧ j ≤ n := by
  unfold valV at e
  cases q : mk.find? fun kv => decide (kv.1 = Sum.inr s) with
  | none => rw [q] at e; cases e
  | some kv =>
    rw [q] at e
    obtain ⟨s', j, rfl, hj⟩ := h.tx kv (List.mem_of_find?_eq_some q)
    injection e with e
    exact ⟨j, e.symm, hj⟩
theorem cutM_len (n : Nat) (mk : Mks) : (cutM n mk).length ≤ mk.length := List.length_filter_le _ _
/-- the texts of the marks' names -/
def namesM (mk : Mks) : List Str := mk.filterMap fun kv => match kv.1 with
  | .inr s => some s
  | .inl _ => none
theorem namesM_is {mk : Mks} {n : Nat} (h : MkI mk n) : mk.map (·.1) = (namesM mk).map Sum.inr := by
  have : ∀ mk : Mks, (∀ kv ∈ mk, ∃ (s : Str) (j : Nat), kv = (Sum.inr s, .int (j : Int)) ∧ j ≤ n) → mk.map (·.1) = (namesM mk).map Sum.inr := by
    intro mk
    induction mk with
    | nil => intro _; rfl
    | cons kv r ih =>
      intro h
      obtain ⟨s, j, rfl, _⟩ := h kv List.mem_cons_self
      have := ih fun kv hk => h kv (List.mem_cons_of_mem _ hk)
      show Sum.inr s :: _ = (namesM ((Sum.inr s, V.int (j : Int)) :: r)).map Sum.inr
      rw [show namesM ((Sum.inr s, V.int (j : Int)) :: r) = s :: namesM r from rfl, List.map_cons, ← this]
  exact this mk h.tx
theorem namesM_len {mk : Mks} {n : Nat} (h : MkI mk n) : (namesM mk).length = mk.length := by
  have := congrArg List.length (namesM_is h)
  simpa using this.symm
/-! ### where they lie -/
def OffS (ex : List Addr) (H H' : Hp) : Prop := ∀ b o, b ∉ ex → H b = some o → H' b = some o
theorem OffS.refl (ex : List Addr) (H : Hp) : OffS ex H H := fun _ _ _ h => h
theorem OffS.trans {ex : List Addr} {H H1 H2 : Hp} (a : OffS ex H H1) (b : OffS ex H1 H2) : OffS ex H H2 := fun x o n h => b x o n (a x o n h)
theorem OffS.of {ex : List Addr} {H H' : Hp} (s : Same H H') : OffS ex H H' := fun b o _ h => s b o h
theorem OffS.upd {ex : List Addr} {H H' : Hp} {b : Addr} {o : HO} (s : OffS ex H H') (hb : b ∈ ex) : OffS ex H (L2.upd H' b o) := fun x u n h => by
  rw [upd_ne (fun e => n (by rw [e]; exact hb))]
  exact s x u n h
theorem OffS.mono {ex ex' : List Addr} {H H' : Hp} (s : OffS ex H H') (h : ∀ b ∈ ex, b ∈ ex') : OffS ex' H H' := fun x o n hx => s x o (fun m => n (h x m)) hx
def lgF (t o e : List Nat) (kd md : Addr) : List (Str × V) := [(Str.ofString "own_text", sT t), (Str.ofString "own_open", sT o), (Str.ofString "own_end", sT e), (Str.ofString "own_known", .ref kd), (Str.ofString "own_marks", .ref md)]
/-- a log -/
structure LgF (C : Addr) (H : Hp) (a kd md : Addr) (t o e : List Nat) (ks : List (List Nat)) (mk : Mks) : Prop where
  ob : ∃ dx, H a = some (.ins C dx (lgF t o e kd md))
  kn : H kd = some (.dK (kvT ks))
  mr : H md = some (.dK mk)
  ne : kd ≠ md
abbrev LgAt (C : Addr) (H : Hp) (a kd md : Addr) (t o : List Nat) (mk : Mks) : Prop := LgF C H a kd md t o (RowM.plain t) (gone t) mk
theorem LgF.same {C : Addr} {H H' : Hp} {a kd md : Addr} {t o e : List Nat} {ks : List (List Nat)} {mk : Mks} (h : LgF C H a kd md t o e ks mk) (s : Same H H') : LgF C H' a kd md t o e ks mk :=
  ⟨let ⟨dx, g⟩ := h.ob; ⟨dx, s _ _ g⟩, s _ _ h.kn, s _ _ h.mr, h.ne⟩
theorem LgF.off {C : Addr} {H H' : Hp} {a kd md : Addr} {t o e : List Nat} {ks : List (List Nat)} {mk : Mks} {ex : List Addr} (h : LgF C H a kd md t o e ks mk) (s : OffS ex H H') (n1 : a ∉ ex) (n2 : kd ∉ ex) (n3 : md ∉ ex) : LgF C H' a kd md t o e ks mk :=
  ⟨let ⟨dx, g⟩ := h.ob; ⟨dx, s _ _ n1 g⟩, s _ _ n2 h.kn, s _ _ n3 h.mr, h.ne⟩
section
variable {C : Addr} {H : Hp} {a kd md : Addr} {t o e t' o' e' : List Nat} {ks ks' : List (List Nat)} {mk mk' : Mks}
theorem LgF.nk (h : LgF C H a kd md t o e ks mk) : a ≠ kd := fun q => by
  obtain ⟨dx, g⟩ := h.ob
  rw [q, h.kn] at g
  cases g
theorem LgF.nm (h : LgF C H a kd md t o e ks mk) : a ≠ md := fun q => by
  obtain ⟨dx, g⟩ := h.ob
  rw [q, h.mr] at g
  cases g
theorem LgF.putO (h : LgF C H a kd md t o e ks mk) {dx : Addr} : LgF C (upd H a (.ins C dx (lgF t' o' e' kd md))) a kd md t' o' e' ks mk :=
  ⟨⟨dx, upd_same⟩, by rw [upd_ne h.nk.symm]; exact h.kn, by rw [upd_ne h.nm.symm]; exact h.mr, h.ne⟩
theorem LgF.putK (h : LgF C H a kd md t o e ks mk) : LgF C (upd H kd (.dK (kvT ks'))) a kd md t o e ks' mk :=
  ⟨let ⟨dx, g⟩ := h.ob; ⟨dx, by rw [upd_ne h.nk]; exact g⟩, upd_same, by rw [upd_ne h.ne.symm]; exact h.mr, h.ne⟩
theorem LgF.putM (h : LgF C H a kd md t o e ks mk) : LgF C (upd H md (.dK mk')) a kd md t o e ks mk' :=
  ⟨let ⟨dx, g⟩ := h.ob; ⟨dx, by rw [upd_ne h.nm]; exact g⟩, by rw [upd_ne h.ne]; exact h.kn, upd_same, h.ne⟩
end
/-- the law's own log -/
def owD (t o : List Nat) (lm lp : Addr) : List (Key × V) := [(Sum.inr (Str.ofString "text"), sT t), (Sum.inr (Str.ofString "open"), sT o), (Sum.inr (Str.ofString "marks"), .ref lm), (Sum.inr (Str.ofString "places"), .ref lp)]
structure OwAt (H : Hp) (od lm lp : Addr) (t o : List Nat) (mk : Mks) : Prop where
  ow : H od = some (.dK (owD t o lm lp))
  mr : H lm = some (.dK mk)
  pl : H lp = some (.lst ((gone t).map sT))
  ne : od ≠ lm
theorem OwAt.same {H H' : Hp} {od lm lp : Addr} {t o : List Nat} {mk : Mks} (h : OwAt H od lm lp t o mk) (s : Same H H') : OwAt H' od lm lp t o mk := ⟨s _ _ h.ow, s _ _ h.mr, s _ _ h.pl, h.ne⟩
theorem OwAt.off {H H' : Hp} {od lm lp : Addr} {t o : List Nat} {mk : Mks} {ex : List Addr} (h : OwAt H od lm lp t o mk) (s : OffS ex H H') (n1 : od ∉ ex) (n2 : lm ∉ ex) (n3 : lp ∉ ex) : OwAt H' od lm lp t o mk := ⟨s _ _ n1 h.ow, s _ _ n2 h.mr, s _ _ n3 h.pl, h.ne⟩
/-! ### what is asked of a log -/
structure Lst where
  t : List Nat
  o : List Nat
  ms : Mks
inductive Rq where
  | row (r : Option (List Nat))
  | back (m : Option Nat)
  | mark (nm : Option (List Nat))
  | gone (nm : Option (List Nat))
def bakL (s : Lst) (m : Nat) : Lst := ⟨s.t ++ RowM.turn (s.o.drop (s.o.length - m)), s.o.take (s.o.length - m), cutM (s.o.length - m) s.ms⟩
def wL (s : String) : V := .str (Str.ofString s)
def ansR (s : Lst) (r : List Nat) : List V × Lst := if (gone (s.t ++ r)).length ≤ 61 then ([wL "told", .int (s.t ++ r).length], ⟨s.t ++ r, s.o ++ r, s.ms⟩) else ([wL "full", .int (gone (s.t ++ r)).length], s)
def ansG (s : Lst) (x : V) (nm : List Nat) : List V × Lst := match valV s.ms (kT nm) with
    | some (.int v) => ([wL "told", .int ((s.o.length : Int) - v)], bakL s (s.o.length - v.toNat))
    | _ => ([wL "mark", x], s)
/-- the answer, and how the log stands then -/
def ansL (s : Lst) (x : V) : Rq → List V × Lst
  | .row none => ([wL "row"], s)
  | .row (some r) => ansR s r
  | .back none => ([wL "back", x], s)
  | .back (some m) => ([wL "told", .int (bakL s m).t.length], bakL s m)
  | .mark none => ([wL "mark", x], s)
  | .mark (some nm) => ([wL "told", .non], ⟨s.t, s.o, putK s.ms (kT nm) (.int s.o.length)⟩)
  | .gone none => ([wL "mark", x], s)
  | .gone (some nm) => ansG s x nm
structure LgI (s : Lst) (k : Nat) : Prop where
  li : LI s.t s.o
  mi : MkI s.ms s.o.length
  z : s.t.length + s.o.length ≤ 12 * k
  ml : s.ms.length ≤ k
  zg : (gone s.t).length ≤ 61
def names4 : List (List Nat) := [[97], [98, 101, 103, 105, 110], [97, 98, 99, 100, 101, 102, 103, 104], [122, 122]]
def namesB : List (List Nat) := [[], [97, 98, 99, 100, 101, 102, 103, 104, 105], [65], [97, 32, 98], [97, 49]]
inductive DoV (N : Addr → Prop) (H : Hp) : V → Option (List Nat) → Prop
  | row (l : List Nat) (h : ∀ c ∈ l, c ∈ [97, 65, 98, 66]) (z : l.length ≤ 6) : DoV N H (sT l) (some l)
  | bad (l : List Nat) (z : l.length ≤ 61) (hc : Chs l) (h : (∃ c ∈ l, c ∉ sgns) ∨ 60 < l.length) : DoV N H (sT l) none
  | non : DoV N H .non none
  | int : DoV N H (.int 0) none
  | lst (q : Addr) (n : N q) (g : H q = some (.lst [wL "a"])) : DoV N H (.ref q) none
  | dct (q : Addr) (n : N q) (g : H q = some (.dK [])) : DoV N H (.ref q) none
inductive BackV (N : Addr → Prop) (H : Hp) (n : Nat) : V → Option Nat → Prop
  | good (m : Nat) (h1 : 1 ≤ m) (h2 : m ≤ n) (h3 : m ≤ 1000) : BackV N H n (.int (m : Int)) (some m)
  | bad (i : Int) (h : ¬ (1 ≤ i ∧ i ≤ (n : Int))) (z : i = 10 ^ 30 ∨ (-1 ≤ i ∧ i ≤ 1000)) : BackV N H n (.int i) none
  | non : BackV N H n .non none
  | bl (b : Bool) : BackV N H n (.bl b) none
  | str : BackV N H n (sT [49]) none
  | lst (q : Addr) (hn : N q) (g : H q = some (.lst [.int 1])) : BackV N H n (.ref q) none
  | tup (q : Addr) (hn : N q) (g : H q = some (.tup [.int 1])) : BackV N H n (.ref q) none
inductive NameV (N : Addr → Prop) (H : Hp) : V → Option (List Nat) → Prop
  | good (l : List Nat) (h : l ∈ names4) : NameV N H (sT l) (some l)
  | bad (l : List Nat) (h : l ∈ namesB) : NameV N H (sT l) none
  | non : NameV N H .non none
  | int : NameV N H (.int 3) none
  | lst (q : Addr) (n : N q) (g : H q = some (.lst [wL "a"])) : NameV N H (.ref q) none
  | dct (q : Addr) (n : N q) (g : H q = some (.dK [])) : NameV N H (.ref q) none
inductive AskL (N : Addr → Prop) (H : Hp) (n : Nat) : V → V → Rq → Prop
  | row {x : V} {r : Option (List Nat)} (h : DoV N H x r) : AskL N H n (wL "do") x (.row r)
  | back {x : V} {m : Option Nat} (h : BackV N H n x m) : AskL N H n (wL "back") x (.back m)
  | mark {x : V} {r : Option (List Nat)} (h : NameV N H x r) : AskL N H n (wL "mark") x (.mark r)
  | gone {x : V} {r : Option (List Nat)} (h : NameV N H x r) : AskL N H n (wL "to") x (.gone r)
theorem AskL.keep {N N' : Addr → Prop} {H H' : Hp} {n : Nat} {d x : V} {rq : Rq} (h : AskL N H n d x rq) (k : ∀ q o, N q → H q = some o → N' q ∧ H' q = some o) : AskL N' H' n d x rq := by
  cases h with
  | row h => exact .row (by cases h with
    | row l h z => exact .row l h z
    | bad l z hc h => exact .bad l z hc h
    | non => exact .non
    | int => exact .int
    | lst q n g => exact .lst q (k _ _ n g).1 (k _ _ n g).2
    | dct q n g => exact .dct q (k _ _ n g).1 (k _ _ n g).2)
  | back h => exact .back (by cases h with
    | good m h1 h2 h3 => exact .good m h1 h2 h3
    | bad i h z => exact .bad i h z
    | non => exact .non
    | bl b => exact .bl b
    | str => exact .str
    | lst q n g => exact .lst q (k _ _ n g).1 (k _ _ n g).2
    | tup q n g => exact .tup q (k _ _ n g).1 (k _ _ n g).2)
  | mark h => exact .mark (by cases h with
    | good l h => exact .good l h
    | bad l h => exact .bad l h
    | non => exact .non
    | int => exact .int
    | lst q n g => exact .lst q (k _ _ n g).1 (k _ _ n g).2
    | dct q n g => exact .dct q (k _ _ n g).1 (k _ _ n g).2)
  | gone h => exact .gone (by cases h with
    | good l h => exact .good l h
    | bad l h => exact .bad l h
    | non => exact .non
    | int => exact .int
    | lst q n g => exact .lst q (k _ _ n g).1 (k _ _ n g).2
    | dct q n g => exact .dct q (k _ _ n g).1 (k _ _ n g).2)
theorem turn_drop_len (o : List Nat) (m : Nat) (h : m ≤ o.length) : (RowM.turn (o.drop (o.length - m))).length = m := by
  rw [RowM.turn_length, List.length_drop]; omega
theorem LI.bak {s : Lst} (h : LI s.t s.o) (m : Nat) : LI (bakL s m).t (bakL s m).o ∧ gone (bakL s m).t = gone s.t := by
  refine LI.backs (s.o.take (s.o.length - m)) (s.o.drop (s.o.length - m)) s.t ?_
  rw [List.take_append_drop]
  exact h
theorem LgI.step {s : Lst} {k : Nat} (h : LgI s k) {N : Addr → Prop} {H : Hp} {d x : V} {rq : Rq} (a : AskL N H s.o.length d x rq) : LgI (ansL s x rq).2 (k + 1) := by
  have same : LgI s (k + 1) := ⟨h.li, h.mi, by have := h.z; omega, by have := h.ml; omega, h.zg⟩
  have bk : ∀ m, m ≤ s.o.length → LgI (bakL s m) (k + 1) := fun m hm => by
    obtain ⟨l1, e1⟩ := h.li.bak m
    have lo : (bakL s m).o.length = s.o.length - m := by show (s.o.take _).length = _; rw [List.length_take]; omega
    have lt : (bakL s m).t.length = s.t.length + m := by show (s.t ++ _).length = _; rw [List.length_append, turn_drop_len _ _ hm]
    refine ⟨l1, by rw [lo]; exact h.mi.cut _, by rw [lo, lt]; have := h.z; omega, Nat.le_trans (cutM_len _ _) (by have := h.ml; omega), by rw [e1]; exact h.zg⟩
  cases a with
  | row hx => cases hx with
    | row l hl zl =>
      have rl : Row l := fun c hc => by
        have : ∀ c ∈ [97, 65, 98, 66], c ∈ sgns := by decide
        exact this c (hl c hc)
      show LgI (ansR s l).2 _
      unfold ansR
      split
      · rename_i z
        refine ⟨h.li.more rl, h.mi.mono (by rw [List.length_append]; omega), ?_, by show s.ms.length ≤ _; have := h.ml; omega, z⟩
        show (s.t ++ l).length + (s.o ++ l).length ≤ _
        have := h.z
        rw [List.length_append, List.length_append]; omega
      · exact same
    | _ => exact same
  | back hx => cases hx with
    | good m h1 h2 => exact bk m h2
    | _ => exact same
  | mark hx => cases hx with
    | good l hl =>
      refine ⟨h.li, h.mi.put _, by show s.t.length + s.o.length ≤ _; have := h.z; omega, ?_, h.zg⟩
      have := length_putK s.ms (kT l) (.int (s.o.length : Int))
      have := h.ml
      show (putK s.ms (kT l) (.int (s.o.length : Int))).length ≤ k + 1
      omega
    | _ => exact same
  | gone hx => cases hx with
    | good l hl =>
      show LgI (ansG s _ l).2 _
      unfold ansG
      split
      · rename_i v e
        exact bk _ (Nat.sub_le _ _)
      · exact same
    | _ => exact same
/-- a number of signs to take back, or none -/
def BkW (H : Hp) (n : Nat) (x : V) (r : Bool) : Prop := (∃ i : Int, x = .int i ∧ r = decide (1 ≤ i ∧ i ≤ (n : Int))) ∨ (NInt H x ∧ r = false)
theorem BkW.same {H H' : Hp} {n : Nat} {x : V} {r : Bool} (h : BkW H n x r) (s : Same H H') : BkW H' n x r := h.imp id fun h => ⟨h.1.same s, h.2⟩
def okName (l : List Nat) : Bool := decide (1 ≤ l.length) && (decide (l.length ≤ 8) && l.all fun c => decide (97 ≤ c ∧ c ≤ 122))
/-- a name, or none -/
def NmW (H : Hp) (x : V) (r : Bool) : Prop := (∃ l : List Nat, x = sT l ∧ l.length ≤ 1000 ∧ r = okName l) ∨ (NotStr H x ∧ r = false)
theorem NmW.same {H H' : Hp} {x : V} {r : Bool} (h : NmW H x r) (s : Same H H') : NmW H' x r := h.imp id fun h => ⟨h.1.same s, h.2⟩
theorem letters_mem (c : Nat) : c ∈ (Str.ofString "abcdefghijklmnopqrstuvwxyz").cps.toList ↔ 97 ≤ c ∧ c ≤ 122 := by
  have e : (Str.ofString "abcdefghijklmnopqrstuvwxyz").cps.toList = [97, 98, 99, 100, 101, 102, 103, 104, 105, 106, 107, 108, 109, 110, 111, 112, 113, 114, 115, 116, 117, 118, 119, 120, 121, 122] := by decide +kernel
  rw [e]
  simp only [List.mem_cons, List.not_mem_nil, or_false]
  omega
theorem next_at {t r : List Nat} {i c : Nat} (hr : Row (t ++ r.take i)) (h : r[i]? = some c) : t ++ r.take (i + 1) = (t ++ r.take i) ++ [c] ∧ RowM.plain (RowM.plain (t ++ r.take i) ++ [c]) = RowM.plain (t ++ r.take (i + 1)) ∧ addK (gone (t ++ r.take i)) (RowM.plain (t ++ r.take (i + 1))) = gone (t ++ r.take (i + 1)) := by
  have e1 : t ++ r.take (i + 1) = (t ++ r.take i) ++ [c] := by rw [List.take_add_one, h, List.append_assoc]; rfl
  rw [e1]
  exact ⟨rfl, by rw [WalkM.on_plain c (WalkM.prow_plain hr), WalkM.plain_snoc], by rw [WalkM.gone_snoc, WalkM.plain_snoc]⟩
theorem backL_zero {s : Lst} (h : MkI s.ms s.o.length) : bakL s 0 = s := by
  unfold bakL
  rw [Nat.sub_zero, List.drop_length, List.take_length, cutM_all h]
  show (⟨s.t ++ [], s.o, s.ms⟩ : Lst) = s
  rw [List.append_nil]
/-! ### the law's own log as a dict -/
section
variable {H : Hp} {od lm lp lp' : Addr} {t o t' o' : List Nat}
theorem owD_text : putK (owD t o lm lp) (Sum.inr (Str.ofString "text")) (.str (S t')) = owD t' o lm lp := rfl
theorem owD_open : putK (owD t o lm lp) (Sum.inr (Str.ofString "open")) (.str (S o')) = owD t o' lm lp := rfl
theorem owD_places : putK (owD t o lm lp) (Sum.inr (Str.ofString "places")) (.ref lp') = owD t o lm lp' := rfl
theorem ow_text (h : H od = some (.dK (owD t o lm lp))) : DGet H od (.str (Str.ofString "text")) (some (sT t)) := DGet.k (k := Sum.inr (Str.ofString "text")) h
theorem ow_open (h : H od = some (.dK (owD t o lm lp))) : DGet H od (.str (Str.ofString "open")) (some (sT o)) := DGet.k (k := Sum.inr (Str.ofString "open")) h
theorem ow_marks (h : H od = some (.dK (owD t o lm lp))) : DGet H od (.str (Str.ofString "marks")) (some (.ref lm)) := DGet.k (k := Sum.inr (Str.ofString "marks")) h
theorem ow_places (h : H od = some (.dK (owD t o lm lp))) : DGet H od (.str (Str.ofString "places")) (some (.ref lp)) := DGet.k (k := Sum.inr (Str.ofString "places")) h
end
/-! ### signs that are none of the four -/
def four : List Nat := [97, 65, 98, 66]
def straysM (l : List Nat) : List Str := ((List.range l.length).filter fun i => !decide (l.getD i 0 ∈ four)).map fun i => S [l.getD i 0]
theorem given_straysM (l : List Nat) : Evl.given l.length (fun i => !decide (l.getD i 0 ∈ four)) (fun i => V.str (S [l.getD i 0])) = (straysM l).map V.str := by
  unfold Evl.given straysM
  rw [List.map_map]
  rfl
theorem straysM_ok {l : List Nat} (h : Chs l) : (straysM l).all PyData.strOk = true := by
  refine List.all_eq_true.mpr fun z hz => ?_
  unfold straysM at hz
  obtain ⟨i, hi, rfl⟩ := List.mem_map.mp hz
  have hi := (List.mem_filter.mp hi).1
  have := h _ (getD_mem (List.mem_range.mp hi))
  simp [PyData.strOk]
  simpa using this
theorem straysM_none (l : List Nat) : (straysM l).isEmpty = l.all fun c => decide (c ∈ four) := by
  by_cases h : ∀ c ∈ l, c ∈ four
  · have e : straysM l = [] := by
      unfold straysM
      rw [List.map_eq_nil_iff, List.filter_eq_nil_iff]
      intro i hi
      have := h _ (getD_mem (List.mem_range.mp hi))
      simpa using this
    rw [e, List.all_eq_true.mpr fun c hc => decide_eq_true (h c hc)]
    rfl
  · rw [show (l.all fun c => decide (c ∈ four)) = false from by
      cases q : l.all fun c => decide (c ∈ four)
      · rfl
      · exact absurd (fun c hc => of_decide_eq_true (List.all_eq_true.mp q c hc)) h]
    cases q : (straysM l).isEmpty
    · rfl
    · refine absurd (fun c hc => ?_) h
      obtain ⟨i, hi, e⟩ := List.getElem_of_mem hc
      have z := List.isEmpty_iff.mp q
      unfold straysM at z
      rw [List.map_eq_nil_iff, List.filter_eq_nil_iff] at z
      have := z i (List.mem_range.mpr hi)
      rw [List.getD_eq_getElem?_getD, List.getElem?_eq_getElem hi] at this
      simpa [e] using this
theorem in_texts_one (c : Nat) : inV (V.str (S [c])) (four.map fun d => V.str ⟨#[d]⟩) = decide (c ∈ four) := by
  have := in_texts (four.map fun d => [d]) [c]
  rw [List.map_map] at this
  have e : decide ([c] ∈ four.map fun d => [d]) = decide (c ∈ four) := decide_eq_decide.mpr (by simp)
  rw [e] at this
  exact this
theorem inV_four (c : Nat) : inV (V.str (S [c])) (four.map fun d => V.str ⟨#[d]⟩) = decide (c ∈ four) := in_texts_one c
theorem NameV.two {N : Addr → Prop} {H : Hp} {x : V} {r : Option (List Nat)} (h : NameV N H x r) : (∃ l, x = sT l ∧ ((r = some l ∧ l ∈ names4) ∨ (r = none ∧ l ∈ namesB))) ∨ (r = none ∧ NotStr H x) := by
  cases h with
  | good l h => exact .inl ⟨l, rfl, .inl ⟨rfl, h⟩⟩
  | bad l h => exact .inl ⟨l, rfl, .inr ⟨rfl, h⟩⟩
  | non => exact .inr ⟨rfl, .inl rfl⟩
  | int => exact .inr ⟨rfl, .inr (.inl ⟨_, rfl⟩)⟩
  | lst q n g => exact .inr ⟨rfl, .inr (.inr (.inr ⟨q, rfl, .inl ⟨_, g⟩⟩))⟩
  | dct q n g => exact .inr ⟨rfl, .inr (.inr (.inr ⟨q, rfl, .inr (.inr ⟨_, g⟩)⟩))⟩
theorem names_apart : ∀ l ∈ namesB, l ∉ names4 := by decide
theorem OwAt.freeL {H H' : Hp} {od lm lp L : Addr} {t o : List Nat} {mk : Mks} (_ : OwAt H od lm lp t o mk) (s : OffS [od, lm] H H') (h1 : ∃ u, H' od = some u) (h2 : ∃ u, H' lm = some u) (hL : H' L = none) : H L = none := by
  cases e : H L with
  | none => rfl
  | some u =>
    obtain ⟨u1, h1⟩ := h1
    obtain ⟨u2, h2⟩ := h2
    have n1 : L ≠ od := fun q => by rw [q, h1] at hL; cases hL
    have n2 : L ≠ lm := fun q => by rw [q, h2] at hL; cases hL
    rw [s _ _ (by simp [n1, n2]) e] at hL
    cases hL
theorem at_mem2 {L : List V} {z : Int} (h0 : 0 ≤ z) (h1 : z < (L.length : Int)) : ∃ y, atI L z = some y ∧ y ∈ L := by
  obtain ⟨n, rfl⟩ : ∃ n : Nat, z = (n : Int) := ⟨z.toNat, by omega⟩
  have hn : n < L.length := by omega
  exact ⟨L[n], atI_nat (List.getElem?_eq_getElem hn), List.getElem_mem _⟩
theorem four_at {v : Int} (h0 : 0 ≤ v) (h1 : v < 4) : ∃ c, atI (Str.ofString "aAbB").cps.toList v = some c ∧ c ∈ four := by
  have e : (Str.ofString "aAbB").cps.toList = four := by decide +kernel
  rw [e]
  obtain ⟨n, rfl⟩ : ∃ n : Nat, v = (n : Int) := ⟨v.toNat, by omega⟩
  have hn : n < four.length := by show n < 4; omega
  exact ⟨four[n], atI_nat (List.getElem?_eq_getElem hn), List.getElem_mem _⟩
theorem free_off {p q : Addr} {H H1 : Hp} (o : Off p H H1) (pl : Pool H1 p) (h : H1 q = none) : H q = none := by
  cases e : H q with
  | none => rfl
  | some u =>
    rw [o _ _ (pl.ne h).symm e] at h
    cases h
theorem pick_two (b : Bool) (x y : V) : atI [x, y] (if b = true then 1 else 0) = some (if b = true then y else x) := by
  cases b
  · exact atI0
  · exact atI1
theorem mul_a61 : MulOk (Str.ofString "a") 61 ∧ Txt.mul (Str.ofString "a") 61 = S (List.replicate 61 97) := by
  refine ⟨⟨by decide, fun _ _ => by show ¬ ((1 : Int) > (2 ^ 63 - 1) / 61); decide, fun _ _ => rfl⟩, by decide +kernel⟩
theorem add_g (l : List Nat) : S l ++ Str.ofString "g" = S (l ++ [103]) := by
  rw [show Str.ofString "g" = S [103] from by decide +kernel, add_S]
theorem add_b (l : List Nat) : S l ++ Str.ofString " " = S (l ++ [32]) := by
  rw [show Str.ofString " " = S [32] from by decide +kernel, add_S]
theorem four_sgns : ∀ c ∈ four, c ∈ sgns := by decide
theorem BackV.w {N : Addr → Prop} {H : Hp} {n : Nat} {x : V} {m : Option Nat} (h : BackV N H n x m) : BkW H n x m.isSome := by
  cases h with
  | good m h1 h2 h3 => exact .inl ⟨_, rfl, (decide_eq_true ⟨by omega, by omega⟩).symm⟩
  | bad i h z => exact .inl ⟨_, rfl, (decide_eq_false h).symm⟩
  | non => exact .inr ⟨.inl rfl, rfl⟩
  | bl b => exact .inr ⟨.inr (.inl ⟨_, rfl⟩), rfl⟩
  | str => exact .inr ⟨.inr (.inr (.inl ⟨_, rfl⟩)), rfl⟩
  | lst q n g => exact .inr ⟨.inr (.inr (.inr ⟨q, rfl, .inl ⟨_, g⟩⟩)), rfl⟩
  | tup q n g => exact .inr ⟨.inr (.inr (.inr ⟨q, rfl, .inr (.inl ⟨_, g⟩)⟩)), rfl⟩
theorem NameV.w {N : Addr → Prop} {H : Hp} {x : V} {r : Option (List Nat)} (h : NameV N H x r) : NmW H x r.isSome := by
  rcases h.two with ⟨l, rfl, ⟨rfl, h4⟩ | ⟨rfl, h4⟩⟩ | ⟨rfl, h4⟩
  · refine .inl ⟨l, rfl, ?_, ?_⟩
    · have : ∀ l ∈ names4, l.length ≤ 1000 := by decide
      exact this l h4
    · have : ∀ l ∈ names4, okName l = true := by decide
      exact (this l h4).symm
  · refine .inl ⟨l, rfl, ?_, ?_⟩
    · have : ∀ l ∈ namesB, l.length ≤ 1000 := by decide
      exact this l h4
    · have : ∀ l ∈ namesB, okName l = false := by decide
      exact (this l h4).symm
  · exact .inr ⟨h4, rfl⟩
theorem DoV.w {N : Addr → Prop} {H : Hp} {x : V} {r : Option (List Nat)} (h : DoV N H x r) : IsRowV H x r.isSome ∧ ∀ l, r = some l → x = sT l := by
  cases h with
  | row l h z => exact ⟨.inl ⟨l, rfl, by omega, (isRow_iff.mpr ⟨by omega, fun c hc => four_sgns c (h c hc)⟩).symm⟩, fun l' e => by injection e with e; rw [e]⟩
  | bad l z hc h =>
    refine ⟨.inl ⟨l, rfl, by omega, ?_⟩, fun l' e => nomatch e⟩
    cases e : isRow l with
    | false => rfl
    | true =>
      obtain ⟨z6, rl⟩ := isRow_iff.mp e
      rcases h with ⟨c, hc, hn⟩ | h
      · exact absurd (rl c hc) hn
      · omega
  | non => exact ⟨.inr ⟨.inl rfl, rfl⟩, fun l' e => nomatch e⟩
  | int => exact ⟨.inr ⟨.inr (.inl ⟨_, rfl⟩), rfl⟩, fun l' e => nomatch e⟩
  | lst q n g => exact ⟨.inr ⟨.inr (.inr (.inr ⟨q, rfl, .inl ⟨_, g⟩⟩)), rfl⟩, fun l' e => nomatch e⟩
  | dct q n g => exact ⟨.inr ⟨.inr (.inr (.inr ⟨q, rfl, .inr (.inr ⟨_, g⟩)⟩)), rfl⟩, fun l' e => nomatch e⟩
theorem one_shown : ∀ k : Nat, k < 1002 → decide (V.str (PyData.int ((k : Int) - 1)).shown = V.str (Str.ofString "1")) = decide ((k : Int) - 1 = 1) := by decide +kernel
theorem BackV.sh {K : PySem.W.Frag} {N : Addr → Prop} {H : Hp} {n : Nat} {x : V} {m : Option Nat} (h : BackV N H n x m) :
    ∃ d b, Dp K H x d ∧ d.showable = true ∧ d.hasDict = false ∧ d.shown.length ≤ sizeLine ∧ d.depth ≤ 60 ∧ decide (V.str d.shown = V.str (Str.ofString "1")) = b ∧ (b = true → x = .int 1) := by
  have num : ∀ i : Int, (i = 10 ^ 30 ∨ (-1 ≤ i ∧ i ≤ 1000)) → ∃ d b, Dp K H (.int i) d ∧ d.showable = true ∧ d.hasDict = false ∧ d.shown.length ≤ sizeLine ∧ d.depth ≤ 60 ∧ decide (V.str d.shown = V.str (Str.ofString "1")) = b ∧ (b = true → V.int i = .int 1) := fun i hi => by
    rcases hi with rfl | ⟨h1, h2⟩
    · exact ⟨.int (10 ^ 30), false, .int _, by decide +kernel, by decide +kernel, by decide +kernel, by decide +kernel, by decide +kernel, fun h => nomatch h⟩
    · have e := one_shown (i + 1).toNat (by omega)
      have e2 : (((i + 1).toNat : Nat) : Int) - 1 = i := by omega
      rw [e2] at e
      have s := sm_int (i := i) (by omega)
      refine ⟨.int i, _, .int _, s.s, s.h, Nat.le_trans (PyData.shown_int_le (by omega)) (by decide), by rw [s.z]; decide, e, fun h => ?_⟩
      rw [of_decide_eq_true h]
  cases h with
  | good m h1 h2 h3 => exact num _ (.inr ⟨by omega, by omega⟩)
  | bad i h z => exact num i z
  | non => exact ⟨.none, false, .non, by decide +kernel, by decide +kernel, by decide +kernel, by decide +kernel, by decide +kernel, fun h => nomatch h⟩
  | bl b => exact ⟨.bool b, false, .bl b, by cases b <;> decide +kernel, by cases b <;> decide +kernel, by cases b <;> decide +kernel, by cases b <;> decide +kernel, by cases b <;> decide +kernel, fun h => nomatch h⟩
  | str => exact ⟨.str (S [49]), false, .str _, by decide +kernel, by decide +kernel, by decide +kernel, by decide +kernel, by decide +kernel, fun h => nomatch h⟩
  | lst q n g => exact ⟨.list [.int 1], false, .lst (Evl.sq_of g) (.cons (.int _) .nil), by decide +kernel, by decide +kernel, by decide +kernel, by decide +kernel, by decide +kernel, fun h => nomatch h⟩
  | tup q n g => exact ⟨.tuple [.int 1], false, .tup (SqT.of g) (.cons (.int _) .nil), by decide +kernel, by decide +kernel, by decide +kernel, by decide +kernel, by decide +kernel, fun h => nomatch h⟩
theorem LgF.freeL {C : Addr} {H H' : Hp} {a kd md L : Addr} {t' o' e' : List Nat} {ks' : List (List Nat)} {mk' : Mks} (g : LgF C H' a kd md t' o' e' ks' mk') (s : OffS [a, kd, md] H H') (hL : H' L = none) : H L = none := by
  cases e : H L with
  | none => rfl
  | some u =>
    obtain ⟨dx, g1⟩ := g.ob
    have n1 : L ≠ a := fun q => by rw [q, g1] at hL; cases hL
    have n2 : L ≠ kd := fun q => by rw [q, g.kn] at hL; cases hL
    have n3 : L ≠ md := fun q => by rw [q, g.mr] at hL; cases hL
    rw [s _ _ (by simp [n1, n2, n3]) e] at hL
    cases hL
/-! ### sorted texts -/
theorem rs_pw : ∀ (l : List Str) (p : Str), PyProof.Rows.risingS p l = true → (∀ x ∈ l, p.cps.toList ≤ x.cps.toList) ∧ l.Pairwise (fun a b => a.cps.toList ≤ b.cps.toList)
  | [], _, _ => ⟨(fun _ h => nomatch h), List.Pairwise.nil⟩
  | x :: r, p, h => by
    rw [PyProof.Rows.risingS, Bool.and_eq_true] at h
    obtain ⟨h1, h2⟩ := h
    obtain ⟨a, b⟩ := rs_pw r x h2
    have h3 : p.cps.toList ≤ x.cps.toList := by
      rw [PyProof.Rows.ltCps_eq, Bool.not_eq_true'] at h1
      exact List.not_lt.mp (of_decide_eq_false h1)
    refine ⟨fun y hy => ?_, List.pairwise_cons.mpr ⟨a, b⟩⟩
    rcases List.mem_cons.mp hy with rfl | hy
    · exact h3
    · exact List.le_trans h3 (a y hy)
theorem st_pw : ∀ (l : List Str), PyProof.Rows.sortedS l = true → l.Pairwise (fun a b => a.cps.toList ≤ b.cps.toList)
  | [], _ => List.Pairwise.nil
  | x :: r, h => List.pairwise_cons.mpr (rs_pw r x h)
theorem st_uniq {a b ks : List Str} (pa : a.Perm ks) (pb : b.Perm ks) (ha : PyProof.Rows.sortedS a = true) (hb : PyProof.Rows.sortedS b = true) : a = b := by
  refine List.Perm.eq_of_pairwise (fun x y _ _ h1 h2 => ?_) (st_pw a ha) (st_pw b hb) (pa.trans pb.symm)
  have e : x.cps.toList = y.cps.toList := List.le_antisymm h1 h2
  obtain ⟨⟨cx⟩⟩ := x
  obtain ⟨⟨cy⟩⟩ := y
  cases e
  rfl

/-! ### answers as data -/
def RpOk (K : PySem.W.Frag) (H : Hp) (x : V) (d : PyData) : Prop := (Dp K H x d ∧ d.hasDict = false) ∨ ∃ (a b : Addr) (w : Str), x = .ref a ∧ SqL K H a [.str w, .ref b] ∧ H b = some (.dK []) ∧ d = .list [.str w, .dict []]
structure AnsD (K : PySem.W.Frag) (H : Hp) (ls : List V) (D : PyData) : Prop where
  at_ : ∀ L, H L = some (.lst ls) → RpOk K H (.ref L) D
  s : D.showable = true
  z : D.shown.length ≤ sizeLine
  h : D.depth ≤ 60
theorem AnsD.of {K : PySem.W.Frag} {H : Hp} {ls : List V} {ds : List PyData} (h : DpAll K H ls ds) (s : Shown (.list ds)) : AnsD K H ls (.list ds) := ⟨fun L g => .inl ⟨.lst (SqL.of g) h, s.2.1⟩, s.1, s.2.2.1, s.2.2.2⟩
theorem word_sm : ∀ w ∈ ["row", "told", "full", "back", "mark"], Sm (.str (Str.ofString w)) := by
  have : ∀ w ∈ ["row", "told", "full", "back", "mark"], (PyData.str (Str.ofString w)).showable = true ∧ (PyData.str (Str.ofString w)).hasDict = false ∧ (PyData.str (Str.ofString w)).leavesShort 13 = true ∧ (PyData.str (Str.ofString w)).bulk ≤ 9 ∧ (PyData.str (Str.ofString w)).depth = 0 := by decide +kernel
  intro w h
  obtain ⟨a, b, c, d, e⟩ := this w h
  exact ⟨a, b, c, d, e⟩
theorem shown_num {w : String} (h : w ∈ ["row", "told", "full", "back", "mark"]) {i : Int} (hi : i.natAbs < 10 ^ 12) : Shown (.list [.str (Str.ofString w), .int i]) := sm_list (mem_two (word_sm w h) (sm_int hi)) (by show 2 ≤ 10; decide)
theorem shown_name : ∀ l ∈ namesB ++ names4, (PyData.list [.str (Str.ofString "mark"), .str (S l)]).showable = true ∧ (PyData.list [.str (Str.ofString "mark"), .str (S l)]).hasDict = false ∧ (PyData.list [.str (Str.ofString "mark"), .str (S l)]).shown.length ≤ sizeLine ∧ (PyData.list [.str (Str.ofString "mark"), .str (S l)]).depth ≤ 60 := by decide +kernel
theorem mark_data {K : PySem.W.Frag} {N : Addr → Prop} {H : Hp} {x : V} {r : Option (List Nat)} (h : NameV N H x r) : ∃ D, AnsD K H [wL "mark", x] D := by
  have nm : ∀ l, l ∈ namesB ++ names4 → ∃ D, AnsD K H [wL "mark", sT l] D := fun l hl => ⟨_, AnsD.of (.cons (.str _) (.cons (.str _) .nil)) (shown_name l hl)⟩
  cases h with
  | good l h => exact nm l (List.mem_append_right _ h)
  | bad l h => exact nm l (List.mem_append_left _ h)
  | non => exact ⟨_, AnsD.of (ds := [.str (Str.ofString "mark"), .none]) (.cons (.str _) (.cons .non .nil)) (sm_list (mem_two (word_sm "mark" (by decide)) sm_none) (by show 2 ≤ 10; decide))⟩
  | int => exact ⟨_, AnsD.of (.cons (.str _) (.cons (.int _) .nil)) (shown_num (by decide) (by decide))⟩
  | lst q n g => exact ⟨_, AnsD.of (ds := [.str (Str.ofString "mark"), .list [.str (Str.ofString "a")]]) (.cons (.str _) (.cons (.lst (SqL.of g) (.cons (.str _) .nil)) .nil)) ⟨by decide +kernel, by decide +kernel, by decide +kernel, by decide +kernel⟩⟩
  | dct q n g => exact ⟨.list [.str (Str.ofString "mark"), .dict []], fun L hL => .inr ⟨L, q, _, rfl, SqL.of hL, g, rfl⟩, by decide +kernel, by decide +kernel, by decide +kernel⟩
theorem back_data {K : PySem.W.Frag} {N : Addr → Prop} {H : Hp} {n : Nat} {x : V} {m : Option Nat} (h : BackV N H n x m) : ∃ D, AnsD K H [wL "back", x] D := by
  cases h with
  | good m h1 h2 h3 => exact ⟨_, AnsD.of (.cons (.str _) (.cons (.int _) .nil)) (shown_num (by decide) (by omega))⟩
  | bad i h z =>
    rcases z with rfl | ⟨z1, z2⟩
    · exact ⟨_, AnsD.of (ds := [.str (Str.ofString "back"), .int (10 ^ 30)]) (.cons (.str _) (.cons (.int _) .nil)) ⟨by decide +kernel, by decide +kernel, by decide +kernel, by decide +kernel⟩⟩
    · exact ⟨_, AnsD.of (.cons (.str _) (.cons (.int _) .nil)) (shown_num (by decide) (by omega))⟩
  | non => exact ⟨_, AnsD.of (ds := [.str (Str.ofString "back"), .none]) (.cons (.str _) (.cons .non .nil)) (sm_list (mem_two (word_sm "back" (by decide)) sm_none) (by show 2 ≤ 10; decide))⟩
  | bl b => exact ⟨_, AnsD.of (ds := [.str (Str.ofString "back"), .bool b]) (.cons (.str _) (.cons (.bl _) .nil)) (sm_list (mem_two (word_sm "back" (by decide)) (sm_bool b)) (by show 2 ≤ 10; decide))⟩
  | str => exact ⟨_, AnsD.of (ds := [.str (Str.ofString "back"), .str (S [49])]) (.cons (.str _) (.cons (.str _) .nil)) ⟨by decide +kernel, by decide +kernel, by decide +kernel, by decide +kernel⟩⟩
  | lst q n g => exact ⟨_, AnsD.of (ds := [.str (Str.ofString "back"), .list [.int 1]]) (.cons (.str _) (.cons (.lst (SqL.of g) (.cons (.int _) .nil)) .nil)) ⟨by decide +kernel, by decide +kernel, by decide +kernel, by decide +kernel⟩⟩
  | tup q n g => exact ⟨_, AnsD.of (ds := [.str (Str.ofString "back"), .tuple [.int 1]]) (.cons (.str _) (.cons (.tup (SqT.of g) (.cons (.int _) .nil)) .nil)) ⟨by decide +kernel, by decide +kernel, by decide +kernel, by decide +kernel⟩⟩
theorem ansL_data {K : PySem.W.Frag} {N : Addr → Prop} {H : Hp} {s : Lst} {k : Nat} {d x : V} {rq : Rq} (i : LgI s k) (hk : k ≤ 100) (h : AskL N H s.o.length d x rq) : ∃ D, AnsD K H (ansL s x rq).1 D := by
  have hz := i.z
  have num : ∀ (w : String) (j : Int), w ∈ ["row", "told", "full", "back", "mark"] → j.natAbs < 10 ^ 12 → ∃ D, AnsD K H [wL w, .int j] D := fun w j hw hj => ⟨_, AnsD.of (.cons (.str _) (.cons (.int _) .nil)) (shown_num hw hj)⟩
  cases h with
  | row hx =>
    have rw' : ∃ D, AnsD K H [wL "row"] D := ⟨_, AnsD.of (ds := [.str (Str.ofString "row")]) (.cons (.str _) .nil) ⟨by decide +kernel, by decide +kernel, by decide +kernel, by decide +kernel⟩⟩
    cases hx with
    | row l hl zl =>
      show ∃ D, AnsD K H (ansR s l).1 D
      unfold ansR
      split
      · exact num _ _ (by decide) (by rw [List.length_append]; omega)
      · have zg := WalkM.gone_length (s.t ++ l)
        rw [List.length_append] at zg
        exact num _ _ (by decide) (by omega)
    | _ => exact rw'
  | back hx =>
    cases hx with
    | good m h1 h2 h3 =>
      refine num _ _ (by decide) ?_
      have : (bakL s m).t.length = s.t.length + m := by show (s.t ++ _).length = _; rw [List.length_append, turn_drop_len _ _ h2]
      omega
    | bad i h z => exact back_data (.bad (N := N) i h z)
    | non => exact back_data (.non (N := N) (n := 0))
    | bl b => exact back_data (.bl (N := N) (n := 0) b)
    | str => exact back_data (.str (N := N) (n := 0))
    | lst q n g => exact back_data (.lst (n := 0) q n g)
    | tup q n g => exact back_data (.tup (n := 0) q n g)
  | mark hx =>
    rename_i r
    cases r with
    | none => exact mark_data hx
    | some l => exact ⟨_, AnsD.of (ds := [.str (Str.ofString "told"), .none]) (.cons (.str _) (.cons .non .nil)) (sm_list (mem_two (word_sm "told" (by decide)) sm_none) (by show 2 ≤ 10; decide))⟩
  | gone hx =>
    rename_i r
    cases r with
    | none => exact mark_data hx
    | some l =>
      show ∃ D, AnsD K H (ansG s x l).1 D
      unfold ansG
      split
      · rename_i v e
        obtain ⟨j, ev, hj⟩ := i.mi.val e
        injection ev with ev
        exact num _ _ (by decide) (by omega)
      · exact mark_data hx
/-! ### the law's state -/
structure Lw (C : Addr) (H0 H : Hp) (a kd md od lm lp : Addr) (s : Lst) (k : Nat) : Prop where
  g : LgAt C H a kd md s.t s.o s.ms
  w : OwAt H od lm lp s.t s.o s.ms
  i : LgI s k
  s0 : Same H0 H
  na : a ∉ [od, lm, lp]
  nk : kd ∉ [od, lm, lp]
  nm : md ∉ [od, lm, lp]
  fr : ∀ b ∈ [a, kd, md, od, lm], H0 b = none
section
variable {C : Addr} {H0 H H' H1 : Hp} {a kd md od lm lp lp' : Addr} {s s' : Lst} {k : Nat}
theorem Lw.same (h : Lw C H0 H a kd md od lm lp s k) (t : Same H H') : Lw C H0 H' a kd md od lm lp s k := ⟨h.g.same t, h.w.same t, h.i, Same.trans h.s0 t, h.na, h.nk, h.nm, h.fr⟩
theorem Lw.some (h : Lw C H0 H a kd md od lm lp s k) : ∀ b ∈ [a, kd, md, od, lm, lp], H b ≠ none := fun b hb e => by
  obtain ⟨dx, g1⟩ := h.g.ob
  have g2 := h.g.kn
  have g3 := h.g.mr
  have g4 := h.w.ow
  have g5 := h.w.mr
  have g6 := h.w.pl
  simp only [List.mem_cons, List.not_mem_nil, or_false] at hb
  rcases hb with rfl | rfl | rfl | rfl | rfl | rfl <;> simp_all
theorem Lw.off {p : Addr} (h : Lw C H0 H a kd md od lm lp s k) (hp : H0 p = none) (np : p ∉ [a, kd, md, od, lm, lp]) (t : Off p H H') : Lw C H0 H' a kd md od lm lp s k := by
  have o : OffS [p] H H' := fun b o hb e => t b o (by simpa using hb) e
  simp only [List.mem_cons, List.not_mem_nil, or_false, not_or] at np
  obtain ⟨n1, n2, n3, n4, n5, n6⟩ := np
  exact ⟨h.g.off o (by simpa using Ne.symm n1) (by simpa using Ne.symm n2) (by simpa using Ne.symm n3), h.w.off o (by simpa using Ne.symm n4) (by simpa using Ne.symm n5) (by simpa using Ne.symm n6), h.i, fun b o' e => t b o' (ne_of_none e hp) (h.s0 b o' e), h.na, h.nk, h.nm, h.fr⟩
theorem Lw.due (h : Lw C H0 H a kd md od lm lp s k) (o : OffS [od, lm] H H1) (hl : lp' = lp ∨ H lp' = none) (w1 : OwAt H1 od lm lp' s'.t s'.o s'.ms) :
    LgAt C H1 a kd md s.t s.o s.ms ∧ ∀ H2, OffS [a, kd, md] H1 H2 → LgAt C H2 a kd md s'.t s'.o s'.ms → LgI s' (k + 1) → Lw C H0 H2 a kd md od lm lp' s' (k + 1) := by
  have na := h.na
  have nk := h.nk
  have nm := h.nm
  have sm := h.some
  simp only [List.mem_cons, List.not_mem_nil, or_false, not_or] at na nk nm
  have nl : ∀ b ∈ [a, kd, md], b ≠ lp' := fun b hb e => by
    rcases hl with rfl | hl
    · simp only [List.mem_cons, List.not_mem_nil, or_false] at hb
      rcases hb with rfl | rfl | rfl
      · exact na.2.2 e
      · exact nk.2.2 e
      · exact nm.2.2 e
    · refine sm b ?_ (e ▸ hl)
      simp only [List.mem_cons, List.not_mem_nil, or_false] at hb ⊢
      rcases hb with rfl | rfl | rfl <;> simp
  have l1 := nl a (by simp)
  have l2 := nl kd (by simp)
  have l3 := nl md (by simp)
  refine ⟨h.g.off o (by simp [na]) (by simp [nk]) (by simp [nm]), fun H2 o2 g2 i2 => ⟨g2, w1.off o2 ?_ ?_ ?_, i2, fun b u e => ?_, ?_, ?_, ?_, h.fr⟩⟩
  · simp [Ne.symm na.1, Ne.symm nk.1, Ne.symm nm.1]
  · simp [Ne.symm na.2.1, Ne.symm nk.2.1, Ne.symm nm.2.1]
  · simp [Ne.symm l1, Ne.symm l2, Ne.symm l3]
  · have fr := h.fr
    have nb : ∀ c ∈ [a, kd, md, od, lm], b ≠ c := fun c hc q => by rw [q, fr c hc] at e; cases e
    refine o2 _ _ ?_ (o _ _ ?_ (h.s0 _ _ e))
    · simp [nb a (by simp), nb kd (by simp), nb md (by simp)]
    · simp [nb od (by simp), nb lm (by simp)]
  · simp [na, l1]
  · simp [nk, l2]
  · simp [nm, l3]
end
/-! ### shortest rows: the way through a tree -/
def lcp : List Nat → List Nat → Nat
  | a :: r, b :: s => if a = b then lcp r s + 1 else 0
  | _, _ => 0
theorem lcp_snoc (h : List Nat) (c : Nat) (e : List Nat) : lcp (h ++ [c]) e = if (h ++ [c]).isPrefixOf e then h.length + 1 else lcp h e := by
  induction h generalizing e with
  | nil =>
    cases e with
    | nil => rfl
    | cons b s =>
      by_cases q : c = b
      · subst q; simp [lcp]
      · simp [lcp, q]
  | cons a r ih =>
    cases e with
    | nil => rfl
    | cons b s =>
      by_cases q : a = b
      · subst q
        simp only [List.cons_append, lcp, if_true, ih, List.isPrefixOf_cons₂, beq_self_eq_true, Bool.true_and]
        split <;> simp
      · simp [lcp, q]
theorem lcp_le (h e : List Nat) : lcp h e ≤ h.length ∧ lcp h e ≤ e.length := by
  induction h generalizing e with
  | nil => simp [lcp]
  | cons a r ih =>
    cases e with
    | nil => simp [lcp]
    | cons b s =>
      by_cases q : a = b
      · have := ih s
        simp [lcp, q]
        omega
      · simp [lcp, q]
theorem lcp_pre (h e : List Nat) : lcp h e = h.length ↔ h.isPrefixOf e = true := by
  induction h generalizing e with
  | nil => simp [lcp]
  | cons a r ih =>
    cases e with
    | nil => simp [lcp]
    | cons b s =>
      by_cases q : a = b
      · simp [lcp, q, ih]
      · simp [lcp, q]
theorem pre_iff {h e : List Nat} : h.isPrefixOf e = true ↔ h <+: e := List.isPrefixOf_iff_prefix
/-- signs in their order -/
def sgS (x : List Nat) : List Nat := (srt (x.map fun c => [c])).map (fun q => q.headD 0)
theorem sgS_perm (x : List Nat) : (sgS x).Perm x := by
  have h := (WalkM.srt_perm (x.map fun c => [c])).map (fun p => p.headD 0)
  rw [List.map_map] at h
  have e : x.map ((fun p : List Nat => p.headD 0) ∘ fun c => [c]) = x := by
    conv => rhs; rw [← List.map_id x]
    rfl
  rwa [e] at h
theorem sgS_map (x : List Nat) : (sgS x).map (fun c => [c]) = srt (x.map fun c => [c]) := by
  unfold sgS
  rw [List.map_map]
  refine (List.map_congr_left fun p hp => ?_).trans (List.map_id _)
  obtain ⟨c, _, rfl⟩ := List.mem_map.mp (WalkM.srt_mem.mp hp)
  rfl
def rawSh (ps : List (List Nat)) (e p : List Nat) : List Nat := (ps.filter (offE e p)).map fun q => q.getLastD 0
/-- the signs off the way to the end, at a place -/
def lft (ps : List (List Nat)) (e p : List Nat) : List Nat := sgS (rawSh ps e p)
theorem off_iff {e p q : List Nat} : offE e p q = true ↔ ∃ c, q = p ++ [c] ∧ ¬ q <+: e := by
  unfold offE
  simp only [Bool.and_eq_true, decide_eq_true_eq, Bool.not_eq_true']
  constructor
  · rintro ⟨⟨h1, h2⟩, h3⟩
    obtain ⟨m, c, rfl⟩ := exists_snoc h1
    rw [List.dropLast_concat] at h2
    subst h2
    exact ⟨c, rfl, fun z => by rw [pre_iff.mpr z] at h3; cases h3⟩
  · rintro ⟨c, rfl, h⟩
    refine ⟨⟨by simp, by simp⟩, ?_⟩
    cases z : (p ++ [c]).isPrefixOf e with
    | false => rfl
    | true => exact absurd (pre_iff.mp z) h
theorem mem_lft {ps : List (List Nat)} {e p : List Nat} {c : Nat} : c ∈ lft ps e p ↔ p ++ [c] ∈ ps ∧ ¬ (p ++ [c]) <+: e := by
  unfold lft
  rw [(sgS_perm _).mem_iff]
  unfold rawSh
  rw [List.mem_map]
  constructor
  · rintro ⟨q, hq, rfl⟩
    obtain ⟨h1, h2⟩ := List.mem_filter.mp hq
    obtain ⟨c, rfl, h3⟩ := off_iff.mp h2
    rw [show (p ++ [c]).getLastD 0 = c by simp]
    exact ⟨h1, h3⟩
  · rintro ⟨h1, h2⟩
    exact ⟨p ++ [c], List.mem_filter.mpr ⟨h1, off_iff.mpr ⟨c, rfl, h2⟩⟩, by simp⟩
theorem lft_nodup {ps : List (List Nat)} (nd : ps.Nodup) (e p : List Nat) : (lft ps e p).Nodup := by
  unfold lft
  rw [(sgS_perm _).nodup_iff]
  unfold rawSh
  refine List.pairwise_map.mpr ((List.Pairwise.filter (offE e p) nd).imp_of_mem fun {a b} ha hb hne heq => hne ?_)
  obtain ⟨c, rfl, _⟩ := off_iff.mp (List.mem_filter.mp ha).2
  obtain ⟨d, rfl, _⟩ := off_iff.mp (List.mem_filter.mp hb).2
  have : c = d := by simpa using heq
  rw [this]
theorem lft_len (ps : List (List Nat)) (e p : List Nat) : (lft ps e p).length = cnt ps e p := by
  unfold lft
  rw [(sgS_perm _).length_eq]
  unfold rawSh cnt
  rw [List.length_map]
/-- where one stands, what is left, and the numbers -/
structure Sh where
  h : List Nat
  g : List Nat → List Nat
  many : Nat
  left : Nat
  f : List Nat
def homeS (e h : List Nat) : List Nat := if h = e then [] else if h.isPrefixOf e then [e.getD h.length 0] else [con (h.getLastD 0)]
def chS (e : List Nat) (s : Sh) : List Nat := if s.g s.h = [] then homeS e s.h else s.g s.h
def atS (e : List Nat) (s : Sh) : Nat := s.left / (s.many / (chS e s).length)
def cS (e : List Nat) (s : Sh) : Nat := (chS e s).getD (atS e s) 0
def stepS (e : List Nat) (s : Sh) : Sh := ⟨WalkM.on s.h (cS e s), setF s.g s.h ((s.g s.h).filter fun c => decide (c ≠ cS e s)), s.many / (chS e s).length, s.left % (s.many / (chS e s).length), s.f ++ [cS e s]⟩
def runS (e : List Nat) : Nat → Sh → Sh
  | 0, s => s
  | n + 1, s => stepS e (runS e n s)
def initS (ps : List (List Nat)) (e : List Nat) (n : Nat) : Sh := ⟨[], lft ps e, ways (fun p => (lft ps e p).length) ps, n, []⟩
def lenS (ps : List (List Nat)) (e : List Nat) : Nat := 2 * (ps.length - 1) - e.length
/-- the shortest row of a number -/
def shortR (ps : List (List Nat)) (e : List Nat) (n : Nat) : List Nat := (runS e (lenS ps e) (initS ps e n)).f
/-- how many places off the way to the end have not been seen -/
def unseen (ps : List (List Nat)) (e : List Nat) (vs : List (List Nat)) : Nat := (ps.filter fun q => decide (q ∉ vs) && !q.isPrefixOf e).length
structure InvS (ps : List (List Nat)) (e : List Nat) (s : Sh) (i : Nat) : Prop where
  rf : Row s.f
  hp : RowM.plain s.f = s.h
  vs : ∀ p ∈ gone s.f, p ∈ ps
  gl : ∀ p ∈ ps, s.g p = (lft ps e p).filter fun c => decide (p ++ [c] ∉ gone s.f)
  pi : ∀ p ∈ gone s.f, (¬ p <+: s.h ∨ ∃ c, (p ++ [c]) <+: e ∧ (p ++ [c]) <+: s.h) → s.g p = []
  ln : s.f.length = i
  phi : i + 2 * unseen ps e (gone s.f) + (s.h.length + e.length - 2 * lcp s.h e) = lenS ps e
  mn : s.many = ways (fun p => (s.g p).length) ps
  lt : s.left < s.many
theorem fct_pos : ∀ n, 0 < fct n
  | 0 => by decide
  | n + 1 => Nat.mul_pos (fct_pos n) (Nat.succ_pos n)
theorem ways_from (f : List Nat → Nat) (qs : List (List Nat)) (a : Nat) : qs.foldl (fun a p => a * fct (f p)) a = a * ways f qs := by
  unfold ways
  induction qs generalizing a with
  | nil => simp
  | cons q qs ih =>
    rw [List.foldl_cons, List.foldl_cons, ih, ih (1 * fct (f q)), Nat.one_mul, Nat.mul_assoc]
theorem ways_cons (f : List Nat → Nat) (q : List Nat) (qs : List (List Nat)) : ways f (q :: qs) = fct (f q) * ways f qs := by
  show (qs.foldl (fun a p => a * fct (f p)) (1 * fct (f q))) = _
  rw [ways_from, Nat.one_mul]
theorem ways_pos (f : List Nat → Nat) : ∀ qs : List (List Nat), 0 < ways f qs
  | [] => Nat.one_pos
  | q :: qs => by rw [ways_cons]; exact Nat.mul_pos (fct_pos _) (ways_pos f qs)
/-- one fewer at one place -/
theorem ways_dec {f g : List Nat → Nat} {p : List Nat} : ∀ {qs : List (List Nat)}, qs.Nodup → p ∈ qs → f p = g p + 1 → (∀ q ∈ qs, q ≠ p → f q = g q) → ways f qs = ways g qs * f p
  | q :: qs, nd, hp, h1, h2 => by
    obtain ⟨n1, n2⟩ := List.nodup_cons.mp nd
    rw [ways_cons, ways_cons]
    by_cases z : q = p
    · subst z
      have : ways f qs = ways g qs := ways_congr fun r hr => h2 r (List.mem_cons_of_mem _ hr) fun e => n1 (e ▸ hr)
      rw [this, h1, fct]
      simp only [Nat.mul_assoc, Nat.mul_comm, Nat.mul_left_comm]
    · rw [ways_dec n2 ((List.mem_cons.mp hp).resolve_left fun e => z e.symm) h1 fun r hr hn => h2 r (List.mem_cons_of_mem _ hr) hn, h2 q List.mem_cons_self z, Nat.mul_assoc]
theorem prefix_split {p h : List Nat} (hp : p <+: h) (ne : p ≠ h) : ∃ c r, h = p ++ c :: r := by
  obtain ⟨r, rfl⟩ := hp
  cases r with
  | nil => simp at ne
  | cons c r => exact ⟨c, r, rfl⟩
theorem prefix_snoc {p h : List Nat} {c : Nat} : p <+: h ++ [c] ↔ p <+: h ∨ p = h ++ [c] := by
  rw [List.prefix_concat_iff]
  exact Or.comm
theorem tree_pre {ts : List (List Nat)} (cl : ∀ p ∈ ts, p ≠ [] → p.dropLast ∈ ts) {p q : List Nat} (hq : q ∈ ts) (h : p <+: q) : p ∈ ts := by
  obtain ⟨r, rfl⟩ := h
  revert hq
  refine WalkM.snoc_ind (P := fun r => p ++ r ∈ ts → p ∈ ts) (fun h => by simpa using h) (fun l c ih h => ih ?_) r
  have := cl _ h (by simp)
  rwa [← List.append_assoc, List.dropLast_concat] at this
theorem unseen_same {ps : List (List Nat)} {e : List Nat} {vs vs' : List (List Nat)} (h : ∀ q ∈ ps, ¬ q <+: e → (q ∈ vs ↔ q ∈ vs')) : unseen ps e vs = unseen ps e vs' := by
  unfold unseen
  congr 1
  refine List.filter_congr fun q hq => ?_
  by_cases z : q <+: e
  · rw [pre_iff.mpr z]; simp
  · rw [decide_eq_decide.mpr (not_congr (h q hq z))]
theorem filter_one {α : Type} [DecidableEq α] {P Q : α → Bool} {x : α} : ∀ {ps : List α}, ps.Nodup → x ∈ ps → P x = true → Q x = false → (∀ q ∈ ps, q ≠ x → P q = Q q) → (ps.filter P).length = (ps.filter Q).length + 1
  | q :: qs, nd, hx, h1, h2, h3 => by
    obtain ⟨n1, n2⟩ := List.nodup_cons.mp nd
    by_cases z : q = x
    · subst z
      rw [List.filter_cons, List.filter_cons, if_pos h1, h2, if_neg (by decide), List.length_cons]
      congr 2
      exact List.filter_congr fun r hr => h3 r (List.mem_cons_of_mem _ hr) fun e => n1 (e ▸ hr)
    · have ih := filter_one n2 ((List.mem_cons.mp hx).resolve_left fun e => z e.symm) h1 h2 fun r hr hn => h3 r (List.mem_cons_of_mem _ hr) hn
      rw [List.filter_cons, List.filter_cons, h3 q List.mem_cons_self z]
      split
      · rw [List.length_cons, List.length_cons, ih]
      · exact ih
theorem unseen_one {ps : List (List Nat)} {e x : List Nat} {vs vs' : List (List Nat)} (nd : ps.Nodup) (hx : x ∈ ps) (h1 : x ∉ vs) (h2 : ¬ x <+: e) (h3 : ∀ q, q ∈ vs' ↔ q ∈ vs ∨ q = x) : unseen ps e vs = unseen ps e vs' + 1 := by
  unfold unseen
  refine filter_one nd hx ?_ ?_ fun q hq hn => ?_
  · rw [decide_eq_true h1]
    cases z : x.isPrefixOf e with
    | false => rfl
    | true => exact absurd (pre_iff.mp z) h2
  · rw [decide_eq_false (not_not_intro ((h3 x).mpr (.inr rfl)))]
    rfl
  · have : q ∉ vs ↔ q ∉ vs' := not_congr ⟨fun h => (h3 q).mpr (.inl h), fun h => ((h3 q).mp h).resolve_right hn⟩
    rw [decide_eq_decide.mpr this]
/-- a tree with its end -/
structure TrE (ps : List (List Nat)) (e : List Nat) : Prop where
  t : Tree ps
  n : [] ∈ ps
  e : e ∈ ps
section
variable {ps : List (List Nat)} {e : List Nat} {s : Sh} {i : Nat}
theorem InvS.here (I : InvS ps e s i) : s.h ∈ gone s.f := I.hp ▸ WalkM.end_gone s.f
theorem InvS.pr (I : InvS ps e s i) : WalkM.PRow s.h := I.hp ▸ WalkM.prow_plain I.rf
theorem InvS.goes (I : InvS ps e s i) (c : Nat) : gone (s.f ++ [c]) = addK (gone s.f) (WalkM.on s.h c) := by rw [WalkM.gone_snoc, I.hp]
theorem InvS.gcl (I : InvS ps e s i) : ∀ p ∈ gone s.f, p ≠ [] → p.dropLast ∈ gone s.f := (WalkM.tree_gone I.rf).cl
theorem InvS.all (I : InvS ps e s i) (T : TrE ps e) (h1 : s.h = e) (h2 : s.g s.h = []) : ∀ p ∈ ps, p ∈ gone s.f := by
  intro p
  refine WalkM.snoc_ind (P := fun p => p ∈ ps → p ∈ gone s.f) (fun _ => WalkM.nil_gone _) (fun p c ih hp => ?_) p
  have hp0 : p ∈ ps := by
    have := T.t.cl _ hp (by simp)
    rwa [List.dropLast_concat] at this
  have ih := ih hp0
  refine Classical.byContradiction fun hn => ?_
  have npe : ¬ (p ++ [c]) <+: e := fun z => hn (tree_pre I.gcl (h1 ▸ I.here) z)
  have hc : c ∈ s.g p := by
    rw [I.gl p hp0]
    exact List.mem_filter.mpr ⟨mem_lft.mpr ⟨hp, npe⟩, decide_eq_true hn⟩
  have no : s.g p = [] → False := fun z => by rw [z] at hc; cases hc
  by_cases q : p <+: s.h
  · by_cases q2 : p = s.h
    · exact no (q2 ▸ h2)
    · obtain ⟨d, r, hd⟩ := prefix_split q q2
      have : (p ++ [d]) <+: s.h := ⟨r, by rw [hd]; simp⟩
      exact no (I.pi p ih (.inr ⟨d, h1 ▸ this, this⟩))
  · exact no (I.pi p ih (.inl q))
theorem unseen_zero {vs : List (List Nat)} (h : ∀ p ∈ ps, p ∈ vs) : unseen ps e vs = 0 := by
  unfold unseen
  rw [List.length_eq_zero_iff, List.filter_eq_nil_iff]
  intro q hq
  rw [decide_eq_false (not_not_intro (h q hq))]
  simp
theorem InvS.open (I : InvS ps e s i) (T : TrE ps e) (hi : i < lenS ps e) : s.g s.h = [] → s.h ≠ e := fun h2 h1 => by
  have h3 := I.phi
  have z := unseen_zero (e := e) (I.all T h1 h2)
  have z2 := (lcp_pre s.h e).mpr (pre_iff.mpr (h1 ▸ List.prefix_refl _))
  have z3 : s.h.length = e.length := by rw [h1]
  rw [z] at h3
  omega
/-- down a step off the way -/
theorem InvS.down (I : InvS ps e s i) (T : TrE ps e) (ne : s.g s.h ≠ []) : atS e s < (chS e s).length ∧ InvS ps e (stepS e s) (i + 1) := by
  have hh := I.vs _ I.here
  have ec : chS e s = s.g s.h := by unfold chS; rw [if_neg ne]
  have gl := I.gl _ hh
  have ndg : (s.g s.h).Nodup := by rw [gl]; exact List.Pairwise.filter _ (lft_nodup T.t.nd e s.h)
  have L1 : 1 ≤ (s.g s.h).length := List.length_pos_iff.mpr ne
  have dec : ways (fun p => (s.g p).length) ps = ways (fun p => if p = s.h then (s.g s.h).length - 1 else (s.g p).length) ps * (s.g s.h).length :=
    ways_dec (f := fun p => (s.g p).length) T.t.nd hh (by show _ = (if s.h = s.h then _ else _) + 1; rw [if_pos rfl]; omega) fun q _ hn => by show _ = if q = s.h then _ else _; rw [if_neg hn]
  have em : s.many / (chS e s).length = ways (fun p => if p = s.h then (s.g s.h).length - 1 else (s.g p).length) ps := by
    rw [ec, I.mn, dec, Nat.mul_div_cancel _ L1]
  have mp := ways_pos (fun p => if p = s.h then (s.g s.h).length - 1 else (s.g p).length) ps
  have at1 : atS e s < (chS e s).length := by
    unfold atS
    rw [em, ec]
    refine (Nat.div_lt_iff_lt_mul mp).mpr ?_
    rw [Nat.mul_comm, ← dec, ← I.mn]
    exact I.lt
  refine ⟨at1, ?_⟩
  have hc : cS e s ∈ s.g s.h := by
    unfold cS
    rw [ec] at at1 ⊢
    rw [List.getD_eq_getElem?_getD, List.getElem?_eq_getElem at1]
    exact List.getElem_mem _
  generalize hcc : cS e s = c at hc
  have hc2 := hc
  rw [gl] at hc2
  obtain ⟨h1, h2⟩ := List.mem_filter.mp hc2
  obtain ⟨h3, h4⟩ := mem_lft.mp h1
  have h2 := of_decide_eq_true h2
  have on1 : WalkM.on s.h c = s.h ++ [c] := by rw [← WalkM.on_plain c I.pr, WalkM.plain_prow (T.t.pr _ h3)]
  have sc : c ∈ sgns := (T.t.pr _ h3).1 c (by simp)
  have eg : gone (s.f ++ [c]) = gone s.f ++ [s.h ++ [c]] := by rw [I.goes, on1]; unfold addK; rw [if_neg h2]
  have es : stepS e s = ⟨s.h ++ [c], setF s.g s.h ((s.g s.h).filter fun d => decide (d ≠ c)), s.many / (chS e s).length, s.left % (s.many / (chS e s).length), s.f ++ [c]⟩ := by unfold stepS; rw [hcc, on1]
  rw [es, em]
  have lf : ((s.g s.h).filter fun d => decide (d ≠ c)).length = (s.g s.h).length - 1 := by
    have := filter_one (P := fun _ => true) (Q := fun d => decide (d ≠ c)) ndg hc rfl (decide_eq_false (not_not_intro rfl)) fun q _ hn => (decide_eq_true hn).symm
    rw [List.filter_eq_self.mpr fun _ _ => rfl] at this
    omega
  have mem' : ∀ q, q ∈ gone (s.f ++ [c]) ↔ q ∈ gone s.f ∨ q = s.h ++ [c] := fun q => by rw [eg, List.mem_append, List.mem_singleton]
  refine ⟨row_snoc I.rf sc, by rw [WalkM.plain_snoc, I.hp, on1], fun p hp => ?_, fun p hp => ?_, fun p hp hq => ?_, by rw [List.length_append, I.ln]; rfl, ?_, ?_, Nat.mod_lt _ mp⟩
  · rcases (mem' p).mp hp with h | rfl
    · exact I.vs p h
    · exact h3
  · show setF s.g s.h _ p = (lft ps e p).filter fun d => decide (p ++ [d] ∉ gone (s.f ++ [c]))
    by_cases z : p = s.h
    · subst z
      rw [setF_same, gl, List.filter_filter]
      refine List.filter_congr fun d _ => ?_
      have : (s.h ++ [d] ∉ gone (s.f ++ [c])) ↔ (d ≠ c ∧ s.h ++ [d] ∉ gone s.f) := by
        rw [mem']
        constructor
        · intro h
          exact ⟨fun e => h (.inr (by rw [e])), fun e => h (.inl e)⟩
        · rintro ⟨a, b⟩ (h | h)
          · exact b h
          · exact a (by simpa using h)
      rw [decide_eq_decide.mpr this, Bool.decide_and]
    · rw [setF_ne z, I.gl p hp]
      refine List.filter_congr fun d _ => decide_eq_decide.mpr (not_congr ?_)
      rw [mem']
      constructor
      · exact .inl
      · rintro (h | h)
        · exact h
        · exact absurd (List.append_inj' h rfl).1 z
  · show setF s.g s.h _ p = []
    have hp' : p ∈ gone s.f ∨ p = s.h ++ [c] := (mem' p).mp hp
    have hq' : ¬ p <+: s.h ++ [c] ∨ ∃ d, (p ++ [d]) <+: e ∧ (p ++ [d]) <+: s.h ++ [c] := hq
    rcases hp' with h | rfl
    · have z : p ≠ s.h := fun z => by
        rcases hq' with q | ⟨d, q1, q2⟩
        · exact q (z ▸ List.prefix_append _ _)
        · rw [z] at q1 q2
          exact h4 (q2.eq_of_length (by simp) ▸ q1)
      rw [setF_ne z]
      refine I.pi p h ?_
      rcases hq' with q | ⟨d, q1, q2⟩
      · exact .inl fun y => q (y.trans (List.prefix_append _ _))
      · refine .inr ⟨d, q1, ?_⟩
        rcases prefix_snoc.mp q2 with y | y
        · exact y
        · exact absurd (y ▸ q1) h4
    · exfalso
      rcases hq' with q | ⟨d, q1, q2⟩
      · exact q (List.prefix_refl _)
      · have := q2.length_le
        rw [List.length_append (as := s.h ++ [c])] at this
        simp at this
        omega
  · show i + 1 + 2 * unseen ps e (gone (s.f ++ [c])) + ((s.h ++ [c]).length + e.length - 2 * lcp (s.h ++ [c]) e) = lenS ps e
    have h5 := I.phi
    have h6 := unseen_one T.t.nd h3 h2 h4 mem'
    have h7 : (s.h ++ [c]).isPrefixOf e = false := by
      cases z : (s.h ++ [c]).isPrefixOf e with
      | false => rfl
      | true => exact absurd (pre_iff.mp z) h4
    rw [lcp_snoc, h7, List.length_append, List.length_singleton]
    have h8 := lcp_le s.h e
    simp only [Bool.false_eq_true, if_false]
    omega
  · show ways _ ps = ways (fun p => (setF s.g s.h _ p).length) ps
    refine ways_congr fun q _ => ?_
    by_cases z : q = s.h
    · rw [if_pos z, z, setF_same, lf]
    · rw [if_neg z, setF_ne z]
/-- home, or on the way to the end -/
theorem InvS.step0 (I : InvS ps e s i) (T : TrE ps e) (hg : s.g s.h = []) (c : Nat) (ec : chS e s = [c]) (sc : c ∈ sgns) (h' : List Nat) (on1 : WalkM.on s.h c = h') (hm : h' ∈ ps)
    (h3 : ∀ p d, p ++ [d] = h' → ¬ (p ++ [d]) <+: e → p ++ [d] ∈ gone s.f) (h4 : ∀ p ∈ gone s.f, (¬ p <+: h' ∨ ∃ d, (p ++ [d]) <+: e ∧ (p ++ [d]) <+: h') → s.g p = [])
    (h5 : h' ∉ gone s.f → (¬ h' <+: h' ∨ ∃ d, (h' ++ [d]) <+: e ∧ (h' ++ [d]) <+: h') → False) (h6 : h'.length + e.length - 2 * lcp h' e + 1 = s.h.length + e.length - 2 * lcp s.h e) : atS e s < (chS e s).length ∧ InvS ps e (stepS e s) (i + 1) := by
  have e1 : s.many / (chS e s).length = s.many := by rw [ec]; exact Nat.div_one _
  have e2 : atS e s = 0 := by unfold atS; rw [e1]; exact Nat.div_eq_of_lt I.lt
  have e3 : cS e s = c := by unfold cS; rw [e2, ec]; rfl
  have at1 : atS e s < (chS e s).length := by rw [e2, ec]; exact Nat.one_pos
  refine ⟨at1, ?_⟩
  have es : stepS e s = ⟨h', setF s.g s.h [], s.many, s.left, s.f ++ [c]⟩ := by
    unfold stepS
    rw [e1, e3, on1, hg, Nat.mod_eq_of_lt I.lt]
    rfl
  have eg : ∀ q, setF s.g s.h [] q = s.g q := fun q => by
    by_cases z : q = s.h
    · rw [z, setF_same, hg]
    · rw [setF_ne z]
  have mem' : ∀ q, q ∈ gone (s.f ++ [c]) ↔ q ∈ gone s.f ∨ q = h' := fun q => by rw [I.goes, on1]; exact WalkM.mem_addK
  rw [es]
  have h7 := I.phi
  refine ⟨row_snoc I.rf sc, by rw [WalkM.plain_snoc, I.hp, on1], fun p hp => ?_, fun p hp => ?_, fun p hp hq => ?_, by rw [List.length_append, I.ln]; rfl, ?_, ?_, I.lt⟩
  · rcases (mem' p).mp hp with h | rfl
    · exact I.vs p h
    · exact hm
  · show setF s.g s.h [] p = _
    rw [eg, I.gl p hp]
    refine List.filter_congr fun d hd => decide_eq_decide.mpr (not_congr ?_)
    rw [mem']
    constructor
    · exact .inl
    · rintro (h | h)
      · exact h
      · exact h3 p d h (mem_lft.mp hd).2
  · show setF s.g s.h [] p = []
    rw [eg]
    by_cases z : p ∈ gone s.f
    · exact h4 p z hq
    · have z2 := ((mem' p).mp hp).resolve_left z
      subst z2
      exact (h5 z hq).elim
  · show i + 1 + 2 * unseen ps e (gone (s.f ++ [c])) + (h'.length + e.length - 2 * lcp h' e) = lenS ps e
    have : unseen ps e (gone (s.f ++ [c])) = unseen ps e (gone s.f) := unseen_same fun q hq hn => by
      rw [mem']
      constructor
      · rintro (h | h)
        · exact h
        · by_cases q0 : q = []
          · rw [q0]; exact WalkM.nil_gone _
          · obtain ⟨m, d, rfl⟩ := exists_snoc q0
            exact h3 m d h hn
      · exact .inl
    rw [this]
    omega
  · show s.many = ways (fun p => (setF s.g s.h [] p).length) ps
    rw [I.mn]
    exact ways_congr fun q _ => by rw [eg]
theorem InvS.home (I : InvS ps e s i) (T : TrE ps e) (hi : i < lenS ps e) (hg : s.g s.h = []) : ∃ c, chS e s = [c] ∧ atS e s < (chS e s).length ∧ InvS ps e (stepS e s) (i + 1) := by
  have hne := I.open T hi hg
  have hh := I.vs _ I.here
  by_cases hp : s.h <+: e
  · obtain ⟨c, r, he⟩ := prefix_split hp hne
    have h1 : (s.h ++ [c]) <+: e := ⟨r, by rw [he]; simp⟩
    have h2 : s.h ++ [c] ∈ ps := tree_pre T.t.cl T.e h1
    have ec : chS e s = [c] := by
      unfold chS homeS
      rw [if_pos hg, if_neg hne, if_pos (pre_iff.mpr hp), he]
      simp
    have on1 : WalkM.on s.h c = s.h ++ [c] := by rw [← WalkM.on_plain c I.pr, WalkM.plain_prow (T.t.pr _ h2)]
    refine ⟨c, ec, I.step0 T hg c ec ((T.t.pr _ h2).1 c (by simp)) (s.h ++ [c]) on1 h2 (fun p d hq hn => absurd (hq ▸ h1) hn) (fun p hpg hq => ?_) (fun _ hq => ?_) ?_⟩
    · rcases hq with q | ⟨d, q1, q2⟩
      · exact I.pi p hpg (.inl fun y => q (y.trans (List.prefix_append _ _)))
      · rcases prefix_snoc.mp q2 with y | y
        · exact I.pi p hpg (.inr ⟨d, q1, y⟩)
        · have := (List.append_inj' y rfl).1
          rw [this]
          exact hg
    · rcases hq with q | ⟨d, q1, q2⟩
      · exact q (List.prefix_refl _)
      · exact absurd q2.length_le (by simp)
    · have h5 : lcp s.h e = s.h.length := (lcp_pre _ _).mpr (pre_iff.mpr hp)
      have h6 := h1.length_le
      rw [lcp_snoc, if_pos (pre_iff.mpr h1), h5]
      simp only [List.length_append, List.length_singleton] at h6 ⊢
      omega
  · have h0 : s.h ≠ [] := fun z => hp (z ▸ List.nil_prefix)
    obtain ⟨m, c, hm⟩ := exists_snoc h0
    have sc : c ∈ sgns := (T.t.pr _ hh).1 c (by rw [hm]; simp)
    have ec : chS e s = [con c] := by
      unfold chS homeS
      have : ¬ s.h.isPrefixOf e = true := fun z => hp (pre_iff.mp z)
      rw [if_pos hg, if_neg hne, if_neg this, hm]
      simp
    have on1 : WalkM.on s.h (con c) = m := by
      rw [hm]
      unfold WalkM.on
      rw [if_pos (by rw [RowM.con_con sc]; simp)]
      simp
    have mg : m ∈ gone s.f := by
      have := I.gcl _ I.here h0
      rwa [hm, List.dropLast_concat] at this
    refine ⟨con c, ec, I.step0 T hg (con c) ec (RowM.con_mem sc) m on1 (I.vs _ mg) (fun p d hq _ => hq ▸ mg) (fun p hpg hq => ?_) (fun z => absurd mg z) ?_⟩
    · rcases hq with q | ⟨d, q1, q2⟩
      · by_cases y : p <+: s.h
        · rw [hm] at y
          rcases prefix_snoc.mp y with y | y
          · exact absurd y q
          · rw [y, ← hm]; exact hg
        · exact I.pi p hpg (.inl y)
      · exact I.pi p hpg (.inr ⟨d, q1, by rw [hm]; exact q2.trans (List.prefix_append _ _)⟩)
    · have h7 : (m ++ [c]).isPrefixOf e = false := by
        cases z : (m ++ [c]).isPrefixOf e with
        | false => rfl
        | true => exact absurd (hm ▸ pre_iff.mp z) hp
      have h8 := lcp_le m e
      rw [hm, lcp_snoc, h7, List.length_append, List.length_singleton]
      simp only [Bool.false_eq_true, if_false]
      omega
theorem InvS.next (I : InvS ps e s i) (T : TrE ps e) (hi : i < lenS ps e) : chS e s ≠ [] ∧ atS e s < (chS e s).length ∧ InvS ps e (stepS e s) (i + 1) := by
  by_cases hg : s.g s.h = []
  · obtain ⟨c, ec, h1, h2⟩ := I.home T hi hg
    exact ⟨by rw [ec]; simp, h1, h2⟩
  · obtain ⟨h1, h2⟩ := I.down T hg
    exact ⟨by unfold chS; rw [if_neg hg]; exact hg, h1, h2⟩
theorem filter_two {α : Type} (P : α → Bool) : ∀ ps : List α, (ps.filter P).length + (ps.filter fun q => !P q).length = ps.length
  | [] => rfl
  | q :: qs => by
    have := filter_two P qs
    rw [List.filter_cons, List.filter_cons, List.length_cons]
    cases P q <;> simp <;> omega
theorem pre_count (T : TrE ps e) : (ps.filter fun q => q.isPrefixOf e).length = e.length + 1 := by
  have h : (ps.filter fun q => q.isPrefixOf e).Perm ((List.range (e.length + 1)).map fun j => e.take j) := by
    refine (List.perm_ext_iff_of_nodup (List.Pairwise.filter _ T.t.nd) ?_).mpr fun q => ?_
    · refine List.pairwise_map.mpr (List.Pairwise.imp_of_mem (fun {a b} ha hb hne heq => hne ?_) List.nodup_range)
      have := congrArg List.length heq
      rw [List.length_take, List.length_take] at this
      have ha := List.mem_range.mp ha
      have hb := List.mem_range.mp hb
      omega
    · rw [List.mem_filter, List.mem_map]
      constructor
      · rintro ⟨h1, h2⟩
        have h2 := pre_iff.mp h2
        exact ⟨q.length, List.mem_range.mpr (by have := h2.length_le; omega), (List.prefix_iff_eq_take.mp h2).symm⟩
      · rintro ⟨j, hj, rfl⟩
        have : e.take j <+: e := List.take_prefix _ _
        exact ⟨tree_pre T.t.cl T.e this, pre_iff.mpr this⟩
  rw [h.length_eq, List.length_map, List.length_range]
theorem InvS.start (T : TrE ps e) {n : Nat} (hn : n < ways (fun p => (lft ps e p).length) ps) : InvS ps e (initS ps e n) 0 := by
  have un : unseen ps e [[]] + (e.length + 1) = ps.length := by
    rw [← pre_count T, ← filter_two (fun q => q.isPrefixOf e) ps, Nat.add_comm]
    congr 1
    unfold unseen
    congr 1
    refine List.filter_congr fun q _ => ?_
    by_cases z : q = []
    · subst z; simp
    · rw [decide_eq_true (by simpa using z)]; simp
  refine ⟨RowM.nil_row, rfl, fun p hp => ?_, fun p _ => ?_, fun p hp hq => ?_, rfl, ?_, rfl, hn⟩
  · rw [List.mem_singleton.mp hp]; exact T.n
  · show lft ps e p = _
    refine (List.filter_eq_self.mpr fun c _ => ?_).symm
    show decide (p ++ [c] ∉ [[]]) = true
    simp
  · rw [List.mem_singleton.mp hp] at hq
    rcases hq with q | ⟨d, _, q⟩
    · exact absurd List.nil_prefix q
    · have := q.length_le
      change 1 ≤ 0 at this
      omega
  · show 0 + 2 * unseen ps e [[]] + ((0 : Nat) + e.length - 2 * lcp [] e) = 2 * (ps.length - 1) - e.length
    have : lcp [] e = 0 := by unfold lcp; rfl
    rw [this]
    omega
theorem InvS.run (T : TrE ps e) {n : Nat} (hn : n < ways (fun p => (lft ps e p).length) ps) : ∀ i, i ≤ lenS ps e → InvS ps e (runS e i (initS ps e n)) i
  | 0, _ => InvS.start T hn
  | i + 1, h => ((InvS.run T hn i (by omega)).next T (by omega)).2.2
theorem InvS.fin (I : InvS ps e s (lenS ps e)) (T : TrE ps e) : s.h = e ∧ ∀ p, p ∈ gone s.f ↔ p ∈ ps := by
  have h1 := I.phi
  have h2 := lcp_le s.h e
  have h3 : unseen ps e (gone s.f) = 0 := by omega
  have h4 : lcp s.h e = s.h.length := by omega
  have h5 : s.h.length = e.length := by omega
  have h6 : s.h = e := (pre_iff.mp ((lcp_pre _ _).mp h4)).eq_of_length h5
  refine ⟨h6, fun p => ⟨I.vs p, fun hp => Classical.byContradiction fun hn => ?_⟩⟩
  by_cases z : p <+: e
  · exact hn (tree_pre I.gcl (h6 ▸ I.here) z)
  · unfold unseen at h3
    rw [List.length_eq_zero_iff, List.filter_eq_nil_iff] at h3
    refine h3 p hp ?_
    rw [decide_eq_true hn]
    cases y : p.isPrefixOf e with
    | false => rfl
    | true => exact absurd (pre_iff.mp y) z
/-- what a shortest row is -/
theorem shortR_ok (T : TrE ps e) {n : Nat} (hn : n < ways (fun p => (lft ps e p).length) ps) : Row (shortR ps e n) ∧ (shortR ps e n).length = lenS ps e ∧ RowM.plain (shortR ps e n) = e ∧ ∀ p, p ∈ gone (shortR ps e n) ↔ p ∈ ps := by
  have I := InvS.run T hn _ (Nat.le_refl _)
  obtain ⟨h1, h2⟩ := I.fin T
  exact ⟨I.rf, I.ln, I.hp.trans h1, h2⟩
end
/-- no row that walks it has fewer signs -/
theorem len_lower {t : List Nat} (ht : Row t) : 2 * ((gone t).length - 1) ≤ t.length + (RowM.plain t).length := by
  revert ht
  refine WalkM.snoc_ind (P := fun t => Row t → 2 * ((gone t).length - 1) ≤ t.length + (RowM.plain t).length) (fun _ => by decide) (fun l c ih h => ?_) t
  have hl : Row l := fun d hd => h d (List.mem_append_left _ hd)
  have ih := ih hl
  have p1 := WalkM.gone_pos l
  rw [WalkM.gone_snoc, WalkM.plain_snoc, List.length_append, List.length_singleton]
  by_cases z : WalkM.on (RowM.plain l) c ∈ gone l
  · unfold addK
    rw [if_pos z]
    have : (RowM.plain l).length ≤ (WalkM.on (RowM.plain l) c).length + 1 := by
      unfold WalkM.on
      split
      · rw [List.length_dropLast]; omega
      · rw [List.length_append, List.length_singleton]; omega
    omega
  · have on1 : WalkM.on (RowM.plain l) c = RowM.plain l ++ [c] := Classical.byContradiction fun ne => z (WalkM.on_mem (WalkM.tree_gone hl) (WalkM.end_gone l) ne)
    unfold addK
    rw [if_neg z, on1, List.length_append, List.length_append, List.length_singleton, List.length_singleton]
    omega
theorem gone_deep (t : List Nat) : ∀ p ∈ gone t, p.length + 1 ≤ (gone t).length := by
  refine WalkM.snoc_ind (P := fun t => ∀ p ∈ gone t, p.length + 1 ≤ (gone t).length) (fun p hp => by rw [List.mem_singleton.mp hp]; decide) (fun l c ih p hp => ?_) t
  rw [WalkM.gone_snoc] at hp ⊢
  unfold addK at hp ⊢
  by_cases z : WalkM.on (RowM.plain l) c ∈ gone l
  · rw [if_pos z] at hp ⊢
    exact ih p hp
  · rw [if_neg z] at hp ⊢
    rw [List.length_append, List.length_singleton]
    rcases List.mem_append.mp hp with h | h
    · have := ih p h; omega
    · rw [List.mem_singleton.mp h]
      have h1 := WalkM.on_length (RowM.plain l) c
      have h2 := ih _ (WalkM.end_gone l)
      omega
/-! ### rounds in the heap -/
def rdh (e : List Nat) (d : Addr) (h : List Nat) : List (Str × V) := [(Str.ofString "own_end", sT e), (Str.ofString "own_left", .ref d), (Str.ofString "own_here", sT h)]
structure RdH (C : Addr) (H : Hp) (a d : Addr) (ps : List (List Nat)) (e h : List Nat) (g : List Nat → List Nat) : Prop where
  ob : ∃ dx, H a = some (.ins C dx (rdh e d h))
  dt : H d = some (.dK (kvL ps g))
  ne : a ≠ d
theorem RdH.same {C : Addr} {H H' : Hp} {a d : Addr} {ps : List (List Nat)} {e h : List Nat} {g : List Nat → List Nat} (r : RdH C H a d ps e h g) (s : Same H H') : RdH C H' a d ps e h g := ⟨let ⟨dx, q⟩ := r.ob; ⟨dx, s _ _ q⟩, s _ _ r.dt, r.ne⟩
theorem kvL_congr {ps : List (List Nat)} {g g' : List Nat → List Nat} (h : ∀ p ∈ ps, g p = g' p) : kvL ps g = kvL ps g' := List.map_congr_left fun p hp => by rw [h p hp]
theorem kvL_len (ps : List (List Nat)) (g : List Nat → List Nat) : (kvL ps g).length = ps.length := by simp [kvL]
theorem rawL_len (qs : List (List Nat)) (e p : List Nat) : (rawSh qs e p).length = cnt qs e p := by unfold rawSh cnt; rw [List.length_map]
theorem rawL_snoc (qs : List (List Nat)) (e p q : List Nat) : rawSh (qs ++ [q]) e p = rawSh qs e p ++ if offE e p q = true then [q.getLastD 0] else [] := by
  unfold rawSh
  rw [List.filter_append, List.map_append, List.filter_cons]
  split <;> simp
def LeftR (qs : List (List Nat)) (e : List Nat) (g : List Nat → List Nat) : Prop := Left qs e g ∧ ∀ q ∈ qs, g q = rawSh qs e q
theorem raw_none {ps : List (List Nat)} (o : Ord ps) {i : Nat} {p : List Nat} (e : List Nat) (hi : ps[i]? = some p) : rawSh (ps.take (i + 1)) e p = [] := by
  have h := rawL_len (ps.take (i + 1)) e p
  rw [ord_none o e hi] at h
  exact List.length_eq_zero_iff.mp h
theorem leftR_in {ps : List (List Nat)} (o : Ord ps) {e : List Nat} {g : List Nat → List Nat} {i : Nat} {p : List Nat} (hi : ps[i]? = some p) (L : LeftR (ps.take i) e g) (h : p = [] ∨ p.isPrefixOf e = true) : LeftR (ps.take (i + 1)) e (setF g p []) := by
  refine ⟨left_in o hi L.1 h, fun q hq => ?_⟩
  by_cases z : q = p
  · subst z
    rw [setF_same, raw_none o e hi]
  · rw [setF_ne z]
    rw [take_one hi] at hq ⊢
    have hq2 : q ∈ ps.take i := (List.mem_append.mp hq).resolve_right fun y => z (List.mem_singleton.mp y)
    have ho : offE e q p = false := by
      unfold offE
      rcases h with h | h
      · rw [h]; simp
      · rw [h]; simp
    rw [rawL_snoc, ho, if_neg (by decide), List.append_nil]
    exact L.2 q hq2
theorem leftR_on {ps : List (List Nat)} (o : Ord ps) {e : List Nat} {g : List Nat → List Nat} {i : Nat} {m : List Nat} {c : Nat} (hi : ps[i]? = some (m ++ [c])) (L : LeftR (ps.take i) e g) (h : (m ++ [c]).isPrefixOf e = false) :
    LeftR (ps.take (i + 1)) e (setF (setF g (m ++ [c]) []) m (setF g (m ++ [c]) [] m ++ [c])) := by
  refine ⟨left_on o hi L.1 h, fun q hq => ?_⟩
  have nm : m ≠ m ++ [c] := fun z => by
    have := congrArg List.length z
    rw [List.length_append, List.length_singleton] at this
    omega
  have pm : m ∈ ps.take i := by
    have := ord_parent o hi (by simp)
    rwa [List.dropLast_concat] at this
  have ho : offE e q (m ++ [c]) = decide (m = q) := by
    unfold offE
    rw [h, List.dropLast_concat]
    simp
  by_cases z : q = m
  · subst z
    rw [setF_same, setF_ne nm, take_one hi, rawL_snoc, ho, decide_eq_true rfl, if_pos rfl, L.2 q pm]
    simp
  · rw [setF_ne z]
    by_cases y : q = m ++ [c]
    · rw [y, setF_same, raw_none o e hi]
    · rw [setF_ne y]
      rw [take_one hi] at hq ⊢
      have hq2 : q ∈ ps.take i := (List.mem_append.mp hq).resolve_right fun x => y (List.mem_singleton.mp x)
      rw [rawL_snoc, ho, decide_eq_false (fun x => z x.symm), if_neg (by decide), List.append_nil]
      exact L.2 q hq2
def LeftS (ps : List (List Nat)) (e : List Nat) (i : Nat) (g : List Nat → List Nat) : Prop := Left ps e g ∧ ∀ q ∈ ps, g q = if q ∈ ps.take i then lft ps e q else rawSh ps e q
theorem LeftR.zero {ps : List (List Nat)} {e : List Nat} {g : List Nat → List Nat} (L : LeftR ps e g) : LeftS ps e 0 g := ⟨L.1, fun q hq => by rw [List.take_zero, if_neg (by simp)]; exact L.2 q hq⟩
theorem leftS_set {ps : List (List Nat)} (o : Ord ps) {e : List Nat} {g : List Nat → List Nat} {i : Nat} {r : List Nat} (hr : ps[i]? = some r) (L : LeftS ps e i g) : LeftS ps e (i + 1) (setF g r (sgS (g r))) := by
  have rm := List.mem_of_getElem? hr
  refine ⟨left_set L.1 rm (sgS_perm _), fun q hq => ?_⟩
  have h0 := L.2 q hq
  by_cases z : q = r
  · subst z
    rw [if_neg (ord_new o hr)] at h0
    rw [setF_same, h0, if_pos (by rw [take_one hr]; simp)]
    rfl
  · rw [setF_ne z, h0, take_one hr]
    have : q ∈ ps.take i ++ [r] ↔ q ∈ ps.take i := by simp [z]
    simp only [this]
theorem LeftS.fin {ps : List (List Nat)} {e : List Nat} {g : List Nat → List Nat} (L : LeftS ps e ps.length g) : kvL ps g = kvL ps (lft ps e) := kvL_congr fun p hp => by rw [L.2 p hp, List.take_length, if_pos hp]
theorem rep_one (l : List Nat) (c : Nat) : Txt.replace (S l) (S [c]) ("" : Str) = S (l.filter fun d => decide (d ≠ c)) := by
  have h : ∀ l : List Nat, PySem.StrLaws.replL [c] [] l = l.filter fun d => decide (d ≠ c) := by
    intro l
    induction l with
    | nil => exact PySem.StrLaws.replL_nil
    | cons d r ih =>
      by_cases q : d = c
      · subst q
        rw [PySem.StrLaws.replL_hit (by simp) (by simp)]
        simpa using ih
      · rw [PySem.StrLaws.replL_miss (by simpa using q), ih]
        simp [q]
  have e := PySem.StrLaws.replace_list (x := S l) (y := S [c]) (z := ("" : Str)) (by show 1 ≤ 1; decide)
  have e2 : (Txt.replace (S l) (S [c]) ("" : Str)).cps.toList = l.filter fun d => decide (d ≠ c) := e.trans (h l)
  generalize Txt.replace (S l) (S [c]) ("" : Str) = z at e2
  obtain ⟨⟨x⟩⟩ := z
  subst e2
  rfl
theorem TrE.of {ps : List (List Nat)} {e : List Nat} (o : Ord ps) (he : e ∈ ps) : TrE ps e := ⟨o.t.t, tree_pre o.t.t.cl he List.nil_prefix, he⟩
theorem run_many (e : List Nat) (s : Sh) : ∀ i, (runS e i s).many ≤ s.many
  | 0 => Nat.le_refl _
  | i + 1 => Nat.le_trans (Nat.div_le_self _ _) (run_many e s i)
theorem InvS.gle {ps : List (List Nat)} {e : List Nat} {s : Sh} {i : Nat} (I : InvS ps e s i) (o : Ord ps) : (s.g s.h).length ≤ 61 := by
  rw [I.gl _ (I.vs _ I.here)]
  refine Nat.le_trans (List.length_filter_le _ _) ?_
  rw [lft_len]
  exact Nat.le_trans (cnt_le _ _ _) o.t.n1
theorem ways_lft (ps : List (List Nat)) (e : List Nat) : ways (fun p => (lft ps e p).length) ps = ways (cnt ps e) ps := ways_congr fun p _ => lft_len ps e p
/-! ### logs that have room -/
theorem gone_add (t : List Nat) (r : List Nat) : (gone (t ++ r)).length ≤ (gone t).length + r.length := by
  refine WalkM.snoc_ind (P := fun r => (gone (t ++ r)).length ≤ (gone t).length + r.length) (by simp) (fun l c ih => ?_) r
  rw [← List.append_assoc, WalkM.gone_snoc]
  unfold addK
  rw [List.length_append]
  split
  · omega
  · rw [List.length_append]
    show _ + 1 ≤ _ + (_ + 1)
    omega
theorem LgI.mono {s : Lst} {k m : Nat} (h : LgI s k) (z : k ≤ m) : LgI s m := ⟨h.li, h.mi, by have := h.z; omega, by have := h.ml; omega, h.zg⟩
theorem LgI.row {s : Lst} {k : Nat} (h : LgI s k) {l : List Nat} (rl : Row l) (zl : l.length ≤ 6) (z : (gone (s.t ++ l)).length ≤ 61) : LgI ⟨s.t ++ l, s.o ++ l, s.ms⟩ (k + 1) := by
  refine ⟨h.li.more rl, h.mi.mono (by rw [List.length_append]; omega), ?_, by show s.ms.length ≤ _; have := h.ml; omega, z⟩
  show (s.t ++ l).length + (s.o ++ l).length ≤ _
  have := h.z
  rw [List.length_append, List.length_append]; omega
theorem LgI.bak {s : Lst} {k m : Nat} (h : LgI s k) (hm : m ≤ s.o.length) : LgI (bakL s m) (k + 1) ∧ gone (bakL s m).t = gone s.t := by
  obtain ⟨l1, e1⟩ := h.li.bak m
  have lo : (bakL s m).o.length = s.o.length - m := by show (s.o.take _).length = _; rw [List.length_take]; omega
  have lt : (bakL s m).t.length = s.t.length + m := by show (s.t ++ _).length = _; rw [List.length_append, turn_drop_len _ _ hm]
  exact ⟨⟨l1, by rw [lo]; exact h.mi.cut _, by rw [lo, lt]; have := h.z; omega, Nat.le_trans (cutM_len _ _) (by have := h.ml; omega), by rw [e1]; exact h.zg⟩, e1⟩
theorem LgI.mark {s : Lst} {k : Nat} (h : LgI s k) (l : List Nat) : LgI ⟨s.t, s.o, putK s.ms (kT l) (.int s.o.length)⟩ (k + 1) := by
  refine ⟨h.li, h.mi.put _, by show s.t.length + s.o.length ≤ _; have := h.z; omega, ?_, h.zg⟩
  have := length_putK s.ms (kT l) (.int (s.o.length : Int))
  have := h.ml
  show (putK s.ms (kT l) (.int (s.o.length : Int))).length ≤ k + 1
  omega
theorem LgI.nil : LgI ⟨[], [], []⟩ 0 := ⟨LI.nil, MkI.nil 0, by show 0 ≤ _; omega, by show 0 ≤ _; omega, by decide⟩
/-- what a log may be held against -/
def EqLg (C W : Addr) (H : Hp) (t : List Nat) (y : V) (z : Bool) : Prop :=
  (∃ (b kd md : Addr) (t' o' : List Nat) (mk : Mks), y = .ref b ∧ LgAt C H b kd md t' o' mk ∧ Row t' ∧ (gone t').length ≤ 61 ∧ (z = true ↔ RowM.plain t = RowM.plain t' ∧ ∀ p, p ∈ gone t ↔ p ∈ gone t')) ∨ (NWld H y ∧ z = false) ∨
  ((∃ (b q : Addr) (ps : List (List Nat)) (e : List Nat), y = .ref b ∧ WkAt W H b q ps e) ∧ z = false)
/-! ### the text of a walk tells it -/
theorem S_injL {l m : List Nat} (h : S l = S m) : l = m := sT_inj (congrArg V.str h)
theorem nm_inj {p q : List Nat} (hp : Row p) (hq : Row q) (e : nm p = nm q) : p = q := by
  by_cases a : p = []
  · by_cases b : q = []
    · rw [a, b]
    · have := (nm_ne hq b).1
      rw [← e, a] at this
      exact absurd rfl this
  · by_cases b : q = []
    · have := (nm_ne hp a).1
      rw [e, b] at this
      exact absurd rfl this
    · rwa [(nm_ne hp a).2, (nm_ne hq b).2] at e
theorem map_nm_inj : ∀ {ps us : List (List Nat)}, (∀ p ∈ ps, Row p) → (∀ p ∈ us, Row p) → (ps.map fun p => S (nm p)) = (us.map fun p => S (nm p)) → ps = us
  | [], [], _, _, _ => rfl
  | [], _ :: _, _, _, e => by cases e
  | _ :: _, [], _, _, e => by cases e
  | p :: ps, u :: us, hp, hu, e => by
    rw [List.map_cons, List.map_cons] at e
    injection e with e1 e2
    rw [nm_inj (hp p List.mem_cons_self) (hu u List.mem_cons_self) (S_injL e1), map_nm_inj (fun q m => hp q (List.mem_cons_of_mem _ m)) (fun q m => hu q (List.mem_cons_of_mem _ m)) e2]
theorem wtxt_inj {ps us : List (List Nat)} {e f : List Nat} (hp : ∀ p ∈ ps, Row p) (hu : ∀ p ∈ us, Row p) (he : Row e) (hf : Row f) (np : ps ≠ []) (nu : us ≠ []) (h : wtxt ps e = wtxt us f) : ps = us ∧ e = f := by
  have h1 := rpart_app (A := joinL [32] (ps.map nm)) (nm_no he).1 (nm_no he).2
  have h2 := rpart_app (A := joinL [32] (us.map nm)) (nm_no hf).1 (nm_no hf).2
  have h' : joinL [32] (ps.map nm) ++ [32, 58, 32] ++ nm e = joinL [32] (us.map nm) ++ [32, 58, 32] ++ nm f := h
  rw [h', h2] at h1
  injection h1 with a b
  injection b with _ b
  have ea := S_injL a
  refine ⟨?_, (nm_inj hf he (S_injL b)).symm⟩
  have s1 := split_w hp np
  rw [← ea, split_w hu nu] at s1
  exact (map_nm_inj hu hp s1).symm
theorem srt_ne (t : List Nat) : srt (gone t) ≠ [] := fun e => by
  have := WalkM.srt_mem.mpr (WalkM.end_gone t)
  rw [e] at this
  cases this
/-- the texts of two walks are alike just where they are -/
theorem wtxt_iff {t t' : List Nat} (rt : Row t) (rt' : Row t') (zt : (gone t).length ≤ 61) (zt' : (gone t').length ≤ 61) :
    decide (V.str (S (wtxt (srt (gone t)) (RowM.plain t))) = V.str (S (wtxt (srt (gone t')) (RowM.plain t')))) = true ↔ RowM.plain t = RowM.plain t' ∧ ∀ p, p ∈ gone t ↔ p ∈ gone t' := by
  have o := ord_srt (treeS_of rt zt)
  have o' := ord_srt (treeS_of rt' zt')
  rw [decide_eq_true_iff]
  constructor
  · intro h
    injection h with h
    obtain ⟨a, b⟩ := wtxt_inj (fun p hp => (o.t.t.pr p hp).1) (fun p hp => (o'.t.t.pr p hp).1) (RowM.plain_row rt) (RowM.plain_row rt') (srt_ne t) (srt_ne t') (S_injL h)
    exact ⟨b, fun p => by rw [← WalkM.srt_mem, a, WalkM.srt_mem]⟩
  · intro ⟨a, b⟩
    have : srt (gone t) = srt (gone t') := WalkM.srt_uniq (perm_of (WalkM.tree_gone rt).nd (WalkM.tree_gone rt').nd b) (rows_gone rt)
    rw [this, a]
/-! ### what is seen of a log -/
def seenD (s : Lst) (ys : List Str) : PyData := .list [.str (S s.t), .str (S s.o), .list (ys.map .str), .str (S (wtxt (srt (gone s.t)) (RowM.plain s.t))), .str (S (shortR (srt (gone s.t)) (RowM.plain s.t) 0)), .int (s.t.length : Nat)]
def SeenOf (s : Lst) (v : Str) : Prop := ∃ ys : List Str, ys.Perm (namesM s.ms) ∧ PyProof.Rows.sortedS ys = true ∧ v = (seenD s ys).shown
theorem SeenOf.uniq {s : Lst} {v w : Str} (a : SeenOf s v) (b : SeenOf s w) : v = w := by
  obtain ⟨ys, p1, s1, rfl⟩ := a
  obtain ⟨zs, p2, s2, rfl⟩ := b
  rw [st_uniq p1 p2 s1 s2]
theorem log_smL {i : Int} (hi : i.natAbs < 10 ^ 12) : i.natAbs.log2 < 1920 := by
  by_cases z : i.natAbs = 0
  · rw [z]; decide
  · exact (Nat.log2_lt z).mpr (Nat.lt_trans hi (by decide))
/-- a log of the law -/
structure LgJ (s : Lst) (k : Nat) : Prop where
  i : LgI s k
  r : (gone s.t).length ≤ 44
  nm : ∀ kv ∈ s.ms, kv.1 = kT [97] ∨ kv.1 = kT [98]
theorem LgJ.nil : LgJ ⟨[], [], []⟩ 0 := ⟨LgI.nil, by decide, fun _ h => nomatch h⟩
theorem LgJ.mono {s : Lst} {k m : Nat} (h : LgJ s k) (z : k ≤ m) : LgJ s m := ⟨h.i.mono z, h.r, h.nm⟩
theorem LgJ.row {s : Lst} {k : Nat} (h : LgJ s k) {l : List Nat} (rl : Row l) (zl : l.length ≤ 5) (z : (gone s.t).length < 40) : LgJ ⟨s.t ++ l, s.o ++ l, s.ms⟩ (k + 1) := by
  have := gone_add s.t l
  exact ⟨h.i.row rl (by omega) (by omega), by show (gone (s.t ++ l)).length ≤ 44; omega, h.nm⟩
theorem LgJ.bak {s : Lst} {k m : Nat} (h : LgJ s k) (hm : m ≤ s.o.length) : LgJ (bakL s m) (k + 1) := by
  obtain ⟨a, b⟩ := h.i.bak hm
  exact ⟨a, by rw [b]; exact h.r, fun kv hkv => h.nm kv (List.mem_filter.mp (show kv ∈ cutM (s.o.length - m) s.ms from hkv)).1⟩
theorem LgJ.mark {s : Lst} {k : Nat} (h : LgJ s k) {l : List Nat} (hl : l = [97] ∨ l = [98]) : LgJ ⟨s.t, s.o, putK s.ms (kT l) (.int s.o.length)⟩ (k + 1) := by
  refine ⟨h.i.mark l, h.r, fun kv hkv => ?_⟩
  have hkv : kv ∈ putK s.ms (kT l) (.int s.o.length) := hkv
  unfold putK at hkv
  split at hkv
  · obtain ⟨kv', h', rfl⟩ := List.mem_map.mp hkv
    have := h.nm kv' h'
    split <;> exact this
  · rcases List.mem_append.mp hkv with h' | h'
    · exact h.nm _ h'
    · rw [List.mem_singleton.mp h']
      exact hl.imp (fun e => by rw [e]) (fun e => by rw [e])
theorem LgJ.names {s : Lst} {k : Nat} (h : LgJ s k) : ∀ y ∈ namesM s.ms, y = S [97] ∨ y = S [98] := fun y hy => by
  have e := namesM_is h.i.mi
  have : (Sum.inr y : Key) ∈ s.ms.map (·.1) := by rw [e]; exact List.mem_map.mpr ⟨y, hy, rfl⟩
  obtain ⟨kv, hk, ek⟩ := List.mem_map.mp this
  have n := h.nm kv hk
  rw [ek] at n
  refine n.imp (fun e => ?_) (fun e => ?_) <;> (injection e)
theorem small_txt {l : List Nat} (h : ∀ c ∈ l, c ∈ [32, 45, 58] ++ sgns) : (PyData.str (S l)).leavesShort 13 = true := by
  rw [PyData.leavesShort]
  refine List.all_eq_true.mpr fun c hc => decide_eq_true ?_
  have : ∀ c ∈ [32, 45, 58] ++ sgns, c < 16 ^ 8 := by decide
  exact this c (h c hc)
theorem small_names : ∀ ys : List Str, (∀ y ∈ ys, y = S [97] ∨ y = S [98]) → PyData.showableAll (ys.map PyData.str) = true ∧ PyData.hasDictAll (ys.map PyData.str) = false ∧ PyData.leavesShortAll 13 (ys.map PyData.str) = true ∧ PyData.bulkAll (ys.map PyData.str) = 2 * ys.length ∧ PyData.depthAll (ys.map PyData.str) = 0
  | [], _ => ⟨rfl, rfl, rfl, rfl, rfl⟩
  | y :: ys, h => by
    obtain ⟨a, b, c, d, e⟩ := small_names ys fun z hz => h z (List.mem_cons_of_mem _ hz)
    have sm : ∀ z ∈ [S [97], S [98]], (PyData.str z).leavesShort 13 = true ∧ (PyData.str z).bulk = 1 ∧ (PyData.str z).depth = 0 := by decide +kernel
    obtain ⟨c', d', e'⟩ := sm y (by simpa using h y List.mem_cons_self)
    rw [List.map_cons]
    refine ⟨by rw [PyData.showableAll, a]; rfl, by rw [PyData.hasDictAll, b]; rfl, by rw [PyData.leavesShortAll, c, c']; rfl, by rw [PyData.bulkAll, d, d', List.length_cons]; omega, by rw [PyData.depthAll, e, e']; rfl⟩
theorem shown_log {s : Lst} {k : Nat} {ys : List Str} (h : LgJ s k) (hk : k ≤ 60) (pm : ys.Perm (namesM s.ms)) : Shown (seenD s ys) := by
  have rt := h.i.li.rt
  have oS := ord_srt (treeS_of rt h.i.zg)
  have me : RowM.plain s.t ∈ srt (gone s.t) := WalkM.srt_mem.mpr (WalkM.end_gone _)
  have rs : ∀ p ∈ srt (gone s.t), Row p := fun p hp => (oS.t.t.pr p hp).1
  have zw := wtxt_len oS.t.z oS.t.n1 (oS.t.z _ me)
  obtain ⟨a, b, c, d, e⟩ := small_names ys fun y hy => h.names y (pm.mem_iff.mp hy)
  have zy : ys.length ≤ 60 := by rw [pm.length_eq, namesM_len h.i.mi]; have := h.i.ml; omega
  have hz := h.i.z
  have n1 := oS.t.n1
  obtain ⟨w1, w2, _, _⟩ := shortR_ok (TrE.of oS me) (ways_pos (fun p => (lft (srt (gone s.t)) (RowM.plain s.t) p).length) (srt (gone s.t)))
  have w3 : (shortR (srt (gone s.t)) (RowM.plain s.t) 0).length ≤ 122 := by rw [w2]; unfold lenS; omega
  have q : (s.t.length : Int).natAbs < 10 ^ 12 := by omega
  have up : ∀ {l : List Nat}, Row l → ∀ c ∈ l, c ∈ [32, 45, 58] ++ sgns := fun hl c hc => List.mem_append_right _ (hl c hc)
  have l1 := small_txt (up rt)
  have l2 := small_txt (up h.i.li.ro)
  have l3 := small_txt (wtxt_ok rs (RowM.plain_row rt))
  have l4 := small_txt (up w1)
  have bk : ∀ l : List Nat, (PyData.str (S l)).bulk = l.length := fun l => by rw [PyData.bulk]; exact len_S l
  unfold seenD
  refine ⟨?_, ?_, PyData.shown_fits_bulk (B := 13) (by decide) (by decide) ?_ ?_, ?_⟩
  · simp only [PyData.showable, PyData.showableAll, a, Bool.and_true, Bool.true_and]
    exact decide_eq_true (log_smL q)
  · simp only [PyData.hasDict, PyData.hasDictAll, b, Bool.or_false]
  · simp only [PyData.leavesShort, PyData.leavesShortAll, Bool.and_true, Bool.and_eq_true] at l1 l2 l3 l4 c ⊢
    exact ⟨l1, l2, c, l3, l4, decide_eq_true (PyData.shown_int_le q)⟩
  · rw [PyData.bulk]
    simp only [PyData.bulkAll, bk]
    rw [PyData.bulk, d]
    simp only [PyData.bulk]
    omega
  · rw [PyData.depth]
    simp only [PyData.depthAll]
    rw [PyData.depth, e]
    simp only [PyData.depth]
    decide
theorem ab_two {u : Int} (h0 : 0 ≤ u) (h1 : u < 2) : ∃ c, atI (Str.ofString "ab").cps.toList u = some c ∧ (c = 97 ∨ c = 98) := by
  have e : (Str.ofString "ab").cps.toList = [97, 98] := by decide +kernel
  rw [e]
  exact at2 (a := 97) (b := 98) h0 h1
/-! ### three logs -/
theorem LgF.some {C : Addr} {H : Hp} {a kd md : Addr} {t o e : List Nat} {ks : List (List Nat)} {mk : Mks} (h : LgF C H a kd md t o e ks mk) : ∀ b ∈ [a, kd, md], H b ≠ none := fun b hb n => by
  obtain ⟨dx, g1⟩ := h.ob
  have g2 := h.kn
  have g3 := h.mr
  simp only [List.mem_cons, List.not_mem_nil, or_false] at hb
  rcases hb with rfl | rfl | rfl <;> simp_all
theorem LgF.nlst {C : Addr} {H : Hp} {a kd md L : Addr} {t o e : List Nat} {ks : List (List Nat)} {mk : Mks} (h : LgF C H a kd md t o e ks mk) {xs : List V} (g : H L = Option.some (.lst xs)) : L ∉ [a, kd, md] := fun hb => by
  obtain ⟨dx, g1⟩ := h.ob
  have g2 := h.kn
  have g3 := h.mr
  simp only [List.mem_cons, List.not_mem_nil, or_false] at hb
  rcases hb with rfl | rfl | rfl <;> simp_all
open Classical in
/-- the text of what is seen -/
noncomputable def seenT (s : Lst) : Str := if h : ∃ v, SeenOf s v then h.choose else Str.empty
theorem SeenOf.is {s : Lst} {v : Str} (h : SeenOf s v) : v = seenT s := by
  unfold seenT
  rw [dif_pos ⟨v, h⟩]
  exact h.uniq (Exists.choose_spec ⟨v, h⟩)
def setL (f : Nat → Lst) (t : Nat) (x : Lst) : Nat → Lst := fun i => if i = t then x else f i
structure L3 (C : Addr) (H : Hp) (A Kd M : Nat → Addr) (s : Nat → Lst) (k : Nat) : Prop where
  g : ∀ i, i < 3 → LgAt C H (A i) (Kd i) (M i) (s i).t (s i).o (s i).ms
  j : ∀ i, i < 3 → LgJ (s i) k
theorem L3.same {C : Addr} {H H' : Hp} {A Kd M : Nat → Addr} {s : Nat → Lst} {k : Nat} (h : L3 C H A Kd M s k) (t : Same H H') : L3 C H' A Kd M s k := ⟨fun i hi => (h.g i hi).same t, h.j⟩
theorem L3.npo {C p : Addr} {H : Hp} {A Kd M : Nat → Addr} {s : Nat → Lst} {k : Nat} (h : L3 C H A Kd M s k) (hp : H p = none ∨ ∃ xs, H p = some (.lst xs)) : ∀ i, i < 3 → p ∉ [A i, Kd i, M i] := fun i hi m => by
  have g := h.g i hi
  obtain ⟨dx, g1⟩ := g.ob
  have g2 := g.kn
  have g3 := g.mr
  simp only [List.mem_cons, List.not_mem_nil, or_false] at m
  rcases hp with hp | ⟨xs, hp⟩ <;> rcases m with rfl | rfl | rfl <;> simp_all
theorem L3.off {C p : Addr} {H H' : Hp} {A Kd M : Nat → Addr} {s : Nat → Lst} {k : Nat} (h : L3 C H A Kd M s k) (o : Off p H H') (np : ∀ i, i < 3 → p ∉ [A i, Kd i, M i]) : L3 C H' A Kd M s k := ⟨fun i hi => by
  have n := np i hi
  simp only [List.mem_cons, List.not_mem_nil, or_false, not_or] at n
  exact (h.g i hi).off (ex := [p]) (fun b u nb hb => o b u (by simpa using nb) hb) (by simpa using Ne.symm n.1) (by simpa using Ne.symm n.2.1) (by simpa using Ne.symm n.2.2), h.j⟩
def SepL (A Kd M : Nat → Addr) : Prop := ∀ i j, i < 3 → j < 3 → i ≠ j → A i ∉ [A j, Kd j, M j] ∧ Kd i ∉ [A j, Kd j, M j] ∧ M i ∉ [A j, Kd j, M j]
theorem L3.step {C p : Addr} {H H' : Hp} {A Kd M : Nat → Addr} {s : Nat → Lst} {k t : Nat} {s' : Lst} (h : L3 C H A Kd M s k) (sp : SepL A Kd M) (np : ∀ i, i < 3 → p ∉ [A i, Kd i, M i]) (ht : t < 3)
    (o : OffS [p, A t, Kd t, M t] H H') (hj : LgJ s' (k + 1)) (hg : LgAt C H' (A t) (Kd t) (M t) s'.t s'.o s'.ms) : L3 C H' A Kd M (setL s t s') (k + 1) := by
  have key : ∀ i, i < 3 → LgAt C H' (A i) (Kd i) (M i) (setL s t s' i).t (setL s t s' i).o (setL s t s' i).ms ∧ LgJ (setL s t s' i) (k + 1) := fun i hi => by
    unfold setL
    by_cases e : i = t
    · subst e
      rw [if_pos rfl]
      exact ⟨hg, hj⟩
    · rw [if_neg e]
      obtain ⟨s1, s2, s3⟩ := sp i t hi ht e
      have n := np i hi
      simp only [List.mem_cons, List.not_mem_nil, or_false, not_or] at n s1 s2 s3
      exact ⟨(h.g i hi).off o (by simp [Ne.symm n.1, s1]) (by simp [Ne.symm n.2.1, s2]) (by simp [Ne.symm n.2.2, s3]), (h.j i hi).mono (by omega)⟩
  exact ⟨fun i hi => (key i hi).1, fun i hi => (key i hi).2⟩
theorem L3.offs {C : Addr} {H H' : Hp} {A Kd M : Nat → Addr} {s : Nat → Lst} {k : Nat} {ex : List Addr} (h : L3 C H A Kd M s k) (o : OffS ex H H') (np : ∀ i, i < 3 → ∀ b ∈ [A i, Kd i, M i], b ∉ ex) : L3 C H' A Kd M s k := ⟨fun i hi =>
  (h.g i hi).off o (np i hi _ (by simp)) (np i hi _ (by simp)) (np i hi _ (by simp)), h.j⟩
def VL (A : Nat → Addr) : List V := [.ref (A 0), .ref (A 1), .ref (A 2)]
noncomputable def SL (s : Nat → Lst) : List V := [.str (seenT (s 0)), .str (seenT (s 1)), .str (seenT (s 2))]
theorem lt_3 {i : Nat} (h : i < 3) : i = 0 ∨ i = 1 ∨ i = 2 := by omega
theorem vl_at {A : Nat → Addr} {i : Nat} (h : i < 3) : atI (VL A) (i : Int) = some (.ref (A i)) := by
  rcases lt_3 h with rfl | rfl | rfl <;> rfl
theorem sl_at {s : Nat → Lst} {i : Nat} (h : i < 3) : atI (SL s) (i : Int) = some (.str (seenT (s i))) := by
  rcases lt_3 h with rfl | rfl | rfl <;> rfl
theorem vl_get {A : Nat → Addr} {i : Nat} {y : V} (h : (VL A)[i]? = some y) : i < 3 ∧ y = .ref (A i) := by
  have hi : i < 3 := (List.getElem?_eq_some_iff.mp h).1
  refine ⟨hi, ?_⟩
  rcases lt_3 hi with rfl | rfl | rfl <;> (injection h with h; exact h.symm)
theorem sl_more {s : Nat → Lst} {i : Nat} (h : i < 3) : (SL s).take (i + 1) = (SL s).take i ++ [.str (seenT (s i))] := by
  rcases lt_3 h with rfl | rfl | rfl <;> rfl
/-- lists of texts of unlike length -/
theorem eqv_len {xs ys : List PyData} (h : xs.length ≠ ys.length) : PyData.eqv (.list xs) (.list ys) = false := by
  rw [PyData.eqv, SeqAt.eqvAll_other_length h]
theorem strok3 {y : Str} (h : y = S [97] ∨ y = S [98] ∨ y = S [122, 122]) : PyData.strOk y = true := by
  have : ∀ y ∈ [S [97], S [98], S [122, 122]], PyData.strOk y = true := by decide +kernel
  exact this y (by simpa using h)
theorem put_zz {s : Lst} {k : Nat} (h : LgJ s k) (v : V) : (putK s.ms (kT [122, 122]) v).length = s.ms.length + 1 ∧ ∀ kv ∈ putK s.ms (kT [122, 122]) v, kv.1 = kT [97] ∨ kv.1 = kT [98] ∨ kv.1 = kT [122, 122] := by
  have no : ¬ (s.ms.any fun kv => decide (kv.1 = kT [122, 122])) = true := fun e => by
    obtain ⟨kv, hk, e⟩ := List.any_eq_true.mp e
    have e := of_decide_eq_true e
    have n := h.nm kv hk
    rw [e] at n
    revert n
    decide
  unfold putK
  rw [if_neg no]
  refine ⟨by rw [List.length_append]; rfl, fun kv hkv => ?_⟩
  rcases List.mem_append.mp hkv with hk | hk
  · exact (h.nm kv hk).imp id .inl
  · rw [List.mem_singleton.mp hk]
    exact .inr (.inr rfl)
theorem names3 {mk : Mks} {n : Nat} (m : MkI mk n) (h : ∀ kv ∈ mk, kv.1 = kT [97] ∨ kv.1 = kT [98] ∨ kv.1 = kT [122, 122]) : ∀ y ∈ namesM mk, y = S [97] ∨ y = S [98] ∨ y = S [122, 122] := fun y hy => by
  have e := namesM_is m
  have : (Sum.inr y : Key) ∈ mk.map (·.1) := by rw [e]; exact List.mem_map.mpr ⟨y, hy, rfl⟩
  obtain ⟨kv, hk, ek⟩ := List.mem_map.mp this
  have n := h kv hk
  rw [ek] at n
  rcases n with e | e | e <;> injection e with e <;> simp [e]
theorem strsDp {K : PySem.W.Frag} {H : Hp} : ∀ l : List Str, DpAll K H (l.map V.str) (l.map PyData.str)
  | [] => .nil
  | x :: xs => .cons (.str x) (strsDp xs)
/-! ### full logs -/
abbrev OkL (t r : List Nat) : Prop := t.length + r.length ≤ 4000 ∧ (gone (t ++ r)).length ≤ 61
def fszL (t r : List Nat) : Nat := if 4000 < t.length + r.length then t.length + r.length else (gone (t ++ r)).length
theorem fszL_long {t r : List Nat} (h : 4000 < t.length + r.length) : fszL t r = t.length + r.length := if_pos h
theorem fszL_wide {t r : List Nat} (h : ¬ 4000 < t.length + r.length) : fszL t r = (gone (t ++ r)).length := if_neg h
noncomputable def seenL (s : Lst) (P : Addr) : List V := [sT s.t, sT s.o, .ref P, .int (s.t.length : Nat), sT (wtxt (srt (gone s.t)) (RowM.plain s.t)), sT (shortR (srt (gone s.t)) (RowM.plain s.t) 0)]
inductive AskF (s : Lst) : Int → V → List V → Lst → Prop
  | row (l : List Nat) (rl : Row l) (zl : l.length ≤ 60) (h : OkL s.t l) : AskF s 0 (sT l) [wL "told", .int (s.t ++ l).length] ⟨s.t ++ l, s.o ++ l, s.ms⟩
  | rowF (l : List Nat) (rl : Row l) (zl : l.length ≤ 60) (h : ¬ OkL s.t l) : AskF s 0 (sT l) [wL "full", .int (fszL s.t l : Nat), .bl true] s
  | back (m : Nat) (h1 : 1 ≤ m) (h2 : m ≤ s.o.length) (h : s.t.length + m ≤ 4000) : AskF s 1 (.int (m : Int)) [wL "told", .int (bakL s m).t.length] (bakL s m)
  | backF (m : Nat) (h1 : 1 ≤ m) (h2 : m ≤ s.o.length) (h : 4000 < s.t.length + m) : AskF s 1 (.int (m : Int)) [wL "full", .int (s.t.length + m : Nat), .bl true] s
  | toF (l : List Nat) (v : Nat) (hl : okName l = true) (zl : l.length ≤ 1000) (hv : valV s.ms (kT l) = some (.int (v : Int))) (h : 4000 < s.t.length + (s.o.length - v)) : AskF s 2 (sT l) [wL "full", .int (s.t.length + (s.o.length - v) : Nat), .bl true] s
/-! ### there and back -/
def altL (n : Nat) : List Nat := (List.range n).map fun i => if i % 2 = 0 then 97 else 65
theorem altL_len (n : Nat) : (altL n).length = n := by simp [altL]
theorem altL_succ (n : Nat) : altL (n + 1) = altL n ++ [if n % 2 = 0 then 97 else 65] := by
  unfold altL
  rw [List.range_succ, List.map_append]
  rfl
theorem altL_row (n : Nat) : Row (altL n) := fun c hc => by
  obtain ⟨i, _, rfl⟩ := List.mem_map.mp hc
  split <;> decide
theorem altL_take {n m : Nat} (h : m ≤ n) : (altL n).take m = altL m := by
  unfold altL
  rw [← List.map_take, List.take_range, Nat.min_eq_left h]
theorem altL_app (n : Nat) : ∀ m, altL (2 * n) ++ altL m = altL (2 * n + m)
  | 0 => by rw [Nat.add_zero]; exact List.append_nil _
  | m + 1 => by
    rw [altL_succ, ← List.append_assoc, altL_app n m, show 2 * n + (m + 1) = (2 * n + m) + 1 by omega, altL_succ, show (2 * n + m) % 2 = m % 2 by omega]
theorem altL_gone (n : Nat) : RowM.plain (altL n) = (if n % 2 = 0 then [] else [97]) ∧ ∀ p ∈ gone (altL n), p ∈ [[], [97]] := by
  induction n with
  | zero => exact ⟨rfl, by decide⟩
  | succ n ih =>
    obtain ⟨h1, h2⟩ := ih
    have e : RowM.plain (altL (n + 1)) = (if (n + 1) % 2 = 0 then [] else [97]) := by
      rw [altL_succ, WalkM.plain_snoc, h1]
      by_cases q : n % 2 = 0
      · rw [if_pos q, if_pos q, if_neg (by omega)]; decide
      · rw [if_neg q, if_neg q, if_pos (by omega)]; decide
    refine ⟨e, fun p hp => ?_⟩
    have e2 := e
    rw [altL_succ, WalkM.plain_snoc] at e2
    rw [altL_succ, WalkM.gone_snoc, e2] at hp
    rcases WalkM.mem_addK.mp hp with hp | rfl
    · exact h2 p hp
    · split <;> decide
theorem altL_two (n : Nat) : (gone (altL n)).length ≤ 2 := by
  have nd := (WalkM.tree_gone (altL_row n)).nd
  have h2 := (altL_gone n).2
  generalize gone (altL n) = g at nd h2
  match g, nd, h2 with
  | [], _, _ => exact Nat.zero_le _
  | [x], _, _ => exact Nat.le_succ 1
  | [x, y], _, _ => exact Nat.le_refl 2
  | x :: y :: z :: r, nd, h2 =>
    have hx := h2 x (by simp)
    have hy := h2 y (by simp)
    have hz := h2 z (by simp)
    simp only [List.nodup_cons, List.mem_cons, not_or] at nd
    simp only [List.mem_cons, List.not_mem_nil, or_false] at hx hy hz
    exfalso
    rcases hx with rfl | rfl <;> rcases hy with rfl | rfl <;> rcases hz with rfl | rfl <;> simp_all
/-! ### straight ways -/
theorem gone_straight {t : List Nat} {c : Nat} {p : List Nat} (ep : RowM.plain t = p) (no : ∀ i, 1 ≤ i → p ++ List.replicate i c ∉ gone t) (nc : p.getLast? ≠ some (con c)) (cc : c ≠ con c) :
    ∀ n, RowM.plain (t ++ List.replicate n c) = p ++ List.replicate n c ∧ (gone (t ++ List.replicate n c)).length = (gone t).length + n ∧ ∀ q ∈ gone (t ++ List.replicate n c), q ∈ gone t ∨ q.length ≤ p.length + n
  | 0 => ⟨by simpa using ep, by simp, fun q h => .inl (by simpa using h)⟩
  | n + 1 => by
    obtain ⟨h1, h2, h3⟩ := gone_straight ep no nc cc n
    have et : t ++ List.replicate (n + 1) c = (t ++ List.replicate n c) ++ [c] := by rw [List.replicate_succ', List.append_assoc]
    have last : (p ++ List.replicate n c).getLast? ≠ some (con c) := by
      cases n with
      | zero => simpa using nc
      | succ n =>
        rw [List.replicate_succ', ← List.append_assoc, List.getLast?_append]
        simp [cc]
    have eo : RowM.plain (t ++ List.replicate (n + 1) c) = p ++ List.replicate (n + 1) c := by
      rw [et, WalkM.plain_snoc, h1, on_else last, List.replicate_succ', List.append_assoc]
    have eo2 := eo
    rw [et, WalkM.plain_snoc] at eo2
    refine ⟨eo, ?_, fun q hq => ?_⟩
    · rw [et, WalkM.gone_snoc, eo2]
      unfold addK
      rw [if_neg fun m => ?_, List.length_append, h2]
      · rfl
      rcases h3 _ m with m | m
      · exact no _ (by omega) m
      · rw [List.length_append, List.length_replicate] at m
        omega
    · rw [et, WalkM.gone_snoc, eo2] at hq
      rcases WalkM.mem_addK.mp hq with hq | rfl
      · exact (h3 q hq).imp id fun z => by omega
      · exact .inr (by rw [List.length_append, List.length_replicate]; omega)
theorem plain_letters {t : List Nat} : ∀ c ∈ RowM.plain t, c ∈ t := by
  refine WalkM.snoc_ind (P := fun t => ∀ c ∈ RowM.plain t, c ∈ t) (by simp [WalkM.plain_nil]) (fun l d ih c hc => ?_) t
  rw [WalkM.plain_snoc] at hc
  have : c ∈ RowM.plain l ∨ c = d := by
    by_cases q : (RowM.plain l).getLast? = some (con d)
    · obtain ⟨m, x, e⟩ := exists_snoc (m := RowM.plain l) (fun z => by rw [z] at q; cases q)
      have ex : x = con d := by rw [e] at q; simpa using q
      rw [e, ex, on_snoc] at hc
      exact .inl (by rw [e]; exact List.mem_append_left _ hc)
    · rw [on_else q] at hc
      rcases List.mem_append.mp hc with h | h
      · exact .inl h
      · exact .inr (List.mem_singleton.mp h)
  rcases this with h | rfl
  · exact List.mem_append_left _ (ih c h)
  · simp
theorem gone_letters {t : List Nat} : ∀ p ∈ gone t, ∀ c ∈ p, c ∈ t := by
  refine WalkM.snoc_ind (P := fun t => ∀ p ∈ gone t, ∀ c ∈ p, c ∈ t) (fun p hp c hc => by rw [WalkM.gone_nil, List.mem_singleton] at hp; rw [hp] at hc; exact hc) (fun l d ih p hp c hc => ?_) t
  rw [WalkM.gone_snoc, ← WalkM.plain_snoc] at hp
  rcases WalkM.mem_addK.mp hp with hp | rfl
  · exact List.mem_append_left _ (ih p hp c hc)
  · exact plain_letters c hc
def aN (n : Nat) : List Nat := List.replicate n 97
def AB (v w : Nat) : List Nat := List.replicate v 65 ++ List.replicate w 98
theorem aN_row (n : Nat) : Row (aN n) := fun c hc => by rw [(List.mem_replicate.mp hc).2]; decide
theorem AB_row (v w : Nat) : Row (AB v w) := fun c hc => by
  rcases List.mem_append.mp hc with h | h <;> rw [(List.mem_replicate.mp h).2] <;> decide
theorem aN_plain (n : Nat) : RowM.plain (aN n) = aN n ∧ (gone (aN n)).length = n + 1 := by
  have := gone_straight (t := []) (c := 97) (p := []) rfl (fun i hi => by rw [WalkM.gone_nil, List.mem_singleton]; cases i with
    | zero => omega
    | succ i => exact fun h => nomatch h) (fun h => nomatch h) (by decide) n
  rw [List.nil_append] at this
  exact ⟨this.1, by have h := this.2.1; rw [WalkM.gone_nil] at h; show (gone (List.replicate n 97)).length = _; rw [h, Nat.add_comm]; rfl⟩
theorem aN_LI (n : Nat) : LI (aN n) (aN n) := by
  have := LI.more LI.nil (aN_row n)
  simpa using this
theorem gone_aN (n m : Nat) : (gone (aN n ++ aN m)).length = n + m + 1 := by
  have : aN n ++ aN m = aN (n + m) := by unfold aN; rw [List.replicate_append_replicate]
  rw [this, (aN_plain _).2]
theorem turn_aN (v : Nat) : RowM.turn (aN v) = List.replicate v 65 := by
  induction v with
  | zero => rfl
  | succ v ih =>
    have : aN (v + 1) = aN v ++ [97] := by unfold aN; rw [List.replicate_succ']
    rw [this, RowM.turn_append, ih, List.replicate_succ]
    rfl
theorem gone_AB {n v : Nat} (w : Nat) (h : v ≤ n) : (gone (aN n ++ AB v w)).length = n + 1 + w := by
  have li : LI (aN n) (aN (n - v) ++ aN v) := by
    have e : aN (n - v) ++ aN v = aN n := by unfold aN; rw [List.replicate_append_replicate, Nat.sub_add_cancel h]
    rw [e]; exact aN_LI n
  obtain ⟨l1, e1⟩ := LI.backs (aN (n - v)) (aN v) (aN n) li
  rw [turn_aN] at l1 e1
  have ep : RowM.plain (aN n ++ List.replicate v 65) = aN (n - v) := by rw [l1.e, (aN_plain _).1]
  have := gone_straight (c := 98) ep (fun i hi m => by
    have := gone_letters _ m 98 (List.mem_append_right _ (List.mem_replicate.mpr ⟨by omega, rfl⟩))
    rcases List.mem_append.mp this with h | h
    · exact absurd (List.mem_replicate.mp h).2 (by decide)
    · exact absurd (List.mem_replicate.mp h).2 (by decide)) (fun e => by
      have := List.mem_of_getLast? e
      exact absurd (List.mem_replicate.mp this).2 (by decide)) (by decide) w
  rw [AB, ← List.append_assoc, this.2.1, e1, (aN_plain _).2]
/-! ### the law's texts -/
instance (x : Str) (n : Int) : Decidable (MulOk x n) := by unfold MulOk; infer_instance
theorem mul_ka : ∀ n < 62, MulOk (Str.ofString "a") ((n : Nat) : Int) ∧ Txt.mul (Str.ofString "a") ((n : Nat) : Int) = S (List.replicate n 97) := by decide +kernel
theorem mul_kb : ∀ n < 62, MulOk (Str.ofString "b") ((n : Nat) : Int) ∧ Txt.mul (Str.ofString "b") ((n : Nat) : Int) = S (List.replicate n 98) := by decide +kernel
theorem mul_kA : ∀ n < 62, MulOk (Str.ofString "A") ((n : Nat) : Int) ∧ Txt.mul (Str.ofString "A") ((n : Nat) : Int) = S (List.replicate n 65) := by decide +kernel
theorem mul_alt : MulOk (Str.ofString "aA") 30 ∧ Txt.mul (Str.ofString "aA") 30 = S (altL 60) := by decide +kernel
theorem cnt_AB : ∀ v < 20, ∀ w < 15, Txt.count (S (AB v w)) (Str.ofString "A") = ((v : Nat) : Int) := by decide +kernel
theorem cnt_aN : ∀ n < 16, Txt.count (S (aN n)) (Str.ofString "A") = 0 := by decide +kernel
def begL : List Nat := [98, 101, 103, 105, 110]
theorem beg_is : Str.ofString "begin" = S begL := by decide +kernel
def ms0 : Mks := [(kT begL, .int (0 : Nat))]
theorem ms0_is : putK [] (kT begL) (.int (([] : List Nat).length : Nat)) = ms0 := rfl
theorem ms0_mi (n : Nat) : MkI ms0 n := ⟨by simp [ms0], fun kv hk => by
  rw [ms0, List.mem_singleton] at hk
  exact ⟨S begL, 0, hk, Nat.zero_le _⟩⟩
def stA (n : Nat) : Lst := ⟨altL n, altL n, ms0⟩
theorem stA_i {n : Nat} (h : n ≤ 4000) : LgI (stA n) 700 := by
  have li : LI (altL n) (altL n) := by simpa using LI.more LI.nil (altL_row n)
  refine ⟨li, ms0_mi _, ?_, by show 1 ≤ 700; decide, Nat.le_trans (altL_two n) (by decide)⟩
  show (altL n).length + (altL n).length ≤ _
  rw [altL_len]; omega
def bN (n : Nat) : List Nat := List.replicate n 98
theorem bN_row (n : Nat) : Row (bN n) := fun c hc => by rw [(List.mem_replicate.mp hc).2]; decide
theorem bN_len (n : Nat) : (bN n).length = n := List.length_replicate
def D3 (more many : Nat) : List (Int × V × Int) := [(0, sT (bN more), ((many + more : Nat) : Int)), (1, .int (more : Int), ((many + more : Nat) : Int)), (2, sT begL, ((2 * many : Nat) : Int))]
theorem ask3 {more many : Nat} (h0 : 1 ≤ more) (h1 : more ≤ 60) (h2 : 3940 ≤ many) (h3 : many ≤ 4000) : ∀ e ∈ D3 more many, (4000 : Int) < e.2.2 → AskF (stA many) e.1 e.2.1 [wL "full", .int e.2.2, .bl true] (stA many) := by
  intro e he hz
  simp only [D3, List.mem_cons, List.not_mem_nil, or_false] at he
  rcases he with rfl | rfl | rfl
  · have hz' : (4000 : Int) < ((many + more : Nat) : Int) := hz
    have zl : 4000 < (stA many).t.length + (bN more).length := by show 4000 < (altL many).length + _; rw [altL_len, bN_len]; omega
    have := AskF.rowF (s := stA many) (bN more) (bN_row _) (by rw [bN_len]; omega) (fun h => absurd h.1 (by omega))
    rw [fszL_long zl, bN_len, show (stA many).t.length = many from altL_len many] at this
    exact this
  · have hz' : (4000 : Int) < ((many + more : Nat) : Int) := hz
    have := AskF.backF (s := stA many) more h0 (by show more ≤ (altL many).length; rw [altL_len]; omega) (by show 4000 < (altL many).length + _; rw [altL_len]; omega)
    rw [show (stA many).t.length = many from altL_len many] at this
    exact this
  · have := AskF.toF (s := stA many) begL 0 (by decide) (by decide) rfl (by show 4000 < (altL many).length + ((altL many).length - 0); rw [altL_len]; omega)
    rw [show (stA many).t.length + ((stA many).o.length - 0) = 2 * many by show (altL many).length + ((altL many).length - 0) = _; rw [altL_len]; omega] at this
    exact this
theorem ask_b {some many : Nat} (h1 : some ≤ 50) (h3 : many + some ≤ 4000) : ∃ s', AskF (stA many) 0 (sT (bN some)) [wL "told", .int ((many + some : Nat) : Int)] s' := by
  have zg : (gone (altL many ++ bN some)).length ≤ 61 := by
    have a := gone_add (altL many) (bN some)
    have b := altL_two many
    rw [bN_len] at a
    omega
  have := AskF.row (s := stA many) (bN some) (bN_row _) (by rw [bN_len]; omega) ⟨by show (altL many).length + _ ≤ _; rw [altL_len, bN_len]; omega, zg⟩
  rw [show ((stA many).t ++ bN some).length = many + some by show (altL many ++ bN some).length = _; rw [List.length_append, altL_len, bN_len]] at this
  exact ⟨_, this⟩
/-- the way's row -/
def stB (r : List Nat) : Lst := ⟨r, r, []⟩
theorem stB_i {r : List Nat} (rr : Row r) (h : r.length ≤ 2000) (z : (gone r).length ≤ 61) : LgI (stB r) 700 := by
  have li : LI r r := by simpa using LI.more LI.nil rr
  exact ⟨li, MkI.nil _, by show r.length + r.length ≤ _; omega, by show 0 ≤ 700; decide, z⟩
structure WayR (far : Nat) (r : List Nat) (c : Nat) : Prop where
  rr : Row r
  z : r.length ≤ 34
  cn : Txt.count (S r) (Str.ofString "A") = (c : Int)
  c1 : c ≤ r.length
  g : (gone (aN far ++ r)).length + c = far + 1 + r.length
theorem wayA {far m : Nat} (h : m < 16) : WayR far (aN m) 0 := ⟨aN_row m, by show (List.replicate m 97).length ≤ _; rw [List.length_replicate]; omega, cnt_aN m h, Nat.zero_le _, by rw [gone_aN]; show _ = far + 1 + (List.replicate m 97).length; rw [List.length_replicate]; omega⟩
theorem wayB {far v w : Nat} (h1 : v < 20) (h2 : w < 15) (h : v ≤ far) : WayR far (AB v w) v := by
  have e : (AB v w).length = v + w := by rw [AB, List.length_append, List.length_replicate, List.length_replicate]
  exact ⟨AB_row v w, by omega, cnt_AB v h1 w h2, by omega, by rw [gone_AB w h, e]; omega⟩
/-- one log beside the pool -/
structure FL (C : Addr) (H0 H : Hp) (p a kd md : Addr) (s : Lst) : Prop where
  g : LgAt C H a kd md s.t s.o s.ms
  i : LgI s 700
  z : s.t.length ≤ 4000 ∧ s.o.length ≤ 4000 ∧ s.ms.length ≤ 60
  s0 : Same H0 H
  pl : Pool H p
  fp : H0 p = none
  fa : ∀ b ∈ [a, kd, md], H0 b = none
section
variable {C : Addr} {H0 H H' : Hp} {p a kd md : Addr} {s s' : Lst}
theorem FL.same (h : FL C H0 H p a kd md s) (t : Same H H') : FL C H0 H' p a kd md s := ⟨h.g.same t, h.i, h.z, Same.trans h.s0 t, h.pl.same t, h.fp, h.fa⟩
theorem FL.np (h : FL C H0 H p a kd md s) : p ∉ [a, kd, md] := by
  obtain ⟨c0, n0, g0, r0⟩ := h.pl
  exact h.g.nlst g0
theorem FL.take (h : FL C H0 H p a kd md s) (o : Off p H H') (pl : Pool H' p) : FL C H0 H' p a kd md s := by
  have np := h.np
  simp only [List.mem_cons, List.not_mem_nil, or_false, not_or] at np
  exact ⟨h.g.off (ex := [p]) (fun b u nb hb => o b u (by simpa using nb) hb) (by simpa using Ne.symm np.1) (by simpa using Ne.symm np.2.1) (by simpa using Ne.symm np.2.2), h.i, h.z, fun b u hb => o b u (ne_of_none hb h.fp) (h.s0 b u hb), pl, h.fp, h.fa⟩
theorem FL.step (h : FL C H0 H p a kd md s) (o : OffS [a, kd, md] H H') (g : LgAt C H' a kd md s'.t s'.o s'.ms) (i : LgI s' 700) (z : s'.t.length ≤ 4000 ∧ s'.o.length ≤ 4000 ∧ s'.ms.length ≤ 60) : FL C H0 H' p a kd md s' := by
  obtain ⟨c0, n0, g0, r0⟩ := id h.pl
  exact ⟨g, i, z, fun b u hb => o b u (fun m => by rw [h.fa b m] at hb; cases hb) (h.s0 b u hb), ⟨c0, n0, o _ _ h.np g0, r0⟩, h.fp, h.fa⟩
end
theorem full_data {K : PySem.W.Frag} {H : Hp} {L : Addr} {z : Int} (g : H L = some (.lst [wL "full", .int z, .bl true])) : Dp K H (.ref L) (.list [.str (Str.ofString "full"), .int z, .bool true]) := .lst (SqL.of g) (.cons (.str _) (.cons (.int _) (.cons (.bl _) .nil)))
theorem full_sh (z : Int) : SeqAt.shaped (.list [.str (Str.ofString "full"), .int z, .bool true]) = true := by
  simp only [SeqAt.shaped, PyData.canLay0, PyData.canLayAll0, PyData.depth, PyData.depthAll, show PyData.strOk (Str.ofString "full") = true by decide +kernel]
  rfl
theorem told_data {K : PySem.W.Frag} {H : Hp} {L : Addr} {z : Int} (g : H L = some (.lst [wL "told", .int z])) : Dp K H (.ref L) (.list [.str (Str.ofString "told"), .int z]) := .lst (SqL.of g) (.cons (.str _) (.cons (.int _) .nil))
theorem told_sh (z : Int) : SeqAt.shaped (.list [.str (Str.ofString "told"), .int z]) = true := by
  simp only [SeqAt.shaped, PyData.canLay0, PyData.canLayAll0, PyData.depth, PyData.depthAll, show PyData.strOk (Str.ofString "told") = true by decide +kernel]
  rfl
theorem eqv_self {d : PyData} (h : SeqAt.shaped d = true) : PyData.eqv d d = true := SeqAt.eqv_refl d (SeqAt.canLay_of_shaped h)
/-- what is seen, as data -/
def seenD9 (s : Lst) (ys : List Str) : PyData := .list [.str (S s.t), .str (S s.o), .list (ys.map .str), .int (s.t.length : Nat), .str (S (wtxt (srt (gone s.t)) (RowM.plain s.t))), .str (S (shortR (srt (gone s.t)) (RowM.plain s.t) 0))]
theorem seen_data {K : PySem.W.Frag} {H : Hp} {L P : Addr} {s : Lst} {ys : List Str} (g : H L = some (.lst (seenL s P))) (h : H P = some (.lst (ys.map V.str))) : Dp K H (.ref L) (seenD9 s ys) :=
  .lst (SqL.of g) (.cons (.str _) (.cons (.str _) (.cons (.lst (SqL.of h) (strsDp ys)) (.cons (.int _) (.cons (.str _) (.cons (.str _) .nil))))))
theorem strOk_n {l : List Nat} (h : ∀ c ∈ l, c < 1114112) : PyData.strOk (S l) = true := by
  simp only [PyData.strOk]
  show ((l.toArray).all fun x => decide (x < 0x110000)) = true
  rw [Array.all_eq_true]
  intro i hi
  exact decide_eq_true (h _ (by simp))
theorem canLay_strs : ∀ ys : List Str, (∀ y ∈ ys, PyData.strOk y = true) → PyData.canLayAll0 (ys.map PyData.str) = true ∧ PyData.depthAll (ys.map PyData.str) = 0
  | [], _ => ⟨rfl, rfl⟩
  | y :: ys, h => by
    obtain ⟨a, b⟩ := canLay_strs ys fun z hz => h z (List.mem_cons_of_mem _ hz)
    rw [List.map_cons]
    refine ⟨by rw [PyData.canLayAll0, a, PyData.canLay0, h y List.mem_cons_self]; rfl, by rw [PyData.depthAll, b, PyData.depth]; rfl⟩
theorem seen_sh {s : Lst} {k : Nat} {ys : List Str} (i : LgI s k) (hy : ∀ y ∈ ys, PyData.strOk y = true) : SeqAt.shaped (seenD9 s ys) = true := by
  have rt := i.li.rt
  have oS := ord_srt (treeS_of rt i.zg)
  have me : RowM.plain s.t ∈ srt (gone s.t) := WalkM.srt_mem.mpr (WalkM.end_gone _)
  have rs : ∀ p ∈ srt (gone s.t), Row p := fun p hp => (oS.t.t.pr p hp).1
  obtain ⟨w1, _, _, _⟩ := shortR_ok (TrE.of oS me) (ways_pos (fun p => (lft (srt (gone s.t)) (RowM.plain s.t) p).length) (srt (gone s.t)))
  have sg : ∀ c ∈ [32, 45, 58] ++ sgns, c < 1114112 := by decide
  have up : ∀ {l : List Nat}, Row l → PyData.strOk (S l) = true := fun hl => strOk_n fun c hc => sg c (List.mem_append_right _ (hl c hc))
  have l3 : PyData.strOk (S (wtxt (srt (gone s.t)) (RowM.plain s.t))) = true := strOk_n fun c hc => sg c (wtxt_ok rs (RowM.plain_row rt) c hc)
  obtain ⟨a, b⟩ := canLay_strs ys hy
  unfold SeqAt.shaped seenD9
  simp only [PyData.canLay0, PyData.canLayAll0, PyData.depth, PyData.depthAll, a, b, up rt, up i.li.ro, l3, up w1]
  rfl
theorem names0 : namesM ms0 = [S begL] := rfl
section
variable {C : Addr} {H0 H H' : Hp} {p a kd md : Addr}
theorem ok_alt {n m : Nat} (z : 2 * n + m ≤ 4000) : OkL (altL (2 * n)) (altL m) := by
  refine ⟨by rw [altL_len, altL_len]; exact z, ?_⟩
  rw [altL_app]
  exact Nat.le_trans (altL_two _) (by decide)
theorem FL.alt {n m : Nat} (h : FL C H0 H p a kd md (stA (2 * n))) (o : OffS [a, kd] H H') (g : LgAt C H' a kd md ((stA (2 * n)).t ++ altL m) ((stA (2 * n)).o ++ altL m) (stA (2 * n)).ms) (z : 2 * n + m ≤ 4000) : FL C H0 H' p a kd md (stA (2 * n + m)) := by
  have e : stA (2 * n + m) = ⟨altL (2 * n) ++ altL m, altL (2 * n) ++ altL m, ms0⟩ := by unfold stA; rw [altL_app]
  refine h.step (o.mono (by simp)) ?_ (stA_i z) ?_
  · rw [e]; exact g
  · refine ⟨?_, ?_, by show 1 ≤ 60; decide⟩ <;> (show (altL _).length ≤ _; rw [altL_len]; exact z)
end
section
variable {C : Addr} {H0 H H' : Hp} {p a kd md : Addr} {s s' : Lst}
theorem FL.new (h : FL C H0 H p a kd md s) {b : Addr} (hb : H b = none) : b ∉ [a, kd, md] := by
  obtain ⟨dx, ga⟩ := h.g.ob
  have h1 := h.g.kn
  have h2 := h.g.mr
  simp only [List.mem_cons, List.not_mem_nil, or_false, not_or]
  exact ⟨(ne_of_none ga hb).symm, (ne_of_none h1 hb).symm, (ne_of_none h2 hb).symm⟩
end
theorem mul_ka1 {n : Nat} (h : n < 61) : MulOk (Str.ofString "a") (1 + (n : Int)) ∧ Txt.mul (Str.ofString "a") (1 + (n : Int)) = S (aN (1 + n)) := by
  have := mul_ka (1 + n) (by omega)
  rw [show ((1 + n : Nat) : Int) = 1 + (n : Int) by omega] at this
  exact this
theorem mul_kb1 {n : Nat} (h : n < 61) : MulOk (Str.ofString "b") (1 + (n : Int)) ∧ Txt.mul (Str.ofString "b") (1 + (n : Int)) = S (bN (1 + n)) := by
  have := mul_kb (1 + n) (by omega)
  rw [show ((1 + n : Nat) : Int) = 1 + (n : Int) by omega] at this
  exact this
theorem mul_ka50 {n : Nat} (h : n < 12) : MulOk (Str.ofString "a") ((50 + n : Nat) : Int) ∧ Txt.mul (Str.ofString "a") ((50 + n : Nat) : Int) = S (aN (50 + n)) := mul_ka (50 + n) (by omega)
/-- what is due when the way's row is done -/
theorem ask_way {far c : Nat} {r : List Nat} (W : WayR far r c) (hf : far ≤ 60) : ∃ (s' : Lst) (r' : List Nat), AskF (stB (aN far)) 0 (sT r) (if 61 < far + 1 + r.length - c then [wL "full", .int ((far + 1 + r.length - c : Nat) : Int), .bl true] else [wL "told", .int ((far + r.length : Nat) : Int)]) s' ∧
    s' = stB r' ∧ Row r' ∧ r'.length ≤ 100 ∧ (gone r').length ≤ 61 ∧ far ≤ r'.length ∧ (61 < far + 1 + r.length - c → r' = aN far) := by
  have zf : (aN far).length = far := List.length_replicate
  have zr := W.z
  have g := W.g
  have c1 := W.c1
  by_cases q : 61 < far + 1 + r.length - c
  · rw [if_pos q]
    have zl : ¬ 4000 < (stB (aN far)).t.length + r.length := by show ¬ 4000 < (aN far).length + _; omega
    have := AskF.rowF (s := stB (aN far)) r W.rr (by omega) (fun h => by have := h.2; change (gone (aN far ++ r)).length ≤ 61 at this; omega)
    rw [fszL_wide zl, show (gone ((stB (aN far)).t ++ r)).length = far + 1 + r.length - c by show (gone (aN far ++ r)).length = _; omega] at this
    exact ⟨_, aN far, this, rfl, aN_row far, by omega, by rw [(aN_plain far).2]; omega, by omega, fun _ => rfl⟩
  · rw [if_neg q]
    have := AskF.row (s := stB (aN far)) r W.rr (by omega) ⟨by show (aN far).length + _ ≤ _; omega, by show (gone (aN far ++ r)).length ≤ _; omega⟩
    rw [show ((stB (aN far)).t ++ r).length = far + r.length by show (aN far ++ r).length = _; rw [List.length_append]; omega] at this
    exact ⟨_, aN far ++ r, this, rfl, row_app (aN_row far) W.rr, by rw [List.length_append]; omega, by omega, by rw [List.length_append]; omega, fun h => absurd h q⟩
theorem due_data {K : PySem.W.Frag} {H : Hp} {L : Addr} {b : Prop} [Decidable b] {z y : Int} (g : H L = some (.lst (if b then [wL "full", .int z, .bl true] else [wL "told", .int y]))) : Dp K H (.ref L) (if b then .list [.str (Str.ofString "full"), .int z, .bool true] else .list [.str (Str.ofString "told"), .int y]) := by
  by_cases q : b
  · rw [if_pos q] at g ⊢; exact full_data g
  · rw [if_neg q] at g ⊢; exact told_data g
theorem due_sh {b : Prop} [Decidable b] (z y : Int) : SeqAt.shaped (if b then .list [.str (Str.ofString "full"), .int z, .bool true] else .list [.str (Str.ofString "told"), .int y]) = true := by
  by_cases q : b
  · rw [if_pos q]; exact full_sh z
  · rw [if_neg q]; exact told_sh y

/-- a def that the caller knows: where it stands, how its arguments bind, what it promises -/
def KN (P : Program) (w : World) (K : PySem.W.Frag) (mg : Str → Option Value) (base : Heap) (CX : CXT) (k : Nat) (ps : List Str) (sp : Sp) (x : Str) (dvs : List V) : Prop :=
  ∃ (f : Addr) (fd : FuncData) (ds : List Value), mg x = some (.ref f) ∧ PySem.W.keepIn K (.ref f) = true ∧ Vals dvs ds ∧ Binds K fd ps ds ∧ FnOk P w K mg base CX k f fd ps sp
/-- a method that the caller knows -/
def KM (P : Program) (w : World) (K : PySem.W.Frag) (mg : Str → Option Value) (base : Heap) (CX : CXT) (k : Nat) (ps : List Str) (sp : Sp) (C : Addr) (n : Str) (dvs : List V) : Prop :=
  ∃ (f : Addr) (fd : FuncData) (ds : List Value), PySem.W.findIn K (.ref C) n = some (some (.ref f)) ∧ PySem.W.typeIn K (.ref f) = some (.type "function") ∧ PySem.W.isFn K (.ref f) = true ∧ PySem.W.keepIn K (.ref f) = true ∧ Vals dvs ds ∧ Binds K fd ps ds ∧ FnOk P w K mg base CX k f fd ps sp
/-- such a method, its argument's token out -/
def KMR (P : Program) (w : World) (K : PySem.W.Frag) (mg : Str → Option Value) (base : Heap) (CX : CXT) (k : Nat) (ps : List Str) (sp : Sp) (C : Addr) (n : Str) (dvs : List V) : Prop :=
  ∃ (f : Addr) (fd : FuncData) (ds : List Value), PySem.W.findIn K (.ref C) n = some (some (.ref f)) ∧ PySem.W.typeIn K (.ref f) = some (.type "function") ∧ PySem.W.isFn K (.ref f) = true ∧ PySem.W.keepIn K (.ref f) = true ∧ Vals dvs ds ∧ Binds K fd ps ds ∧ FnRaw P w K mg base CX k f fd ps sp
structure Txt (K : PySem.W.Frag) (mg : Str → Option Value) (C_Full : Addr) (C_Log : Addr) (C_NoBack : Addr) (C_NoMark : Addr) (C_NoRow : Addr) (C_Rounds : Addr) (C_Walk : Addr) : Prop where
  b_ArithmeticError : mg "ArithmeticError" = none
  b_KeyError : mg "KeyError" = none
  b_OverflowError : mg "OverflowError" = none
  b_all : mg "all" = none
  b_bool : mg "bool" = none
  b_dict : mg "dict" = none
  b_divmod : mg "divmod" = none
  b_enumerate : mg "enumerate" = none
  b_int : mg "int" = none
  b_isinstance : mg "isinstance" = none
  b_len : mg "len" = none
  b_list : mg "list" = none
  b_max : mg "max" = none
  b_min : mg "min" = none
  b_range : mg "range" = none
  b_sorted : mg "sorted" = none
  b_str : mg "str" = none
  b_tuple : mg "tuple" = none
  g_LETTERS : ∃ u, mg "LETTERS" = some u ∧ RelV (.str "abcdefghijklmnopqrstuvwxyz") u
  g_MOST_LONG : ∃ u, mg "MOST_LONG" = some u ∧ RelV (.int 4000) u
  g_MOST_PLACES : ∃ u, mg "MOST_PLACES" = some u ∧ RelV (.int 61) u
  g_MOST_SIGNS : ∃ u, mg "MOST_SIGNS" = some u ∧ RelV (.int 60) u
  g_SIGNS : ∃ u, mg "SIGNS" = some u ∧ RelV (.str "aAbBcCdDeEfF") u
  v_ArithmeticError : PySem.W.findCls K (.type "ArithmeticError") (.type "type") "__init__" = some (.val (.builtin "ArithmeticError.__init__"))
  v_KeyError : PySem.W.findCls K (.type "KeyError") (.type "type") "__init__" = some (.val (.builtin "KeyError.__init__"))
  v_OverflowError : PySem.W.findCls K (.type "OverflowError") (.type "type") "__init__" = some (.val (.builtin "OverflowError.__init__"))
  y_Full_size : PySem.W.findIn K (.ref C_Full) "size" = some none
  y_Log_own_end : PySem.W.findIn K (.ref C_Log) "own_end" = some none
  y_Log_own_known : PySem.W.findIn K (.ref C_Log) "own_known" = some none
  y_Log_own_marks : PySem.W.findIn K (.ref C_Log) "own_marks" = some none
  y_Log_own_open : PySem.W.findIn K (.ref C_Log) "own_open" = some none
  y_Log_own_text : PySem.W.findIn K (.ref C_Log) "own_text" = some none
  y_NoBack_many : PySem.W.findIn K (.ref C_NoBack) "many" = some none
  y_NoMark_name : PySem.W.findIn K (.ref C_NoMark) "name" = some none
  y_Rounds_own_end : PySem.W.findIn K (.ref C_Rounds) "own_end" = some none
  y_Rounds_own_here : PySem.W.findIn K (.ref C_Rounds) "own_here" = some none
  y_Rounds_own_left : PySem.W.findIn K (.ref C_Rounds) "own_left" = some none
  y_Walk_own_end : PySem.W.findIn K (.ref C_Walk) "own_end" = some none
  y_Walk_own_places : PySem.W.findIn K (.ref C_Walk) "own_places" = some none
  x_Full : ExF K mg "Full" C_Full "OverflowError" "OverflowError.__new__" "OverflowError.__init__" [.type "OverflowError", .type "ArithmeticError", .type "Exception", .type "BaseException", .type "object"]
  x_NoBack : ExF K mg "NoBack" C_NoBack "ArithmeticError" "ArithmeticError.__new__" "ArithmeticError.__init__" [.type "ArithmeticError", .type "Exception", .type "BaseException", .type "object"]
  x_NoMark : ExF K mg "NoMark" C_NoMark "KeyError" "LookupError.__new__" "KeyError.__init__" [.type "KeyError", .type "LookupError", .type "Exception", .type "BaseException", .type "object"]
  x_NoRow : ExK K mg "NoRow" C_NoRow [.type "ValueError", .type "Exception", .type "BaseException", .type "object"] "ValueError.__new__"
  o_Log : OwnK K mg "Log" C_Log
  o_Rounds : OwnK K mg "Rounds" C_Rounds
  o_Walk : OwnK K mg "Walk" C_Walk
  b3 : PySem.W.subIn K (.ref C_NoBack) (.type "ArithmeticError") = some true
  m4 : PySem.W.subIn K (.ref C_NoMark) (.type "KeyError") = some true
  w1 : PySem.W.findIn K (.ref C_Walk) "__class__" = some (some (.builtin "object.__class__"))
  w2 : PySem.W.specialIn K (.builtin "object.__class__") "__get__" = some (some (.builtin "getset_descriptor.__get__"))
  w3 : PySem.W.takesIn K (.builtin "object.__class__") = some true
  w4 : PySem.W.mroIn K C_Walk (.type "object") = some true
  ob_Walk : PySem.W.mroIn K C_Walk (.type "object") = some true
  ne_Walk : PySem.W.findIn K (.ref C_Walk) "__ne__" = some (some (.builtin "object.__ne__"))
  oi : PySem.W.isClsIn K C_Walk = true
  ot : PySem.W.typeIn K (.ref C_Walk) = some (.type "type")
  l1 : PySem.W.findIn K (.ref C_Log) "__class__" = some (some (.builtin "object.__class__"))
  ob_Log : PySem.W.mroIn K C_Log (.type "object") = some true
  ne_Log : PySem.W.findIn K (.ref C_Log) "__ne__" = some (some (.builtin "object.__ne__"))
  lo : PySem.W.isClsIn K C_Log = true
  lt : PySem.W.typeIn K (.ref C_Log) = some (.type "type")
  sub_Walk_Log : PySem.W.subIn K (.ref C_Walk) (.ref C_Log) = some false
  ll : PySem.W.subIn K (.ref C_Log) (.ref C_Log) = some true
  fo : PySem.W.subIn K (.ref C_Full) (.type "OverflowError") = some true
def sp_law_pool (K : PySem.W.Frag) : Sp := fun vs H Q E => ∃ (a : Addr) (ns : List Int) (i : Int), vs = [.ref a, .int i] ∧ (SqL K H a (ns.map V.int)) ∧ (0 ≤ i) ∧ (i < 1000) ∧ ∀ (p : Addr) (H' : Hp), H p = none → Same H H' → Pool H' p → Q (.ref p) H'
def sp_law_take : Sp := fun vs H Q E => ∃ (p : Addr) (m : Int), vs = [.ref p, .int m] ∧ (Pool H p) ∧ (0 < m) ∧ (m < 18446744073709551616) ∧ ∀ (v : Int) (H' : Hp), 0 ≤ v → v < m → Off p H H' → Pool H' p → Q (.int v) H'
def sp_Log___init__ (C_Log : Addr) : Sp := fun vs H Q E => ∃ (a dx : Addr), vs = [.ref a] ∧ (H a = some (.ins C_Log dx [])) ∧ ∀ (kd md : Addr) (H' : Hp), Off a H H' → H kd = none → H md = none → LgAt C_Log H' a kd md [] [] [] → Q .non H'
def sp_is_name : Sp := fun vs H Q E => ∃ (x : V) (r : Bool), vs = [x] ∧ (NmW H x r) ∧ ∀ H' : Hp, Same H H' → Q (.bl r) H'
def sp_NoMark___init__ (C_NoMark : Addr) : Sp := fun vs H Q E => ∃ (a : Addr) (v : V), vs = [.ref a, v] ∧ (H a = some (exo a C_NoMark none)) ∧ ∀ d : Addr, H d = none → d ≠ a → Q .non (upd (upd (upd H d (exd d [])) a (exo a C_NoMark (some d))) d (exd d [(Str.ofString "name", v)]))
def sp_Log_mark (C_Log : Addr) (C_NoMark : Addr) : Sp := fun vs H Q E => ∃ (a kd md : Addr) (s : Lst) (k0 : Nat) (x : V) (rx : Bool), vs = [.ref a, x] ∧ (LgAt C_Log H a kd md s.t s.o s.ms) ∧ (LgI s k0) ∧ (k0 ≤ 100) ∧ (NmW H x rx) ∧ (rx = false → ∀ (d : Addr) (H' : Hp), Same H H' → H' d = some (.xd [(Str.ofString "name", x)]) → E (.ref C_NoMark) (some d) H') ∧ (rx = true → ∀ l : List Nat, x = sT l → ∀ H' : Hp, OffS [a, kd, md] H H' → LgAt C_Log H' a kd md s.t s.o (putK s.ms (kT l) (.int s.o.length)) → Q .non H')
def sp_is_row_within : Sp := fun vs H Q E => ∃ (x : V) (most : Int) (r : Bool), vs = [x, .int most] ∧ (IsRowW H x most r) ∧ ∀ H' : Hp, Same H H' → Q (.bl r) H'
def sp_is_row : Sp := fun vs H Q E => ∃ (x : V) (r : Bool), vs = [x] ∧ (IsRowV H x r) ∧ ∀ H' : Hp, Same H H' → Q (.bl r) H'
def sp_look_at_row (C_NoRow : Addr) : Sp := fun vs H Q E => ∃ (x : V) (r : Bool), vs = [x] ∧ (IsRowV H x r) ∧ (r = true → ∀ H' : Hp, Same H H' → Q .non H') ∧ (r = false → ∀ H' : Hp, Same H H' → E (.ref C_NoRow) none H')
def sp_Full___init__ (C_Full : Addr) : Sp := fun vs H Q E => ∃ (a : Addr) (v : V), vs = [.ref a, v] ∧ (H a = some (exo a C_Full none)) ∧ ∀ d : Addr, H d = none → d ≠ a → Q .non (upd (upd (upd H d (exd d [])) a (exo a C_Full (some d))) d (exd d [(Str.ofString "size", v)]))
def sp_contrary_sign : Sp := fun vs H Q E => ∃ (c : Nat), vs = [.str (S [c])] ∧ (c ∈ sgns) ∧ ∀ H' : Hp, Same H H' → Q (.str (S [con c])) H'
def sp_made_plain : Sp := fun vs H Q E => ∃ (l : List Nat), vs = [.str (S l)] ∧ (Row l) ∧ (l.length ≤ 40000) ∧ ∀ H' : Hp, Same H H' → Q (.str (S (RowM.plain l))) H'
def sp_Log_look_at_room (C_Log : Addr) (C_Full : Addr) : Sp := fun vs H Q E => ∃ (a kd md : Addr) (t o : List Nat) (mk : Mks) (r : List Nat), vs = [.ref a, sT r] ∧ (LgAt C_Log H a kd md t o mk) ∧ (Row t) ∧ (Row r) ∧ (t.length ≤ 4000) ∧ (r.length ≤ 4000) ∧ (OkL t r → ∀ H' : Hp, Same H H' → Q .non H') ∧ (¬ OkL t r → ∀ (d : Addr) (H' : Hp), Same H H' → H' d = some (.xd [(Str.ofString "size", .int (fszL t r : Nat))]) → E (.ref C_Full) (some d) H')
def sp_Log_put (C_Log : Addr) (C_Full : Addr) : Sp := fun vs H Q E => ∃ (a kd md : Addr) (t o : List Nat) (mk : Mks) (r : List Nat), vs = [.ref a, sT r] ∧ (LgAt C_Log H a kd md t o mk) ∧ (Row t) ∧ (Row r) ∧ (t.length ≤ 4000) ∧ (r.length ≤ 4000) ∧ (OkL t r → ∀ H' : Hp, OffS [a, kd] H H' → LgAt C_Log H' a kd md (t ++ r) o mk → Q .non H') ∧ (¬ OkL t r → ∀ (d : Addr) (H' : Hp), Same H H' → H' d = some (.xd [(Str.ofString "size", .int (fszL t r : Nat))]) → E (.ref C_Full) (some d) H')
def sp_Log_do (C_Log : Addr) (C_Full : Addr) (C_NoRow : Addr) : Sp := fun vs H Q E => ∃ (a kd md : Addr) (t o : List Nat) (mk : Mks) (x : V) (rx : Bool), vs = [.ref a, x] ∧ (LgAt C_Log H a kd md t o mk) ∧ (Row t) ∧ (IsRowV H x rx) ∧ (t.length ≤ 4000) ∧ (o.length ≤ 4000) ∧ (rx = false → ∀ H' : Hp, Same H H' → E (.ref C_NoRow) none H') ∧ (rx = true → ∀ r : List Nat, x = sT r → (OkL t r → ∀ H' : Hp, OffS [a, kd] H H' → LgAt C_Log H' a kd md (t ++ r) (o ++ r) mk → Q (.int (t ++ r).length) H') ∧ (¬ OkL t r → ∀ (d : Addr) (H' : Hp), Same H H' → H' d = some (.xd [(Str.ofString "size", .int (fszL t r : Nat))]) → E (.ref C_Full) (some d) H'))
def sp_Log_row (C_Log : Addr) : Sp := fun vs H Q E => ∃ (a kd md : Addr) (t o : List Nat) (mk : Mks), vs = [.ref a] ∧ (LgAt C_Log H a kd md t o mk) ∧ Q (sT t) H
def sp_Log_standing (C_Log : Addr) : Sp := fun vs H Q E => ∃ (a kd md : Addr) (t o : List Nat) (mk : Mks), vs = [.ref a] ∧ (LgAt C_Log H a kd md t o mk) ∧ Q (sT o) H
def sp_Log_marks (C_Log : Addr) : Sp := fun vs H Q E => ∃ (a kd md : Addr) (t o : List Nat) (mk : Mks) (n : Nat), vs = [.ref a] ∧ (LgAt C_Log H a kd md t o mk) ∧ (MkI mk n) ∧ (mk.length < 64) ∧ ∀ (p : Addr) (ys : List Str), ys.Perm (namesM mk) → PyProof.Rows.sortedS ys = true → H p = none → Q (.ref p) (upd H p (.lst (ys.map V.str)))
def sp_Log___len__ (C_Log : Addr) : Sp := fun vs H Q E => ∃ (a kd md : Addr) (t o : List Nat) (mk : Mks), vs = [.ref a] ∧ (LgAt C_Log H a kd md t o mk) ∧ (t.length ≤ 40000) ∧ ∀ H' : Hp, Same H H' → Q (.int t.length) H'
def sp_is_plain_row : Sp := fun vs H Q E => ∃ (l : List Nat), vs = [.str (S l)] ∧ (isRow l = true) ∧ ∀ H' : Hp, Same H H' → Q (.bl (decide (RowM.plain l = l))) H'
def sp_first_wrong (K : PySem.W.Frag) : Sp := fun vs H Q E => ∃ (q : Addr) (ts : List (List Nat)), vs = [.ref q] ∧ (SqL K H q (ts.map sT)) ∧ (TreeS ts) ∧ ∀ H' : Hp, Same H H' → Q .non H'
def sp_rank : Sp := fun vs H Q E => ∃ (l : List Nat), vs = [.str (S l)] ∧ (Row l) ∧ (l.length ≤ 40000) ∧ ∀ (t q : Addr) (H' : Hp), Same H H' → H t = none → H' t = some (.tup [.int l.length, .ref q]) → H' q = some (.lst (l.map fun c => V.int (ix c : Nat))) → Q (.ref t) H'
def sp_Walk___init__ (K : PySem.W.Frag) (C_Walk : Addr) : Sp := fun vs H Q E => ∃ (a dx : Addr) (y : V) (ts : List (List Nat)) (e : List Nat), vs = [.ref a, y, .str (S e)] ∧ (H a = some (.ins C_Walk dx [])) ∧ ((∃ q, y = .ref q ∧ H q = some (.lst (ts.map sT))) ∨ (y = .non ∧ ts = [[]])) ∧ (TreeS ts) ∧ (e ∈ ts) ∧ ∀ (p : Addr) (H' : Hp), Off a H H' → H p = none → WkAt C_Walk H' a p (srt ts) e → Q .non H'
def sp_Log_walk (K : PySem.W.Frag) (C_Log : Addr) (C_Walk : Addr) : Sp := fun vs H Q E => ∃ (a kd md : Addr) (t o : List Nat) (mk : Mks), vs = [.ref a] ∧ (LgAt C_Log H a kd md t o mk) ∧ (Row t) ∧ ((gone t).length ≤ 61) ∧ ∀ (b r : Addr) (H' : Hp), Same H H' → H b = none → H r = none → WkAt C_Walk H' b r (srt (gone t)) (RowM.plain t) → Q (.ref b) H'
def sp_named (K : PySem.W.Frag) : Sp := fun vs H Q E => ∃ (p : List Nat), vs = [.str (S p)] ∧ (p.length ≤ 1000) ∧ ∀ H' : Hp, Same H H' → Q (.str (S (nm p))) H'
def sp_Walk___str__ (K : PySem.W.Frag) (C_Walk : Addr) : Sp := fun vs H Q E => ∃ (a q : Addr) (ps : List (List Nat)) (e : List Nat), vs = [.ref a] ∧ (WkAt C_Walk H a q ps e) ∧ (ps.length ≤ 61) ∧ (∀ p ∈ ps, p.length ≤ 60) ∧ (e.length ≤ 60) ∧ ∀ H' : Hp, Same H H' → Q (.str (S (wtxt ps e))) H'
def sp_Walk_end (C_Walk : Addr) : Sp := fun vs H Q E => ∃ (a q : Addr) (ps : List (List Nat)) (e : List Nat), vs = [.ref a] ∧ (WkAt C_Walk H a q ps e) ∧ ∀ H' : Hp, Same H H' → Q (.str (S e)) H'
def sp_Walk_places (C_Walk : Addr) : Sp := fun vs H Q E => ∃ (a q : Addr) (ps : List (List Nat)) (e : List Nat), vs = [.ref a] ∧ (WkAt C_Walk H a q ps e) ∧ ∀ (p : Addr) (H' : Hp), Same H H' → H p = none → H' p = some (.lst (ps.map sT)) → Q (.ref p) H'
def sp_Rounds___init__ (K : PySem.W.Frag) (C_Rounds : Addr) (C_Walk : Addr) : Sp := fun vs H Q E => ∃ (a dx w q : Addr) (ps : List (List Nat)) (e : List Nat), vs = [.ref a, .ref w] ∧ (H a = some (.ins C_Rounds dx [])) ∧ (WkAt C_Walk H w q ps e) ∧ (Ord ps) ∧ (isRow e = true) ∧ (w ≠ a) ∧ (q ≠ a) ∧ ∀ (d : Addr) (H' : Hp), Off a H H' → H d = none → RdAt C_Rounds H' a d ps e (lft ps e) → Q .non H'
def sp_Rounds_rest_many (K : PySem.W.Frag) (C_Rounds : Addr) : Sp := fun vs H Q E => ∃ (a d : Addr) (ps : List (List Nat)) (e : List Nat) (g : List Nat → List Nat), vs = [.ref a] ∧ (RdAt C_Rounds H a d ps e g) ∧ (∀ p ∈ ps, (g p).length ≤ 61) ∧ ∀ H' : Hp, Same H H' → Q (.int (ways (fun p => (g p).length) ps : Nat)) H'
def sp_is_whole : Sp := fun vs H Q E => ∃ (x : V) (r : Bool), vs = [x] ∧ (IntW H x r) ∧ ∀ H' : Hp, Same H H' → Q (.bl r) H'
def sp_Walk___len__ (C_Walk : Addr) : Sp := fun vs H Q E => ∃ (a q : Addr) (ps : List (List Nat)) (e : List Nat), vs = [.ref a] ∧ (WkAt C_Walk H a q ps e) ∧ (ps.length ≤ 61) ∧ ∀ H' : Hp, Same H H' → Q (.int ps.length) H'
def sp_signs_many (C_Walk : Addr) : Sp := fun vs H Q E => ∃ (a q : Addr) (ps : List (List Nat)) (e : List Nat), vs = [.ref a] ∧ (WkAt C_Walk H a q ps e) ∧ (ps.length ≤ 61) ∧ (e.length ≤ 60) ∧ ∀ H' : Hp, Same H H' → Q (.int (2 * ((ps.length : Int) - 1) - e.length)) H'
def sp_Rounds_home (C_Rounds : Addr) : Sp := fun vs H Q E => ∃ (a d : Addr) (ps : List (List Nat)) (e h : List Nat) (g : List Nat → List Nat), vs = [.ref a] ∧ (RdH C_Rounds H a d ps e h g) ∧ (Row h) ∧ (h.length ≤ 60) ∧ (e.length ≤ 60) ∧ ∀ H' : Hp, Same H H' → Q (.str (S (homeS e h))) H'
def sp_Rounds_choices (C_Rounds : Addr) : Sp := fun vs H Q E => ∃ (a d : Addr) (ps : List (List Nat)) (e h : List Nat) (g : List Nat → List Nat), vs = [.ref a] ∧ (RdH C_Rounds H a d ps e h g) ∧ (h ∈ ps) ∧ (Row h) ∧ (h.length ≤ 60) ∧ (e.length ≤ 60) ∧ ((g h).length ≤ 61) ∧ ∀ H' : Hp, Same H H' → Q (.str (S (if g h = [] then homeS e h else g h))) H'
def sp_Rounds_go_on (C_Rounds : Addr) : Sp := fun vs H Q E => ∃ (a d : Addr) (ps : List (List Nat)) (e h : List Nat) (g : List Nat → List Nat) (c : Nat), vs = [.ref a, .str (S [c])] ∧ (RdH C_Rounds H a d ps e h g) ∧ (h ∈ ps) ∧ (Row h) ∧ (c ∈ sgns) ∧ (h.length ≤ 60) ∧ (ps.length ≤ 61) ∧ ((g h).length ≤ 61) ∧ ∀ H' : Hp, (∀ b o, b ≠ a → b ≠ d → H b = some o → H' b = some o) → RdH C_Rounds H' a d ps e (RowM.plain (h ++ [c])) (setF g h ((g h).filter fun x => decide (x ≠ c))) → Q .non H'
def sp_shortest_at (K : PySem.W.Frag) (C_Rounds : Addr) (C_Walk : Addr) : Sp := fun vs H Q E => ∃ (w q : Addr) (ps : List (List Nat)) (e : List Nat) (n : Nat), vs = [.ref w, .int (n : Int)] ∧ (WkAt C_Walk H w q ps e) ∧ (Ord ps) ∧ (e ∈ ps) ∧ (n < ways (fun p => (lft ps e p).length) ps) ∧ ∀ H' : Hp, Same H H' → Q (.str (S (shortR ps e n))) H'
def sp_Log_short (K : PySem.W.Frag) (C_Log : Addr) (C_Walk : Addr) (C_Rounds : Addr) : Sp := fun vs H Q E => ∃ (a kd md : Addr) (t o : List Nat) (mk : Mks), vs = [.ref a] ∧ (LgAt C_Log H a kd md t o mk) ∧ (Row t) ∧ ((gone t).length ≤ 61) ∧ ∀ H' : Hp, Same H H' → Q (.str (S (shortR (srt (gone t)) (RowM.plain t) 0))) H'
def sp_law_seen (K : PySem.W.Frag) (C_Log : Addr) (C_Walk : Addr) (C_Rounds : Addr) : Sp := fun vs H Q E => ∃ (a kd md : Addr) (s : Lst) (k0 : Nat), vs = [.ref a] ∧ (LgAt C_Log H a kd md s.t s.o s.ms) ∧ (LgI s k0) ∧ (k0 ≤ 700) ∧ (s.ms.length ≤ 60) ∧ ∀ (L P : Addr) (ys : List Str) (H' : Hp), Same H H' → H L = none → H P = none → ys.Perm (namesM s.ms) → PyProof.Rows.sortedS ys = true → H' L = some (.lst (seenL s P)) → H' P = some (.lst (ys.map V.str)) → Q (.ref L) H'
def sp_NoBack___init__ (C_NoBack : Addr) : Sp := fun vs H Q E => ∃ (a : Addr) (v : V), vs = [.ref a, v] ∧ (H a = some (exo a C_NoBack none)) ∧ ∀ d : Addr, H d = none → d ≠ a → Q .non (upd (upd (upd H d (exd d [])) a (exo a C_NoBack (some d))) d (exd d [(Str.ofString "many", v)]))
def sp_turned : Sp := fun vs H Q E => ∃ (l : List Nat), vs = [.str (S l)] ∧ (Row l) ∧ (l.length ≤ 40000) ∧ ∀ H' : Hp, Same H H' → Q (.str (S (RowM.turn l))) H'
def sp_Log_back (C_Log : Addr) (C_Full : Addr) (C_NoBack : Addr) : Sp := fun vs H Q E => ∃ (a kd md : Addr) (s : Lst) (k0 : Nat) (x : V) (rx : Bool), vs = [.ref a, x] ∧ (LgAt C_Log H a kd md s.t s.o s.ms) ∧ (LgI s k0) ∧ (k0 ≤ 700) ∧ (s.t.length ≤ 4000 ∧ s.o.length ≤ 4000 ∧ s.ms.length ≤ 60) ∧ (BkW H s.o.length x rx) ∧ (rx = false → ∀ (d : Addr) (H' : Hp), Same H H' → H' d = some (.xd [(Str.ofString "many", x)]) → E (.ref C_NoBack) (some d) H') ∧ (rx = true → ∀ m : Nat, x = .int (m : Int) → (s.t.length + m ≤ 4000 → ∀ H' : Hp, OffS [a, kd, md] H H' → LgAt C_Log H' a kd md (bakL s m).t (bakL s m).o (bakL s m).ms → Q (.int (bakL s m).t.length) H') ∧ (4000 < s.t.length + m → ∀ (d : Addr) (H' : Hp), Same H H' → H' d = some (.xd [(Str.ofString "size", .int (s.t.length + m : Nat))]) → E (.ref C_Full) (some d) H'))
def sp_Log_back_to (C_Log : Addr) (C_Full : Addr) (C_NoBack : Addr) (C_NoMark : Addr) : Sp := fun vs H Q E => ∃ (a kd md : Addr) (s : Lst) (k0 : Nat) (x : V) (rx : Bool), vs = [.ref a, x] ∧ (LgAt C_Log H a kd md s.t s.o s.ms) ∧ (LgI s k0) ∧ (k0 ≤ 700) ∧ (s.t.length ≤ 4000 ∧ s.o.length ≤ 4000 ∧ s.ms.length ≤ 60) ∧ (NmW H x rx) ∧ (rx = false → ∀ (d : Addr) (H' : Hp), Same H H' → H' d = some (.xd [(Str.ofString "name", x)]) → E (.ref C_NoMark) (some d) H') ∧ (rx = true → ∀ l : List Nat, x = sT l → (valV s.ms (kT l) = none → ∀ (d : Addr) (H' : Hp), Same H H' → H' d = some (.xd [(Str.ofString "name", x)]) → E (.ref C_NoMark) (some d) H') ∧ (∀ v : Nat, valV s.ms (kT l) = some (.int (v : Int)) → (s.t.length + (s.o.length - v) ≤ 4000 → ∀ H' : Hp, OffS [a, kd, md] H H' → LgAt C_Log H' a kd md (bakL s (s.o.length - v)).t (bakL s (s.o.length - v)).o (bakL s (s.o.length - v)).ms → Q (.int ((s.o.length : Int) - v)) H') ∧ (4000 < s.t.length + (s.o.length - v) → ∀ (d : Addr) (H' : Hp), Same H H' → H' d = some (.xd [(Str.ofString "size", .int (s.t.length + (s.o.length - v) : Nat))]) → E (.ref C_Full) (some d) H')))
def sp_law_told (K : PySem.W.Frag) (C_Log : Addr) (C_NoRow : Addr) (C_Full : Addr) (C_NoBack : Addr) (C_NoMark : Addr) : Sp := fun vs H Q E => ∃ (a kd md : Addr) (s s' : Lst) (k0 : Nat) (d : Int) (x : V) (ls : List V), vs = [.ref a, .int d, x] ∧ (LgAt C_Log H a kd md s.t s.o s.ms) ∧ (LgI s k0) ∧ (k0 ≤ 700) ∧ (s.t.length ≤ 4000 ∧ s.o.length ≤ 4000 ∧ s.ms.length ≤ 60) ∧ (AskF s d x ls s') ∧ ∀ (L : Addr) (H' : Hp), OffS [a, kd, md] H H' → LgAt C_Log H' a kd md s'.t s'.o s'.ms → H L = none → H' L = some (.lst ls) → Q (.ref L) H'
def sp_law (K : PySem.W.Frag) : Sp := fun vs H Q E => ∃ (a : Addr) (ns : List Int), vs = [.ref a] ∧ (SqL K H a (ns.map V.int)) ∧ (ns.length ≤ 63) ∧ ∀ H', Q (.bl true) H'
section
variable {P : Program} {w : World} {K : PySem.W.Frag} {mg : Str → Option Value} {base : Heap} {C_Full : Addr} {C_Log : Addr} {C_NoBack : Addr} {C_NoMark : Addr} {C_NoRow : Addr} {C_Rounds : Addr} {C_Walk : Addr}
theorem sc_law_pool : FnScope ["_law_script", "_law_k", "_law_cell", "_law_number"] ["_law_script", "_law_k"] (defScope s_law_pool) := ⟨rfl, rfl, rfl, by decide +kernel, rfl, by decide +kernel, by decide +kernel⟩
theorem ok_law_pool {f : Addr} {fd : FuncData} (F : Fun K "_law_pool" "_law_pool" s_law_pool f fd) (T : Txt K mg C_Full C_Log C_NoBack C_NoMark C_NoRow C_Rounds C_Walk) : FnOk P w K mg base CX0 1 f fd ["_law_script", "_law_k"] (sp_law_pool K) := by
  refine F.ok sc_law_pool (fun vs H Q E h => ?_) (fun cdv A outer s H vs Q E hr h => ?_)
  · obtain ⟨a, ns, i, rfl, _⟩ := h
    all_goals rfl
  · obtain ⟨a, ns, i, rfl, ha, h0, h1, k⟩ := h
    refine ⟨_, (pss_cons (ps_set (i := 2) sc_law_pool.nd rfl (Or.inl rfl) pe_int)
    (pss_cons (ps_if (pt_cmpR op_lt (pv 1) (pe_callB (call_lenK (K := K)) (by rfl) T.b_len (by decide +kernel) (pa_cons (pv 0) pa_nil)) (nomark _)) (pss_one (ps_set (i := 2) sc_law_pool.nd rfl (Or.inl rfl) (pe_ix (ix_listK (K := K)) (pv 0) (pv 1) (fun _ _ => rfl)))) pss_nil)
    (pss_cons (ps_set (i := 3) sc_law_pool.nd rfl (Or.inl rfl) (pe_op op_mod (pe_op op_pow (pe_op op_add (pe_op op_add (pe_op op_mod (pv 2) pe_int) (pe_op op_mul (pe_op op_mul pe_int (pv 1)) (pv 1))) pe_int) pe_int) pe_int))
    (pss_cons (ps_if (pt_cmpR op_lt (pv 2) (pe_op op_pow pe_int pe_int) (nomark _)) (pss_one (ps_set (i := 2) sc_law_pool.nd rfl (Or.inl rfl) pe_int)) pss_nil)
    (pss_one (ps_ret (pe_lst (pa_cons (pv 2) (pa_cons (pv 3) pa_nil))))))))), ?_⟩
    have go : ∀ c : Int, tSeq (tAsg (tOp (rI (fun x j => 0 < j) fun i j => V.int (i % j))
                (tOp (rI CPow fun i j => V.int (i ^ j.toNat))
                  (tOp (rI0 fun i j => V.int (i + j))
                    (tOp (rI0 fun i j => V.int (i + j))
                      (tOp (rI (fun x j => 0 < j) fun i j => V.int (i % j)) (tVar 2) (tC (V.int 2147483629)))
                      (tOp (rI CMul fun i j => V.int (i * j))
                        (tOp (rI CMul fun i j => V.int (i * j)) (tC (V.int 104729)) (tVar 1)) (tVar 1)))
                    (tC (V.int 11)))
                  (tC (V.int 3)))
                (tC (V.int 2147483647)))
              (gName 3))
            (tSeq
              (tIfS
                (tTest
                  (tOp (rI0 fun i j => V.bl (decide (i < j))) (tVar 2)
                    (tOp (rI CPow fun i j => V.int (i ^ j.toNat)) (tC (V.int 10)) (tC (V.int 18)))))
                (tAsg (tC (V.int 0)) (gName 2)) tNext)
              (tRet (tLst (tCons (tVar 2) (tCons (tVar 3) tNil))))) { nx := fun x H' => Q V.non H', rt := Q } [some (.ref a), some (.int i), some (.int c), none] H := fun c => by
        have z0 : 0 ≤ c % 2147483629 := Int.emod_nonneg _ (by decide)
        have z1 : c % 2147483629 < 2147483629 := Int.emod_lt_of_pos _ (by decide)
        have m0 : 0 ≤ i * i := Int.mul_nonneg h0 h0
        have m1 : i * i < 1000000 := by
          have : i * i ≤ 999 * 999 := Int.mul_le_mul (by omega) (by omega) h0 (by decide)
          omega
        have ea : 104729 * i * i = 104729 * (i * i) := Int.mul_assoc _ _ _
        refine ⟨_, rfl, _, _, rfl, rfl, (by show (0 : Int) < 2147483629; decide), _, rfl, _, _, rfl, rfl, .inl ⟨by decide, by decide⟩, _, rfl, _, _, rfl, rfl, .inr ⟨by omega, by omega⟩, _, _, rfl, rfl, _, _, rfl, rfl, _, _, rfl, rfl, ⟨by decide, by decide, by omega⟩, _, _, rfl, rfl, (by show (0 : Int) < 2147483647; decide), ?_⟩
        have y0 : 0 ≤ ((c % 2147483629 + 104729 * i * i + 11) ^ (3 : Int).toNat) % 2147483647 := Int.emod_nonneg _ (by decide)
        have y1 : ((c % 2147483629 + 104729 * i * i + 11) ^ (3 : Int).toNat) % 2147483647 < 2147483647 := Int.emod_lt_of_pos _ (by decide)
        refine ⟨_, rfl, _, _, rfl, rfl, ⟨by decide, by decide, by decide⟩, _, _, rfl, rfl, _, rfl, ?_⟩
        refine ite2 (fun _ => ?_) (fun _ => ?_)
        · exact ⟨_, rfl, _, rfl, (by show 2 ≤ sizeLine; decide), fun p hp => k p _ hp (Same.new hp) ⟨_, _, upd_same, y0, y1⟩⟩
        · exact ⟨_, rfl, _, rfl, (by show 2 ≤ sizeLine; decide), fun p hp => k p _ hp (Same.new hp) ⟨_, _, upd_same, y0, y1⟩⟩
    refine ⟨_, rfl, _, rfl, _, _, rfl, .inl ha, _, _, rfl, rfl, _, rfl, ?_⟩
    refine ite2 (fun q => ?_) (fun _ => go 0)
    have hl : i < (ns.length : Int) := by
      have q := of_decide_eq_true q
      rw [List.length_map] at q
      exact q
    obtain ⟨j, rfl⟩ : ∃ j : Nat, i = (j : Int) := ⟨i.toNat, by omega⟩
    have hj : j < ns.length := by omega
    refine ⟨_, rfl, _, rfl, _, _, _, _, rfl, rfl, ha, atI_nat (by rw [List.getElem?_map, List.getElem?_eq_getElem hj]; rfl), go _⟩
theorem sc_law_take : FnScope ["_law_pool_here", "_law_many", "_law_found"] ["_law_pool_here", "_law_many"] (defScope s_law_take) := ⟨rfl, rfl, rfl, by decide +kernel, rfl, by decide +kernel, by decide +kernel⟩
theorem ok_law_take {f : Addr} {fd : FuncData} (F : Fun K "_law_take" "_law_take" s_law_take f fd) (T : Txt K mg C_Full C_Log C_NoBack C_NoMark C_NoRow C_Rounds C_Walk) : FnOk P w K mg base CX0 1 f fd ["_law_pool_here", "_law_many"] (sp_law_take) := by
  refine F.ok sc_law_take (fun vs H Q E h => ?_) (fun cdv A outer s H vs Q E hr h => ?_)
  · obtain ⟨p, m, rfl, _⟩ := h
    all_goals rfl
  · obtain ⟨p, m, rfl, hp, h0, h1, k⟩ := h
    refine ⟨_, (pss_cons (ps_if (pt_cmpR op_gt (pe_ix (ix_listK (K := K)) (pv 0) pe_int (fun _ _ => rfl)) pe_int (nomark _)) (pss_cons (ps_set (i := 2) sc_law_take.nd rfl (Or.inl rfl) (pe_op op_mod (pe_ix (ix_listK (K := K)) (pv 0) pe_int (fun _ _ => rfl)) (pv 1)))
    (pss_cons (ps_asg (pe_op op_fdivW (pe_ix (ix_listK (K := K)) (pv 0) pe_int (fun _ _ => rfl)) (pv 1)) (pg_sub (pv 0) pe_int set_list))
    (pss_one (ps_ret (pv 2))))) pss_nil)
    (pss_cons (ps_asg (pe_op op_mod (pe_op op_add (pe_op op_mul (pe_ix (ix_listK (K := K)) (pv 0) pe_int (fun _ _ => rfl)) pe_int) pe_int) pe_int) (pg_sub (pv 0) pe_int set_list))
    (pss_one (ps_ret (pe_op op_mod (pe_op op_fdiv (pe_op op_mod (pe_op op_mul (pe_ix (ix_listK (K := K)) (pv 0) pe_int (fun _ _ => rfl)) (pe_ix (ix_listK (K := K)) (pv 0) pe_int (fun _ _ => rfl))) pe_int) pe_int) (pv 1)))))), ?_⟩
    obtain ⟨c, n, hp, n0, n1⟩ := hp
    refine ⟨_, rfl, _, _, _, _, rfl, rfl, SqL.of hp, atI0, _, _, rfl, rfl, _, rfl, ?_⟩
    refine ite2 (fun _ => ?_) (fun _ => ?_)
    · refine ⟨_, rfl, _, _, _, _, rfl, rfl, SqL.of hp, atI0, _, rfl, _, _, rfl, rfl, h0, ?_⟩
      refine ⟨_, rfl, _, _, _, _, rfl, rfl, SqL.of hp, atI0, _, rfl, _, _, rfl, rfl, wide_div h0 (b := 64) (by omega) (by decide) (by decide), _, rfl, _, _, _, 0, rfl, rfl, hp, rfl, ?_⟩
      exact ⟨_, rfl, k _ _ (Int.emod_nonneg _ (by omega)) (Int.emod_lt_of_pos _ h0) (Off.upd (Off.refl _ _)) ⟨_, n, upd_same, n0, n1⟩⟩
    · refine ⟨_, rfl, _, _, _, _, rfl, rfl, SqL.of hp, atI1, _, _, rfl, rfl, .inr ⟨by decide, by decide⟩, _, _, rfl, rfl, _, _, rfl, rfl, (by show (0 : Int) < 2147483647; decide), _, rfl, _, _, _, 1, rfl, rfl, hp, rfl, ?_⟩
      have z0 : 0 ≤ (n * 48271 + 11) % 2147483647 := Int.emod_nonneg _ (by decide)
      have z1 : (n * 48271 + 11) % 2147483647 < 2147483647 := Int.emod_lt_of_pos _ (by decide)
      refine ⟨_, rfl, _, _, _, _, rfl, rfl, SqL.of upd_same, atI1, _, rfl, _, _, _, _, rfl, rfl, SqL.of upd_same, atI1, _, _, rfl, rfl, .inl ⟨by omega, by omega⟩, _, _, rfl, rfl, (by show (0 : Int) < 2147483629; decide), _, _, rfl, rfl, ⟨by decide, by decide⟩, _, rfl, _, _, rfl, rfl, h0, ?_⟩
      exact k _ _ (Int.emod_nonneg _ (by omega)) (Int.emod_lt_of_pos _ h0) (Off.upd (Off.refl _ _)) ⟨_, _, upd_same, z0, z1⟩
theorem sc_Log___init__ : FnScope ["self"] ["self"] (defScope s_Log___init__) := ⟨rfl, rfl, rfl, by decide +kernel, rfl, by decide +kernel, by decide +kernel⟩
theorem ok_Log___init__ {f : Addr} {fd : FuncData} (F : Fun K "__init__" "Log.__init__" s_Log___init__ f fd) (T : Txt K mg C_Full C_Log C_NoBack C_NoMark C_NoRow C_Rounds C_Walk) : FnOk P w K mg base CX0 1 f fd ["self"] (sp_Log___init__ C_Log) := by
  refine F.ok sc_Log___init__ (fun vs H Q E h => ?_) (fun cdv A outer s H vs Q E hr h => ?_)
  · obtain ⟨a, dx, rfl, _⟩ := h
    all_goals rfl
  · obtain ⟨a, dx, rfl, ha, k⟩ := h
    refine ⟨_, (pss_cons (ps_fld (pv 0) pe_str rfl)
    (pss_cons (ps_fld (pv 0) pe_str rfl)
    (pss_cons (ps_fld (pv 0) pe_str rfl)
    (pss_cons (ps_fld (pv 0) (pe_disp (pps_cons pe_str pe_bl pps_nil) (by rfl) (by rfl) (fun z => by cases z) (by decide)) rfl)
    (pss_one (ps_fld (pv 0) pe_dnewK rfl)))))), ?_⟩
    refine ⟨_, rfl, a, C_Log, dx, [], rfl, ha, T.o_Log.cls, T.y_Log_own_text, by decide, ?_⟩
    refine ⟨_, rfl, a, C_Log, dx, _, rfl, upd_same, T.o_Log.cls, T.y_Log_own_open, by show 1 < 1000; decide, ?_⟩
    refine ⟨_, rfl, a, C_Log, dx, _, rfl, upd_same, T.o_Log.cls, T.y_Log_own_end, by show 2 < 1000; decide, ?_⟩
    refine fun kd hkd => ⟨upd_same, [(kT [], .bl true)], rfl, by show 1 ≤ 15; decide, ?_⟩
    rw [merge_T]
    have nk : kd ≠ a := fun e => by rw [e, upd_same] at hkd; cases hkd
    refine ⟨_, rfl, a, C_Log, dx, _, rfl, (by rw [upd_ne nk.symm, upd_ne nk.symm]; exact upd_same), T.o_Log.cls, T.y_Log_own_known, by show 3 < 1000; decide, ?_⟩
    intro md hmd
    have nm : md ≠ a := fun e => by rw [e, upd_same] at hmd; cases hmd
    have nkm : kd ≠ md := fun e => by rw [← e, upd_ne nk, upd_same] at hmd; cases hmd
    refine ⟨_, rfl, a, C_Log, dx, _, rfl, (by rw [upd_ne nm.symm]; exact upd_same), T.o_Log.cls, T.y_Log_own_marks, by show 4 < 1000; decide, ?_⟩
    refine k kd md _ (fun b o hb h => ?_) ?_ ?_ ⟨⟨dx, upd_same⟩, ?_, ?_, nkm⟩
    · have h1 : H kd = none := by simpa only [upd_ne nk] using hkd
      have n1 : b ≠ kd := fun e => by rw [e, h1] at h; cases h
      have h2 : H md = none := by simpa only [upd_ne nm, upd_ne nkm.symm] using hmd
      have n2 : b ≠ md := fun e => by rw [e, h2] at h; cases h
      simp only [upd_ne hb, upd_ne n1, upd_ne n2]
      exact h
    · simpa only [upd_ne nk] using hkd
    · simpa only [upd_ne nm, upd_ne nkm.symm] using hmd
    · simp only [upd_ne nk, upd_ne nkm, upd_same]; rfl
    · simp only [upd_ne nm, upd_same]
theorem sc_is_name : FnScope ["thing", "sign"] ["thing"] (defScope s_is_name) := ⟨rfl, rfl, rfl, by decide +kernel, rfl, by decide +kernel, by decide +kernel⟩
theorem ok_is_name {f : Addr} {fd : FuncData} (F : Fun K "is_name" "is_name" s_is_name f fd) (T : Txt K mg C_Full C_Log C_NoBack C_NoMark C_NoRow C_Rounds C_Walk) : FnOk P w K mg base CX0 1 f fd ["thing"] (sp_is_name) := by
  refine F.ok sc_is_name (fun vs H Q E h => ?_) (fun cdv A outer s H vs Q E hr h => ?_)
  · obtain ⟨x, r, rfl, _⟩ := h
    all_goals rfl
  · obtain ⟨x, r, rfl, hx, k⟩ := h
    refine ⟨_, (pss_one (ps_ret (pe_and (pe_callB (call_isiK1 (K := K)) (by rfl) T.b_isinstance (by decide +kernel) (pa_cons (pv 0) (pa_cons (pe_bltn (v := .ty "str") (by rfl) T.b_str (by decide +kernel) rfl) pa_nil))) (pe_and (pe_chain op_le op_le pe_int (pe_callB call_len_str (by rfl) T.b_len (by decide +kernel) (pa_cons (pv 0) pa_nil)) pe_int) (pe_one (pe_callB (cr_allK (K := K) rfl) (by rfl) T.b_all (by decide +kernel) (pa_cons (pe_lc (own := [("sign", 1)]) (g := gName 1) (tt := tYes) rfl sc_is_name.nd (pi_str (pv 0)) (blkOk_by (own := [("sign", 1)]) (N := ["thing", "sign"]) (sc := defScope s_is_name) (by decide +kernel)) (fun _ _ _ _ _ => (pg_name (i := 1) sc_is_name.nd rfl (Or.inl rfl))) (fun _ _ _ _ _ => pts_nil) (fun _ _ _ _ _ => (pe_cmpR op_in_sign (pv 1) (pe_globC T.g_LETTERS) rfl))) pa_nil))))))), ?_⟩
    obtain ⟨u, hu, ru⟩ := T.g_LETTERS
    rcases hx with ⟨l, rfl, hz, rfl⟩ | ⟨hx, rfl⟩
    · have e0 : okName l = (true && ((decide (1 ≤ l.length) && decide (l.length ≤ 8)) && (l.map fun c => decide (97 ≤ c ∧ c ≤ 122)).all id)) := by
        unfold okName
        rw [List.all_map]
        simp [Bool.and_assoc]
      rw [e0] at k
      refine Evl.s_ret (Evl.ev_andV (Evl.ev_isi (Evl.ev_var rfl) Evl.ev_c (.ty "str") (fun _ _ => .base (.str _)) (kit_ty (r := true) (by decide +kernel)))
        (fun _ => Evl.ev_andV (fun H1 e Q q => ?_) (fun _ => Evl.ev_allN (bs := l.map fun c => decide (97 ≤ c ∧ c ≤ 122)) (el_is (Evl.el_mapS (fun c => .bl (decide (97 ≤ c ∧ c ≤ 122))) (Evl.ev_var rfl) (by rw [len_S]; omega) (fun _ => rfl)
          (fun c H1 e hc => Evl.ev_is (Evl.ev_op (Evl.ev_var rfl) Evl.ev_c Evl.rv_inS) (by rw [decide_eq_decide.mpr (letters_mem c)]))) (by rw [List.map_map]; rfl))))) fun H1 e => k H1 e
      refine ⟨_, rfl, _, rfl, by rw [len_S]; exact sz_of' (by omega), _, _, rfl, rfl, _, rfl, ?_⟩
      have ez : (1 : Int) ≤ ((S l).length : Int) ↔ 1 ≤ l.length := by rw [len_S]; omega
      have ez2 : ((S l).length : Int) ≤ 8 ↔ l.length ≤ 8 := by rw [len_S]; omega
      rw [decide_eq_decide.mpr ez]
      by_cases q1 : 1 ≤ l.length
      rotate_left
      · rw [decide_eq_false q1] at q ⊢
        exact iteF (q H1 (Evl.Ex.refl H1))
      rw [decide_eq_true q1] at q ⊢
      refine iteT ⟨_, _, rfl, rfl, ?_⟩
      show Q (.bl (decide (((S l).length : Int) ≤ 8))) H1
      rw [decide_eq_decide.mpr ez2]
      exact q H1 (Evl.Ex.refl H1)
    · refine Evl.s_ret (Evl.ev_is (v := .bl (false && false)) (Evl.ev_andV (a := false) (fun H1 e Q q => ?_) (fun h => by cases h)) rfl) fun H1 e => k H1 e
      obtain ⟨t, ht, hk⟩ := (NotStr.same hx e).ty (K := K)
      exact ⟨_, rfl, x, _, _, _, false, rfl, .ty "str", ht, kit_ty hk, q H1 (Evl.Ex.refl H1)⟩
theorem sc_NoMark___init__ : FnScope ["self", "name"] ["self", "name"] (defScope s_NoMark___init__) := ⟨rfl, rfl, rfl, by decide +kernel, rfl, by decide +kernel, by decide +kernel⟩
theorem ok_NoMark___init__ {f : Addr} {fd : FuncData} (F : Fun K "__init__" "NoMark.__init__" s_NoMark___init__ f fd) (T : Txt K mg C_Full C_Log C_NoBack C_NoMark C_NoRow C_Rounds C_Walk) : FnOk P w K mg base CX0 1 f fd ["self", "name"] (sp_NoMark___init__ C_NoMark) := by
  refine F.ok sc_NoMark___init__ (fun vs H Q E h => ?_) (fun cdv A outer s H vs Q E hr h => ?_)
  · obtain ⟨a, v, rfl, _⟩ := h
    all_goals rfl
  · obtain ⟨a, v, rfl, ha, k⟩ := h
    refine ⟨_, (pss_cons (ps_expr (pe_xi (B := "KeyError") (ni := "LookupError.__new__") (ii := "KeyError.__init__") (bm := [.type "KeyError", .type "LookupError", .type "Exception", .type "BaseException", .type "object"]) rfl T.b_KeyError (by rfl) (by decide) (by decide) (by kernel_rfl) T.v_KeyError (pa_cons (pv 0) (pa_cons pe_str pa_nil))))
    (pss_one (ps_xs (B := "KeyError") (ni := "LookupError.__new__") (ii := "KeyError.__init__") (bm := [.type "KeyError", .type "LookupError", .type "Exception", .type "BaseException", .type "object"]) (pv 0) (pv 1)))), ?_⟩
    refine ⟨_, rfl, a, C_NoMark, [_], rfl, (by show 1 ≤ 1000; decide), T.x_NoMark.xi, ha, ?_⟩
    exact ⟨_, rfl, _, rfl, a, C_NoMark, rfl, T.x_NoMark.xi, taker_none T.y_NoMark_name, .inl ⟨ha, fun d hd ne => k d hd ne⟩⟩
theorem sc_Log_mark : FnScope ["self", "name"] ["self", "name"] (defScope s_Log_mark) := ⟨rfl, rfl, rfl, by decide +kernel, rfl, by decide +kernel, by decide +kernel⟩
theorem ok_Log_mark {f : Addr} {fd : FuncData} (F : Fun K "mark" "Log.mark" s_Log_mark f fd) (T : Txt K mg C_Full C_Log C_NoBack C_NoMark C_NoRow C_Rounds C_Walk) (kn_is_name : KN P w K mg base CX0 1 ["thing"] (sp_is_name) "is_name" []) (kn_NoMark___init__ : KM P w K mg base CX0 1 ["self", "name"] (sp_NoMark___init__ C_NoMark) C_NoMark "__init__" []) : FnOk P w K mg base (L2.CX P w) 3 f fd ["self", "name"] (sp_Log_mark C_Log C_NoMark) := by
  obtain ⟨f_is_name, fd_is_name, ds_is_name, m_is_name, k_is_name, v_is_name, b_is_name, G_is_name⟩ := kn_is_name
  obtain ⟨f_NoMark___init__, fd_NoMark___init__, ds_NoMark___init__, i_NoMark___init__, t_NoMark___init__, fn_NoMark___init__, k_NoMark___init__, v_NoMark___init__, b_NoMark___init__, G_NoMark___init__⟩ := kn_NoMark___init__
  refine F.okX sc_Log_mark (fun vs H Q E h => ?_) (fun cdv A outer s H vs Q E hr h => ?_)
  · obtain ⟨a, kd, md, s, k0, x, rx, rfl, _⟩ := h
    all_goals rfl
  · obtain ⟨a, kd, md, s, k0, x, rx, rfl, hg, hi, hk, hx, k⟩ := h
    refine ⟨_, (pss_cons (ps_if (pt_not (pt_val (pe_call G_is_name (hr.mono (by decide)) rfl m_is_name k_is_name b_is_name v_is_name pass0 (pa_cons (pv 1) pa_nil)))) (pss_one (ps_raise rfl (takes_of rfl rfl rfl rfl) (pmk_xi T.x_NoMark.xi i_NoMark___init__ t_NoMark___init__ G_NoMark___init__ (hr.mono (by decide)) b_NoMark___init__ v_NoMark___init__ pass0 rfl T.x_NoMark.gC (pa_cons (pv 1) pa_nil)))) pss_nil)
    (pss_one (ps_dput (hu_of hr) (pe_fld (pv 0) rfl) (pv 1) (pe_callB call_len_str (by rfl) T.b_len (by decide +kernel) (pa_cons (pe_fld (pv 0) rfl) pa_nil)) rfl))), ?_⟩
    obtain ⟨k1, k2⟩ := k
    have no : ∀ H1, Same H H1 → rx = false → (tMkO C_NoMark (sp_NoMark___init__ C_NoMark) [] (tCons (tVar 1) tNil)) [some (.ref a), some x] H1 E := fun H1 s1 hr => by
      refine ⟨_, rfl, (by show 1 ≤ 1000; decide), fun e he => ⟨e, x, rfl, upd_same, fun d hd ne => madeF he (fun d' H' s' h' => k1 hr d' H' (Same.trans s1 s') h') d hd ne⟩⟩
    cases rx with
    | false => exact ⟨_, rfl, x, false, rfl, hx, fun H1 s1 => ⟨false, rfl, iteT (no H1 s1 rfl)⟩⟩
    | true =>
      refine ⟨_, rfl, x, true, rfl, hx, fun H1 s1 => ⟨true, rfl, iteF ?_⟩⟩
      obtain ⟨l, rfl, zl⟩ : ∃ l, x = sT l ∧ l.length ≤ 1000 := by
        rcases hx with ⟨l, e, h, _⟩ | ⟨_, h⟩
        · exact ⟨l, e, h⟩
        · cases h
      have hg1 := hg.same s1
      obtain ⟨dx, ga⟩ := hg1.ob
      have hz := hi.z
      have hml := hi.ml
      refine ⟨_, rfl, a, C_Log, dx, _, _, rfl, ga, T.o_Log.cls, T.y_Log_own_open, rfl, _, rfl, (by rw [len_S]; exact sz_of' (by omega)), _, rfl, a, C_Log, dx, _, _, rfl, ga, T.o_Log.cls, T.y_Log_own_marks, rfl, _, rfl, md, _, rfl, DPut.k (k := kT l) hg1.mr (Nat.lt_of_le_of_lt (by omega : _ ≤ 100) (by decide)), ?_⟩
      rw [len_S]
      exact k2 rfl l rfl _ ((OffS.of s1).upd (by simp)) hg1.putM
theorem sc_is_row_within : FnScope ["thing", "most", "sign"] ["thing", "most"] (defScope s_is_row_within) := ⟨rfl, rfl, rfl, by decide +kernel, rfl, by decide +kernel, by decide +kernel⟩
theorem ok_is_row_within {f : Addr} {fd : FuncData} (F : Fun K "is_row_within" "is_row_within" s_is_row_within f fd) (T : Txt K mg C_Full C_Log C_NoBack C_NoMark C_NoRow C_Rounds C_Walk) : FnOk P w K mg base CX0 1 f fd ["thing", "most"] (sp_is_row_within) := by
  refine F.ok sc_is_row_within (fun vs H Q E h => ?_) (fun cdv A outer s H vs Q E hr h => ?_)
  · obtain ⟨x, most, r, rfl, _⟩ := h
    all_goals rfl
  · obtain ⟨x, most, r, rfl, hx, k⟩ := h
    refine ⟨_, (pss_one (ps_ret (pe_and (pe_callB (call_isiK1 (K := K)) (by rfl) T.b_isinstance (by decide +kernel) (pa_cons (pv 0) (pa_cons (pe_bltn (v := .ty "str") (by rfl) T.b_str (by decide +kernel) rfl) pa_nil))) (pe_and (pe_cmpR op_le (pe_callB call_len_str (by rfl) T.b_len (by decide +kernel) (pa_cons (pv 0) pa_nil)) (pv 1) (nomark _)) (pe_one (pe_callB (cr_allK (K := K) rfl) (by rfl) T.b_all (by decide +kernel) (pa_cons (pe_lc (own := [("sign", 2)]) (g := gName 2) (tt := tYes) rfl sc_is_row_within.nd (pi_str (pv 0)) (blkOk_by (own := [("sign", 2)]) (N := ["thing", "most", "sign"]) (sc := defScope s_is_row_within) (by decide +kernel)) (fun _ _ _ _ _ => (pg_name (i := 2) sc_is_row_within.nd rfl (Or.inl rfl))) (fun _ _ _ _ _ => pts_nil) (fun _ _ _ _ _ => (pe_cmpR op_in_sign (pv 2) (pe_globC T.g_SIGNS) rfl))) pa_nil))))))), ?_⟩
    obtain ⟨u, hu, ru⟩ := T.g_SIGNS
    rcases hx with ⟨l, rfl, hz, rfl⟩ | ⟨hx, rfl⟩
    · refine Evl.s_ret (Evl.ev_is (Evl.ev_andV (Evl.ev_isi (Evl.ev_var rfl) Evl.ev_c (.ty "str") (fun _ _ => .base (.str _)) (kit_ty (r := true) (by decide +kernel)))
        (fun _ => Evl.ev_andV (Evl.ev_op (Evl.ev_lenS (Evl.ev_var rfl) (by rw [len_S]; omega)) (Evl.ev_var rfl) Evl.rv_I0)
          (fun _ => Evl.ev_allN (bs := l.map fun c => decide (c ∈ sgns)) (el_is (Evl.el_mapS (fun c => .bl (decide (c ∈ sgns))) (Evl.ev_var rfl) (by rw [len_S]; omega) (fun _ => rfl)
            (fun c H1 e hc => Evl.ev_is (Evl.ev_op (Evl.ev_var rfl) Evl.ev_c Evl.rv_inS) (by rw [decide_eq_decide.mpr (iff_of_eq (sgns_mem c))]))) (by rw [List.map_map]; rfl))))) ?_) fun H1 e => k H1 e
      rw [len_S]
      simp [List.all_map, Function.comp]
    · obtain ⟨t, ht, hk⟩ := hx.ty (K := K)
      refine Evl.s_ret (v := .bl (false && false)) (Evl.ev_andV (a := false) (fun H1 e Q q => ?_) (fun h => by cases h)) fun H1 e => k H1 e
      obtain ⟨t, ht, hk⟩ := (NotStr.same hx e).ty (K := K)
      exact ⟨_, rfl, x, _, _, _, false, rfl, .ty "str", ht, kit_ty hk, q H1 (Evl.Ex.refl H1)⟩
theorem sc_is_row : FnScope ["thing"] ["thing"] (defScope s_is_row) := ⟨rfl, rfl, rfl, by decide +kernel, rfl, by decide +kernel, by decide +kernel⟩
theorem ok_is_row {f : Addr} {fd : FuncData} (F : Fun K "is_row" "is_row" s_is_row f fd) (T : Txt K mg C_Full C_Log C_NoBack C_NoMark C_NoRow C_Rounds C_Walk) (kn_is_row_within : KN P w K mg base CX0 1 ["thing", "most"] (sp_is_row_within) "is_row_within" []) : FnOk P w K mg base CX0 2 f fd ["thing"] (sp_is_row) := by
  obtain ⟨f_is_row_within, fd_is_row_within, ds_is_row_within, m_is_row_within, k_is_row_within, v_is_row_within, b_is_row_within, G_is_row_within⟩ := kn_is_row_within
  refine F.ok sc_is_row (fun vs H Q E h => ?_) (fun cdv A outer s H vs Q E hr h => ?_)
  · obtain ⟨x, r, rfl, _⟩ := h
    all_goals rfl
  · obtain ⟨x, r, rfl, hx, k⟩ := h
    refine ⟨_, (pss_one (ps_ret (pe_call G_is_row_within (hr.mono (by decide)) rfl m_is_row_within k_is_row_within b_is_row_within v_is_row_within pass0 (pa_cons (pv 0) (pa_cons (pe_globC T.g_MOST_SIGNS) pa_nil))))), ?_⟩
    exact ⟨_, rfl, x, 60, r, rfl, hx.w, fun H1 e => k H1 e⟩
theorem sc_look_at_row : FnScope ["thing"] ["thing"] (defScope s_look_at_row) := ⟨rfl, rfl, rfl, by decide +kernel, rfl, by decide +kernel, by decide +kernel⟩
theorem ok_look_at_row {f : Addr} {fd : FuncData} (F : Fun K "look_at_row" "look_at_row" s_look_at_row f fd) (T : Txt K mg C_Full C_Log C_NoBack C_NoMark C_NoRow C_Rounds C_Walk) (kn_is_row : KN P w K mg base CX0 2 ["thing"] (sp_is_row) "is_row" []) : FnOk P w K mg base (L2.CX P w) 3 f fd ["thing"] (sp_look_at_row C_NoRow) := by
  obtain ⟨f_is_row, fd_is_row, ds_is_row, m_is_row, k_is_row, v_is_row, b_is_row, G_is_row⟩ := kn_is_row
  refine F.okX sc_look_at_row (fun vs H Q E h => ?_) (fun cdv A outer s H vs Q E hr h => ?_)
  · obtain ⟨x, r, rfl, _⟩ := h
    all_goals rfl
  · obtain ⟨x, r, rfl, hx, k⟩ := h
    refine ⟨_, (pss_one (ps_if (pt_not (pt_val (pe_call G_is_row (hr.mono (by decide)) rfl m_is_row k_is_row b_is_row v_is_row pass0 (pa_cons (pv 0) pa_nil)))) (pss_one (ps_raise rfl (takes_of rfl rfl rfl rfl) (pmk_own PySem.F.excBase_ValueError T.x_NoRow.xC T.x_NoRow.gC T.x_NoRow.kC (raises_own T.x_NoRow.bC T.x_NoRow.tC) rfl))) pss_nil)), ?_⟩
    obtain ⟨k1, k2⟩ := k
    refine ⟨_, rfl, x, r, rfl, hx, fun H1 e => ⟨_, rfl, ?_⟩⟩
    cases r with
    | true => exact iteF (k1 rfl H1 e)
    | false => exact iteT (k2 rfl H1 e)
theorem sc_Full___init__ : FnScope ["self", "size"] ["self", "size"] (defScope s_Full___init__) := ⟨rfl, rfl, rfl, by decide +kernel, rfl, by decide +kernel, by decide +kernel⟩
theorem ok_Full___init__ {f : Addr} {fd : FuncData} (F : Fun K "__init__" "Full.__init__" s_Full___init__ f fd) (T : Txt K mg C_Full C_Log C_NoBack C_NoMark C_NoRow C_Rounds C_Walk) : FnOk P w K mg base CX0 1 f fd ["self", "size"] (sp_Full___init__ C_Full) := by
  refine F.ok sc_Full___init__ (fun vs H Q E h => ?_) (fun cdv A outer s H vs Q E hr h => ?_)
  · obtain ⟨a, v, rfl, _⟩ := h
    all_goals rfl
  · obtain ⟨a, v, rfl, ha, k⟩ := h
    refine ⟨_, (pss_cons (ps_expr (pe_xi (B := "OverflowError") (ni := "OverflowError.__new__") (ii := "OverflowError.__init__") (bm := [.type "OverflowError", .type "ArithmeticError", .type "Exception", .type "BaseException", .type "object"]) rfl T.b_OverflowError (by rfl) (by decide) (by decide) (by kernel_rfl) T.v_OverflowError (pa_cons (pv 0) (pa_cons pe_str pa_nil))))
    (pss_one (ps_xs (B := "OverflowError") (ni := "OverflowError.__new__") (ii := "OverflowError.__init__") (bm := [.type "OverflowError", .type "ArithmeticError", .type "Exception", .type "BaseException", .type "object"]) (pv 0) (pv 1)))), ?_⟩
    refine ⟨_, rfl, a, C_Full, [_], rfl, (by show 1 ≤ 1000; decide), T.x_Full.xi, ha, ?_⟩
    exact ⟨_, rfl, _, rfl, a, C_Full, rfl, T.x_Full.xi, taker_none T.y_Full_size, .inl ⟨ha, fun d hd ne => k d hd ne⟩⟩
theorem sc_contrary_sign : FnScope ["sign"] ["sign"] (defScope s_contrary_sign) := ⟨rfl, rfl, rfl, by decide +kernel, rfl, by decide +kernel, by decide +kernel⟩
theorem ok_contrary_sign {f : Addr} {fd : FuncData} (F : Fun K "contrary_sign" "contrary_sign" s_contrary_sign f fd) (T : Txt K mg C_Full C_Log C_NoBack C_NoMark C_NoRow C_Rounds C_Walk) : FnOk P w K mg base CX0 1 f fd ["sign"] (sp_contrary_sign) := by
  refine F.ok sc_contrary_sign (fun vs H Q E h => ?_) (fun cdv A outer s H vs Q E hr h => ?_)
  · obtain ⟨c, rfl, _⟩ := h
    all_goals rfl
  · obtain ⟨c, rfl, hc, k⟩ := h
    refine ⟨_, (pss_one (ps_ret (pe_ifExp (pt_val (pe_m0 PySem.F.slot_str_isupper PySem.F.type_str_isupper mt_isupper (pv 0))) (pe_lower (pv 0)) (pe_upper (pv 0))))), ?_⟩
    refine Evl.s_ret (Evl.ev_is (Evl.ev_ifv (Evl.et_B (Evl.ev_m0 (Evl.ev_var rfl) trivial)) (fun _ => Evl.ev_m0 (Evl.ev_var rfl) one_le) (fun _ => Evl.ev_m0 (Evl.ev_var rfl) one_le)) ?_) fun H1 e => k H1 e
    rw [up1 c hc, low1 c hc, isup1 c hc]
    unfold con lo up
    by_cases h : c < 97
    · have h2 : ¬ 97 ≤ c := by omega
      rw [decide_eq_true h, if_pos rfl, if_neg h2, if_neg h2]
    · have h2 : 97 ≤ c := by omega
      rw [decide_eq_false h, if_neg (by decide), if_pos h2, if_pos h2]
theorem sc_made_plain : FnScope ["text", "found", "sign"] ["text"] (defScope s_made_plain) := ⟨rfl, rfl, rfl, by decide +kernel, rfl, by decide +kernel, by decide +kernel⟩
theorem ok_made_plain {f : Addr} {fd : FuncData} (F : Fun K "made_plain" "made_plain" s_made_plain f fd) (T : Txt K mg C_Full C_Log C_NoBack C_NoMark C_NoRow C_Rounds C_Walk) (kn_contrary_sign : KN P w K mg base CX0 1 ["sign"] (sp_contrary_sign) "contrary_sign" []) : FnOk P w K mg base CX0 2 f fd ["text"] (sp_made_plain) := by
  obtain ⟨f_contrary_sign, fd_contrary_sign, ds_contrary_sign, m_contrary_sign, k_contrary_sign, v_contrary_sign, b_contrary_sign, G_contrary_sign⟩ := kn_contrary_sign
  refine F.ok sc_made_plain (fun vs H Q E h => ?_) (fun cdv A outer s H vs Q E hr h => ?_)
  · obtain ⟨l, rfl, _⟩ := h
    all_goals rfl
  · obtain ⟨l, rfl, hl, hz, k⟩ := h
    refine ⟨_, (pss_cons (ps_set (i := 1) sc_made_plain.nd rfl (Or.inl rfl) pe_str)
    (pss_cons (ps_for PassesOwn.never rfl (pi_str (pv 0)) (pg_name (i := 2) sc_made_plain.nd rfl (Or.inl rfl)) (pss_one (ps_if (pt_val (pe_m1 PySem.F.slot_str_endswith PySem.F.type_str_endswith mt_endswith (pv 1) (pe_call G_contrary_sign (hr.mono (by decide)) rfl m_contrary_sign k_contrary_sign b_contrary_sign v_contrary_sign pass0 (pa_cons (pv 2) pa_nil)))) (pss_one (ps_set (i := 1) sc_made_plain.nd rfl (Or.inl rfl) (pe_slice sl_str (pv 1) po_none (po_some (pe_un un_neg pe_int))))) (pss_one (ps_aug (i := 1) sc_made_plain.nd rfl (Or.inl rfl) (pv 2) iop_add_str)))))
    (pss_one (ps_ret (pv 1))))), ?_⟩
    refine ⟨_, rfl, _, rfl, for_it walk_str (fun i σ H' => ∃ x, σ = [some (.str (S l)), some (.str (S (RowM.plain (l.take i)))), x] ∧ Same H H') ⟨_, rfl, Same.refl H⟩ (fun _ _ _ _ _ => trivial) ?_ ?_⟩
    · rintro i v σ H3 H4 hi ⟨x, rfl, s3⟩ ⟨rfl, c, hc, rfl⟩
      have hc' : l[i]? = some c := by simpa using hc
      have sc : c ∈ sgns := hl c (List.mem_of_getElem? hc')
      have em := made_on hc'
      have pz : (RowM.plain (l.take i)).length ≤ 40000 := Nat.le_trans (RowM.plain_length _) (by rw [List.length_take]; omega)
      obtain ⟨p, ep⟩ : ∃ p, p = RowM.plain (l.take i) := ⟨_, rfl⟩
      rw [← ep] at em pz ⊢
      refine ⟨_, rfl, ⟨_, rfl⟩, _, rfl, c, rfl, sc, fun H5 s5 => ⟨_, _, rfl, rfl, _, rfl, ?_⟩⟩
      rw [ends_last]
      by_cases q : p.getLast? = some (con c)
      · rw [decide_eq_true q]
        obtain ⟨m, d, e⟩ := exists_snoc (m := p) (fun z => by rw [z] at q; cases q)
        subst e
        have ed : d = con c := by simpa using q
        subst ed
        refine iteT ⟨_, rfl, _, rfl, _, rfl, _, rfl, sz_of' (by rw [len_S]; omega), ?_⟩
        rw [cut_last]
        rw [on_snoc] at em
        exact ⟨_, by rw [em]; rfl, Same.trans s3 s5⟩
      · rw [decide_eq_false q]
        rw [on_else q] at em
        refine iteF ⟨_, rfl, _, rfl, _, _, rfl, rfl, sz_of' (by rw [len_S]; show p.length + 1 ≤ _; omega), ?_⟩
        have ea : S p ++ (⟨#[c]⟩ : Str) = S (p ++ [c]) := add_S p [c]
        rw [ea]
        exact ⟨_, by rw [em]; rfl, Same.trans s3 s5⟩
    rintro σ H3 ⟨x, rfl, s3⟩
    have et : l.take (S l).cps.size = l := by
      have : (S l).cps.size = l.length := len_S l
      rw [this, List.take_length]
    rw [et]
    exact ⟨_, rfl, k H3 s3⟩
theorem sc_Log_look_at_room : FnScope ["self", "text", "size", "here", "known", "sign"] ["self", "text"] (defScope s_Log_look_at_room) := ⟨rfl, rfl, rfl, by decide +kernel, rfl, by decide +kernel, by decide +kernel⟩
theorem ok_Log_look_at_room {f : Addr} {fd : FuncData} (F : Fun K "look_at_room" "Log.look_at_room" s_Log_look_at_room f fd) (T : Txt K mg C_Full C_Log C_NoBack C_NoMark C_NoRow C_Rounds C_Walk) (kn_Full___init__ : KM P w K mg base CX0 1 ["self", "size"] (sp_Full___init__ C_Full) C_Full "__init__" []) (kn_made_plain : KN P w K mg base CX0 2 ["text"] (sp_made_plain) "made_plain" []) : FnOk P w K mg base (L2.CX P w) 3 f fd ["self", "text"] (sp_Log_look_at_room C_Log C_Full) := by
  obtain ⟨f_Full___init__, fd_Full___init__, ds_Full___init__, i_Full___init__, t_Full___init__, fn_Full___init__, k_Full___init__, v_Full___init__, b_Full___init__, G_Full___init__⟩ := kn_Full___init__
  obtain ⟨f_made_plain, fd_made_plain, ds_made_plain, m_made_plain, k_made_plain, v_made_plain, b_made_plain, G_made_plain⟩ := kn_made_plain
  refine F.okX sc_Log_look_at_room (fun vs H Q E h => ?_) (fun cdv A outer s H vs Q E hr h => ?_)
  · obtain ⟨a, kd, md, t, o, mk, r, rfl, _⟩ := h
    all_goals rfl
  · obtain ⟨a, kd, md, t, o, mk, r, rfl, hg, rt, rr, ht, hr4, k⟩ := h
    refine ⟨_, (pss_cons (ps_set (i := 2) sc_Log_look_at_room.nd rfl (Or.inl rfl) (pe_op op_add (pe_callB call_len_str (by rfl) T.b_len (by decide +kernel) (pa_cons (pe_fld (pv 0) rfl) pa_nil)) (pe_callB call_len_str (by rfl) T.b_len (by decide +kernel) (pa_cons (pv 1) pa_nil))))
    (pss_cons (ps_if (pt_cmpR op_gt (pv 2) (pe_globC T.g_MOST_LONG) (nomark _)) (pss_one (ps_raise rfl (takes_of rfl rfl rfl rfl) (pmk_xi T.x_Full.xi i_Full___init__ t_Full___init__ G_Full___init__ (hr.mono (by decide)) b_Full___init__ v_Full___init__ pass0 rfl T.x_Full.gC (pa_cons (pv 2) pa_nil)))) pss_nil)
    (pss_cons (ps_set (i := 3) sc_Log_look_at_room.nd rfl (Or.inl rfl) (pe_fld (pv 0) rfl))
    (pss_cons (ps_set (i := 4) sc_Log_look_at_room.nd rfl (Or.inl rfl) (pe_callTy call_dictC (by rfl) T.b_dict (by decide +kernel) (pa_cons (pe_fld (pv 0) rfl) pa_nil)))
    (pss_cons (ps_for (passes_of rfl) rfl (pi_str (pv 1)) (pg_name (i := 5) sc_Log_look_at_room.nd rfl (Or.inl rfl)) (pss_cons (ps_set (i := 3) sc_Log_look_at_room.nd rfl (Or.inl rfl) (pe_call G_made_plain (hr.mono (by decide)) rfl m_made_plain k_made_plain b_made_plain v_made_plain pass0 (pa_cons (pe_op op_add_str (pv 3) (pv 5)) pa_nil)))
    (pss_one (ps_dput (hu_of hr) (pv 4) (pv 3) pe_bl rfl))))
    (pss_one (ps_if (pt_cmpR op_gt (pe_callB call_lenD (by rfl) T.b_len (by decide +kernel) (pa_cons (pv 4) pa_nil)) (pe_globC T.g_MOST_PLACES) (nomark _)) (pss_one (ps_raise rfl (takes_of rfl rfl rfl rfl) (pmk_xi T.x_Full.xi i_Full___init__ t_Full___init__ G_Full___init__ (hr.mono (by decide)) b_Full___init__ v_Full___init__ pass0 rfl T.x_Full.gC (pa_cons (pe_callB call_lenD (by rfl) T.b_len (by decide +kernel) (pa_cons (pv 4) pa_nil)) pa_nil)))) pss_nil))))))), ?_⟩
    obtain ⟨k1, k2⟩ := k
    obtain ⟨dx, ga⟩ := hg.ob
    refine ⟨_, rfl, a, C_Log, dx, _, _, rfl, ga, T.o_Log.cls, T.y_Log_own_text, rfl, _, rfl, (by rw [len_S]; exact sz_of' (by omega)), _, rfl, _, rfl, (by rw [len_S]; exact sz_of' (by omega)), _, _, rfl, rfl, ?_⟩
    refine ⟨_, rfl, _, _, rfl, rfl, _, rfl, ?_⟩
    by_cases q0 : 4000 < t.length + r.length
    · rw [show decide ((4000 : Int) < ((S t).length : Int) + ((S r).length : Int)) = true from decide_eq_true (by rw [len_S, len_S]; omega)]
      have nk : ¬ OkL t r := fun h => absurd h.1 (by omega)
      have ez : ((S t).length : Int) + ((S r).length : Int) = ((fszL t r : Nat) : Int) := by rw [fszL_long q0, len_S, len_S]; omega
      exact iteT ⟨_, rfl, (by show 1 ≤ 1000; decide), fun e he => ⟨e, _, rfl, upd_same, fun d' hd' ne => madeF he (fun d'' H' s' h' => k2 nk d'' H' s' (by rw [h', ← ez])) d' hd' ne⟩⟩
    rw [show decide ((4000 : Int) < ((S t).length : Int) + ((S r).length : Int)) = false from decide_eq_false (by rw [len_S, len_S]; omega)]
    refine iteF ⟨_, rfl, a, C_Log, dx, _, _, rfl, ga, T.o_Log.cls, T.y_Log_own_end, rfl, ?_⟩
    refine ⟨_, rfl, a, C_Log, dx, _, _, rfl, ga, T.o_Log.cls, T.y_Log_own_known, rfl, kd, _, rfl, Rd.of hg.kn, fun d hd => ?_⟩
    have s0 := Same.new (o := .dK (kvT (gone t))) hd
    refine ⟨_, rfl, _, rfl, for_it walk_str (fun i σ H' => ∃ x, σ = [some (.ref a), some (sT r), some (.int ((S t).length + (S r).length)), some (sT (RowM.plain (t ++ r.take i))), some (.ref d), x] ∧ Same H H' ∧ H' d = some (.dK (kvT (gone (t ++ r.take i))))) ⟨_, by rw [List.take_zero, List.append_nil]; rfl, s0, by rw [List.take_zero, List.append_nil]; exact upd_same⟩ (fun _ _ _ _ _ => trivial) ?_ ?_⟩
    · rintro i v σ H3 H4 hi ⟨x, rfl, s3, g3⟩ ⟨rfl, c, hc, rfl⟩
      have hc' : r[i]? = some c := by simpa using hc
      have sc : c ∈ sgns := rr c (List.mem_of_getElem? hc')
      have ru : Row (t ++ r.take i) := row_app rt fun d hd => rr d (List.mem_of_mem_take hd)
      obtain ⟨e1, e2, e3⟩ := next_at ru hc'
      have pp := WalkM.prow_plain ru
      have pz : (RowM.plain (t ++ r.take i)).length ≤ 4000 := Nat.le_trans (RowM.plain_length _) (by rw [List.length_append, List.length_take]; omega)
      refine ⟨_, rfl, _, rfl, _, _, rfl, rfl, sz_of' (by rw [len_S]; show _ + 1 ≤ _; omega), RowM.plain (t ++ r.take i) ++ [c], (by show [V.str (S (RowM.plain (t ++ r.take i)) ++ S [c])] = _; rw [add_S]), row_snoc pp.1 sc, by rw [List.length_append]; show _ + 1 ≤ _; omega, fun H5 s5 => ?_⟩
      rw [e2]
      have g5 := s5 _ _ g3
      refine ⟨_, rfl, _, rfl, d, _, rfl, DPut.k (k := kT (RowM.plain (t ++ r.take (i + 1)))) g5 (by rw [len_kvT]; exact Nat.lt_of_le_of_lt (WalkM.gone_length _) (Nat.lt_of_le_of_lt (by rw [List.length_append, List.length_take]; omega : _ ≤ 5000) (by decide))), ?_⟩
      refine ⟨_, rfl, fun b o hb => ?_, ?_⟩
      · rw [upd_ne (ne_of_none hb hd)]
        exact s5 _ _ (s3 _ _ hb)
      · rw [upd_same, put_T, e3]
    rintro σ H3 ⟨x, rfl, s3, g3⟩
    have et : r.take (S r).cps.size = r := by
      have : (S r).cps.size = r.length := len_S r
      rw [this, List.take_length]
    rw [et] at g3
    refine ⟨_, rfl, d, _, rfl, g3, _, _, rfl, rfl, _, rfl, ?_⟩
    rw [len_kvT]
    by_cases q : (gone (t ++ r)).length ≤ 61
    · rw [decide_eq_false (by omega)]
      exact iteF (k1 ⟨by omega, q⟩ H3 s3)
    · rw [decide_eq_true (by omega)]
      refine iteT ⟨_, rfl, d, _, rfl, g3, (by show 1 ≤ 1000; decide), fun e he => ⟨e, .int ((kvT (gone (t ++ r))).length : Nat), rfl, upd_same, fun d' hd' ne => madeF he (fun d'' H' s' h' => k2 (fun h => q h.2) d'' H' (Same.trans s3 s') (by rw [h', len_kvT, fszL_wide q0])) d' hd' ne⟩⟩
theorem sc_Log_put : FnScope ["self", "text", "sign"] ["self", "text"] (defScope s_Log_put) := ⟨rfl, rfl, rfl, by decide +kernel, rfl, by decide +kernel, by decide +kernel⟩
theorem ok_Log_put {f : Addr} {fd : FuncData} (F : Fun K "put" "Log.put" s_Log_put f fd) (T : Txt K mg C_Full C_Log C_NoBack C_NoMark C_NoRow C_Rounds C_Walk) (kn_Log_look_at_room : KM P w K mg base (L2.CX P w) 3 ["self", "text"] (sp_Log_look_at_room C_Log C_Full) C_Log "look_at_room" []) (kn_made_plain : KN P w K mg base CX0 2 ["text"] (sp_made_plain) "made_plain" []) : FnOk P w K mg base (L2.CX P w) 4 f fd ["self", "text"] (sp_Log_put C_Log C_Full) := by
  obtain ⟨f_Log_look_at_room, fd_Log_look_at_room, ds_Log_look_at_room, i_Log_look_at_room, t_Log_look_at_room, fn_Log_look_at_room, k_Log_look_at_room, v_Log_look_at_room, b_Log_look_at_room, G_Log_look_at_room⟩ := kn_Log_look_at_room
  obtain ⟨f_made_plain, fd_made_plain, ds_made_plain, m_made_plain, k_made_plain, v_made_plain, b_made_plain, G_made_plain⟩ := kn_made_plain
  refine F.okX sc_Log_put (fun vs H Q E h => ?_) (fun cdv A outer s H vs Q E hr h => ?_)
  · obtain ⟨a, kd, md, t, o, mk, r, rfl, _⟩ := h
    all_goals rfl
  · obtain ⟨a, kd, md, t, o, mk, r, rfl, hg, rt, rr, ht, hr4, k⟩ := h
    refine ⟨_, (pss_cons (ps_expr (pe_meth (pv 0) T.o_Log.cls ⟨i_Log_look_at_room, fn_Log_look_at_room, k_Log_look_at_room⟩ G_Log_look_at_room (hr.mono (by decide)) b_Log_look_at_room v_Log_look_at_room (passes_call (E := E) (takes_of rfl rfl rfl rfl) (fun _ _ _ _ h => h)) (pa_cons (pv 1) pa_nil)))
    (pss_cons (ps_for (passes_of rfl) rfl (pi_str (pv 1)) (pg_name (i := 2) sc_Log_put.nd rfl (Or.inl rfl)) (pss_cons (ps_fld (pv 0) (pe_call G_made_plain (hr.mono (by decide)) rfl m_made_plain k_made_plain b_made_plain v_made_plain pass0 (pa_cons (pe_op op_add_str (pe_fld (pv 0) rfl) (pv 2)) pa_nil)) rfl)
    (pss_one (ps_expr (pe_dsetd (pe_fld (pv 0) rfl) (pe_fld (pv 0) rfl) pe_bl ⟨rfl, by rfl, by rfl, by rfl⟩)))))
    (pss_one (ps_fldaug (pv 0) (pv 1) in_addS)))), ?_⟩
    obtain ⟨k1, k2⟩ := k
    refine ⟨_, rfl, a, _, _, rfl, hg.ob.choose_spec, rfl, _, rfl, a, kd, md, t, o, mk, r, rfl, hg, rt, rr, ht, hr4, ⟨fun q H1 s1 => ?_, fun q d H1 s1 hd => k2 q d H1 s1 hd⟩⟩
    have hz := q.1
    have hg1 := hg.same s1
    refine ⟨_, rfl, _, rfl, for_it walk_str (fun i σ H' => ∃ x, σ = [some (.ref a), some (sT r), x] ∧ OffS [a, kd] H H' ∧ LgF C_Log H' a kd md t o (RowM.plain (t ++ r.take i)) (gone (t ++ r.take i)) mk) ⟨_, rfl, OffS.of s1, by rw [List.take_zero, List.append_nil]; exact hg1⟩ (fun _ _ _ _ _ => trivial) ?_ ?_⟩
    · rintro i v σ H3 H4 hi ⟨x, rfl, s3, g3⟩ ⟨rfl, c, hc, rfl⟩
      have hc' : r[i]? = some c := by simpa using hc
      have sc : c ∈ sgns := rr c (List.mem_of_getElem? hc')
      have ru : Row (t ++ r.take i) := row_app rt fun d hd => rr d (List.mem_of_mem_take hd)
      obtain ⟨e1, e2, e3⟩ := next_at ru hc'
      have pp := WalkM.prow_plain ru
      have pz : (RowM.plain (t ++ r.take i)).length ≤ 4000 := Nat.le_trans (RowM.plain_length _) (by rw [List.length_append, List.length_take]; omega)
      obtain ⟨dx, ga⟩ := g3.ob
      refine ⟨_, rfl, a, C_Log, dx, _, _, rfl, ga, T.o_Log.cls, T.y_Log_own_end, rfl, _, rfl, _, _, rfl, rfl, sz_of' (by rw [len_S]; show _ + 1 ≤ _; omega), RowM.plain (t ++ r.take i) ++ [c], (by show [V.str (S (RowM.plain (t ++ r.take i)) ++ S [c])] = _; rw [add_S]), row_snoc pp.1 sc, by rw [List.length_append]; show _ + 1 ≤ _; omega, fun H5 s5 => ?_⟩
      rw [e2]
      have g5 := g3.same s5
      refine ⟨_, rfl, a, C_Log, dx, _, rfl, s5 _ _ ga, T.o_Log.cls, T.y_Log_own_end, by show 5 < 1000; decide, ?_⟩
      have g6 : LgF C_Log (upd H5 a (.ins C_Log dx (lgF t o (RowM.plain (t ++ r.take (i + 1))) kd md))) a kd md t o (RowM.plain (t ++ r.take (i + 1))) (gone (t ++ r.take i)) mk := g5.putO
      have o6 : OffS [a, kd] H (upd H5 a (.ins C_Log dx (lgF t o (RowM.plain (t ++ r.take (i + 1))) kd md))) := (s3.trans (OffS.of s5)).upd (by simp)
      refine ⟨_, rfl, a, C_Log, dx, _, _, rfl, upd_same, T.o_Log.cls, T.y_Log_own_known, rfl, kd, rfl, .inl ⟨_, .inl g6.kn⟩, ?_⟩
      refine ⟨_, rfl, a, C_Log, dx, _, _, rfl, upd_same, T.o_Log.cls, T.y_Log_own_end, rfl, kvT (gone (t ++ r.take i)), kT (RowM.plain (t ++ r.take (i + 1))), g6.kn, rfl, ?_, fun v hv => ?_, fun hv => ?_⟩
      · rw [len_kvT]; exact Nat.lt_of_le_of_lt (WalkM.gone_length _) (Nat.lt_of_le_of_lt (by rw [List.length_append, List.length_take]; omega : _ ≤ 5000) (by decide))
      · rw [val_T] at hv
        split at hv
        · rename_i hm
          have e4 : gone (t ++ r.take (i + 1)) = gone (t ++ r.take i) := by rw [← e3]; unfold addK; rw [if_pos hm]
          exact ⟨_, rfl, o6, by rw [e4]; exact g6⟩
        · cases hv
      · refine ⟨_, rfl, o6.upd (by simp), ?_⟩
        rw [put_T, e3]
        exact g6.putK
    rintro σ H3 ⟨x, rfl, s3, g3⟩
    have et : r.take (S r).cps.size = r := by
      have : (S r).cps.size = r.length := len_S r
      rw [this, List.take_length]
    rw [et] at g3
    obtain ⟨dx, ga⟩ := g3.ob
    refine ⟨_, rfl, a, C_Log, dx, _, _, rfl, ga, T.o_Log.cls, T.y_Log_own_text, rfl, _, rfl, _, _, rfl, rfl, sz_of' (by rw [len_S, len_S]; omega), dx, _, ga, (by show 5 < 1000; decide), ?_⟩
    refine k1 q _ (s3.upd (by simp)) ?_
    have g4 : LgF C_Log (upd H3 a (.ins C_Log dx (lgF (t ++ r) o (RowM.plain (t ++ r)) kd md))) a kd md (t ++ r) o (RowM.plain (t ++ r)) (gone (t ++ r)) mk := g3.putO
    rw [add_S]
    exact g4
theorem sc_Log_do : FnScope ["self", "row"] ["self", "row"] (defScope s_Log_do) := ⟨rfl, rfl, rfl, by decide +kernel, rfl, by decide +kernel, by decide +kernel⟩
theorem ok_Log_do {f : Addr} {fd : FuncData} (F : Fun K "do" "Log.do" s_Log_do f fd) (T : Txt K mg C_Full C_Log C_NoBack C_NoMark C_NoRow C_Rounds C_Walk) (kn_look_at_row : KN P w K mg base (L2.CX P w) 3 ["thing"] (sp_look_at_row C_NoRow) "look_at_row" []) (kn_Log_put : KM P w K mg base (L2.CX P w) 4 ["self", "text"] (sp_Log_put C_Log C_Full) C_Log "put" []) : FnOk P w K mg base (L2.CX P w) 5 f fd ["self", "row"] (sp_Log_do C_Log C_Full C_NoRow) := by
  obtain ⟨f_look_at_row, fd_look_at_row, ds_look_at_row, m_look_at_row, k_look_at_row, v_look_at_row, b_look_at_row, G_look_at_row⟩ := kn_look_at_row
  obtain ⟨f_Log_put, fd_Log_put, ds_Log_put, i_Log_put, t_Log_put, fn_Log_put, k_Log_put, v_Log_put, b_Log_put, G_Log_put⟩ := kn_Log_put
  refine F.okX sc_Log_do (fun vs H Q E h => ?_) (fun cdv A outer s H vs Q E hr h => ?_)
  · obtain ⟨a, kd, md, t, o, mk, x, rx, rfl, _⟩ := h
    all_goals rfl
  · obtain ⟨a, kd, md, t, o, mk, x, rx, rfl, hg, rt, hx, ht, hzo, k⟩ := h
    refine ⟨_, (pss_cons (ps_expr (pe_call G_look_at_row (hr.mono (by decide)) rfl m_look_at_row k_look_at_row b_look_at_row v_look_at_row (passes_call (E := E) (takes_of rfl rfl rfl rfl) (fun _ _ _ _ h => h)) (pa_cons (pv 1) pa_nil)))
    (pss_cons (ps_expr (pe_meth (pv 0) T.o_Log.cls ⟨i_Log_put, fn_Log_put, k_Log_put⟩ G_Log_put (hr.mono (by decide)) b_Log_put v_Log_put (passes_call (E := E) (takes_of rfl rfl rfl rfl) (fun _ _ _ _ h => h)) (pa_cons (pv 1) pa_nil)))
    (pss_cons (ps_fldaug (pv 0) (pv 1) in_addS)
    (pss_one (ps_ret (pe_callB call_len_str (by rfl) T.b_len (by decide +kernel) (pa_cons (pe_fld (pv 0) rfl) pa_nil))))))), ?_⟩
    obtain ⟨k1, k2⟩ := k
    refine ⟨_, rfl, x, rx, rfl, hx, ⟨fun hr1 H1 s1 => ?_, fun hr1 H1 s1 => k1 hr1 H1 s1⟩⟩
    obtain ⟨l, rfl, hl⟩ : ∃ l, x = sT l ∧ isRow l = true := by
      rcases hx with ⟨l, e, _, h⟩ | ⟨_, h⟩
      · exact ⟨l, e, h.symm.trans hr1⟩
      · rw [hr1] at h; cases h
    obtain ⟨zl, rl⟩ := isRow_iff.mp hl
    have hg1 := hg.same s1
    refine ⟨_, rfl, a, _, _, rfl, hg1.ob.choose_spec, rfl, _, rfl, a, kd, md, t, o, mk, l, rfl, hg1, rt, rl, ht, by omega, ⟨fun q H2 s2 g2 => ?_, fun q d H2 s2 hd => (k2 hr1 l rfl).2 q d H2 (Same.trans s1 s2) hd⟩⟩
    obtain ⟨dx, ga⟩ := g2.ob
    refine ⟨_, rfl, a, C_Log, dx, _, _, rfl, ga, T.o_Log.cls, T.y_Log_own_open, rfl, _, rfl, _, _, rfl, rfl, sz_of' (by rw [len_S, len_S]; omega), dx, _, ga, (by show 5 < 1000; decide), ?_⟩
    refine ⟨_, rfl, a, C_Log, dx, _, _, rfl, upd_same, T.o_Log.cls, T.y_Log_own_text, rfl, _, rfl, (by rw [len_S, List.length_append]; exact sz_of' (by omega)), ?_⟩
    rw [len_S]
    refine (k2 hr1 l rfl).1 q _ (((OffS.of s1).trans s2).upd (by simp)) ?_
    have g3 : LgF C_Log (upd H2 a (.ins C_Log dx (lgF (t ++ l) (o ++ l) (RowM.plain (t ++ l)) kd md))) a kd md (t ++ l) (o ++ l) (RowM.plain (t ++ l)) (gone (t ++ l)) mk := g2.putO
    rw [add_S]
    exact g3
theorem sc_Log_row : FnScope ["self"] ["self"] (defScope s_Log_row) := ⟨rfl, rfl, rfl, by decide +kernel, rfl, by decide +kernel, by decide +kernel⟩
theorem ok_Log_row {f : Addr} {fd : FuncData} (F : Fun K "row" "Log.row" s_Log_row f fd) (T : Txt K mg C_Full C_Log C_NoBack C_NoMark C_NoRow C_Rounds C_Walk) : FnOk P w K mg base CX0 1 f fd ["self"] (sp_Log_row C_Log) := by
  refine F.ok sc_Log_row (fun vs H Q E h => ?_) (fun cdv A outer s H vs Q E hr h => ?_)
  · obtain ⟨a, kd, md, t, o, mk, rfl, _⟩ := h
    all_goals rfl
  · obtain ⟨a, kd, md, t, o, mk, rfl, hg, k⟩ := h
    refine ⟨_, (pss_one (ps_ret (pe_fld (pv 0) rfl))), ?_⟩
    obtain ⟨dx, ga⟩ := hg.ob
    exact ⟨_, rfl, a, C_Log, dx, _, _, rfl, ga, T.o_Log.cls, T.y_Log_own_text, rfl, k⟩
theorem sc_Log_standing : FnScope ["self"] ["self"] (defScope s_Log_standing) := ⟨rfl, rfl, rfl, by decide +kernel, rfl, by decide +kernel, by decide +kernel⟩
theorem ok_Log_standing {f : Addr} {fd : FuncData} (F : Fun K "standing" "Log.standing" s_Log_standing f fd) (T : Txt K mg C_Full C_Log C_NoBack C_NoMark C_NoRow C_Rounds C_Walk) : FnOk P w K mg base CX0 1 f fd ["self"] (sp_Log_standing C_Log) := by
  refine F.ok sc_Log_standing (fun vs H Q E h => ?_) (fun cdv A outer s H vs Q E hr h => ?_)
  · obtain ⟨a, kd, md, t, o, mk, rfl, _⟩ := h
    all_goals rfl
  · obtain ⟨a, kd, md, t, o, mk, rfl, hg, k⟩ := h
    refine ⟨_, (pss_one (ps_ret (pe_fld (pv 0) rfl))), ?_⟩
    obtain ⟨dx, ga⟩ := hg.ob
    exact ⟨_, rfl, a, C_Log, dx, _, _, rfl, ga, T.o_Log.cls, T.y_Log_own_open, rfl, k⟩
theorem sc_Log_marks : FnScope ["self"] ["self"] (defScope s_Log_marks) := ⟨rfl, rfl, rfl, by decide +kernel, rfl, by decide +kernel, by decide +kernel⟩
theorem ok_Log_marks {f : Addr} {fd : FuncData} (F : Fun K "marks" "Log.marks" s_Log_marks f fd) (T : Txt K mg C_Full C_Log C_NoBack C_NoMark C_NoRow C_Rounds C_Walk) : FnOk P w K mg base CX0 1 f fd ["self"] (sp_Log_marks C_Log) := by
  refine F.ok sc_Log_marks (fun vs H Q E h => ?_) (fun cdv A outer s H vs Q E hr h => ?_)
  · obtain ⟨a, kd, md, t, o, mk, n, rfl, _⟩ := h
    all_goals rfl
  · obtain ⟨a, kd, md, t, o, mk, n, rfl, hg, hm, hz, k⟩ := h
    refine ⟨_, (pss_one (ps_ret (pe_callB (call_sortedD rfl) (by rfl) T.b_sorted (by decide +kernel) (pa_cons (pe_fld (pv 0) rfl) pa_nil)))), ?_⟩
    obtain ⟨dx, ga⟩ := hg.ob
    exact ⟨_, rfl, a, C_Log, dx, _, _, rfl, ga, T.o_Log.cls, T.y_Log_own_marks, rfl, md, _, namesM mk, rfl, Rd.of hg.mr, namesM_is hm, by rw [namesM_len hm]; exact hz, fun ys p hp hs hn => k p ys hp hs hn⟩
theorem sc_Log___len__ : FnScope ["self"] ["self"] (defScope s_Log___len__) := ⟨rfl, rfl, rfl, by decide +kernel, rfl, by decide +kernel, by decide +kernel⟩
theorem ok_Log___len__ {f : Addr} {fd : FuncData} (F : Fun K "__len__" "Log.__len__" s_Log___len__ f fd) (T : Txt K mg C_Full C_Log C_NoBack C_NoMark C_NoRow C_Rounds C_Walk) : FnOk P w K mg base CX0 1 f fd ["self"] (sp_Log___len__ C_Log) := by
  refine F.ok sc_Log___len__ (fun vs H Q E h => ?_) (fun cdv A outer s H vs Q E hr h => ?_)
  · obtain ⟨a, kd, md, t, o, mk, rfl, _⟩ := h
    all_goals rfl
  · obtain ⟨a, kd, md, t, o, mk, rfl, hg, hz, k⟩ := h
    refine ⟨_, (pss_one (ps_ret (pe_callB call_len_str (by rfl) T.b_len (by decide +kernel) (pa_cons (pe_fld (pv 0) rfl) pa_nil)))), ?_⟩
    obtain ⟨dx, ga⟩ := hg.ob
    refine ⟨_, rfl, a, C_Log, dx, _, _, rfl, ga, T.o_Log.cls, T.y_Log_own_text, rfl, _, rfl, (by rw [len_S]; exact sz_of' (by omega)), ?_⟩
    rw [len_S]
    exact k H (Same.refl H)
theorem sc_is_plain_row : FnScope ["thing"] ["thing"] (defScope s_is_plain_row) := ⟨rfl, rfl, rfl, by decide +kernel, rfl, by decide +kernel, by decide +kernel⟩
theorem ok_is_plain_row {f : Addr} {fd : FuncData} (F : Fun K "is_plain_row" "is_plain_row" s_is_plain_row f fd) (T : Txt K mg C_Full C_Log C_NoBack C_NoMark C_NoRow C_Rounds C_Walk) (kn_is_row : KN P w K mg base CX0 2 ["thing"] (sp_is_row) "is_row" []) (kn_made_plain : KN P w K mg base CX0 2 ["text"] (sp_made_plain) "made_plain" []) : FnOk P w K mg base CX0 3 f fd ["thing"] (sp_is_plain_row) := by
  obtain ⟨f_is_row, fd_is_row, ds_is_row, m_is_row, k_is_row, v_is_row, b_is_row, G_is_row⟩ := kn_is_row
  obtain ⟨f_made_plain, fd_made_plain, ds_made_plain, m_made_plain, k_made_plain, v_made_plain, b_made_plain, G_made_plain⟩ := kn_made_plain
  refine F.ok sc_is_plain_row (fun vs H Q E h => ?_) (fun cdv A outer s H vs Q E hr h => ?_)
  · obtain ⟨l, rfl, _⟩ := h
    all_goals rfl
  · obtain ⟨l, rfl, hl, k⟩ := h
    refine ⟨_, (pss_one (ps_ret (pe_and (pe_call G_is_row (hr.mono (by decide)) rfl m_is_row k_is_row b_is_row v_is_row pass0 (pa_cons (pv 0) pa_nil)) (pe_one (pe_cmpR op_eq (pe_call G_made_plain (hr.mono (by decide)) rfl m_made_plain k_made_plain b_made_plain v_made_plain pass0 (pa_cons (pv 0) pa_nil)) (pv 0) (nomark _)))))), ?_⟩
    obtain ⟨zl, rl⟩ := isRow_iff.mp hl
    refine ⟨_, rfl, .str (S l), true, rfl, .inl ⟨l, rfl, by omega, hl.symm⟩, fun H1 s1 => ⟨_, rfl, ?_⟩⟩
    refine iteT ⟨_, rfl, l, rfl, rl, by omega, fun H2 s2 => ⟨_, rfl, rfl, ?_⟩⟩
    have e : decide (V.str (S (RowM.plain l)) = V.str (S l)) = decide (RowM.plain l = l) := decide_eq_decide.mpr ⟨sT_inj, fun h => by rw [h]⟩
    rw [e]
    exact k H2 (Same.trans s1 s2)
theorem sc_first_wrong : FnScope ["places", "known", "number", "thing", "place"] ["places"] (defScope s_first_wrong) := ⟨rfl, rfl, rfl, by decide +kernel, rfl, by decide +kernel, by decide +kernel⟩
theorem ok_first_wrong {f : Addr} {fd : FuncData} (F : Fun K "first_wrong" "first_wrong" s_first_wrong f fd) (T : Txt K mg C_Full C_Log C_NoBack C_NoMark C_NoRow C_Rounds C_Walk) (kn_is_plain_row : KN P w K mg base CX0 3 ["thing"] (sp_is_plain_row) "is_plain_row" []) : FnOk P w K mg base CX0 4 f fd ["places"] (sp_first_wrong K) := by
  obtain ⟨f_is_plain_row, fd_is_plain_row, ds_is_plain_row, m_is_plain_row, k_is_plain_row, v_is_plain_row, b_is_plain_row, G_is_plain_row⟩ := kn_is_plain_row
  refine F.ok sc_first_wrong (fun vs H Q E h => ?_) (fun cdv A outer s H vs Q E hr h => ?_)
  · obtain ⟨q, ts, rfl, _⟩ := h
    all_goals rfl
  · obtain ⟨q, ts, rfl, hq, ht, k⟩ := h
    refine ⟨_, (pss_cons (ps_set (i := 1) sc_first_wrong.nd rfl (Or.inl rfl) pe_dnewK)
    (pss_cons (ps_for PassesOwn.never rfl (pi_enum (by rfl) T.b_enumerate (pa_cons (pv 0) pa_nil)) (pg_tup rfl (pgs_cons (pg_name (i := 2) sc_first_wrong.nd rfl (Or.inl rfl)) (pgs_cons (pg_name (i := 3) sc_first_wrong.nd rfl (Or.inl rfl)) pgs_nil))) (pss_cons (ps_if (PW.pt (pw_or (pt_not (pt_val (pe_call G_is_plain_row (hr.mono (by decide)) rfl m_is_plain_row k_is_plain_row b_is_plain_row v_is_plain_row pass0 (pa_cons (pv 3) pa_nil)))) (pw_or1 (pt_cmp (pc_din (hu_of hr) (pv 3) (pv 1)))))) (pss_one (ps_ret (pv 2))) pss_nil)
    (pss_one (ps_dput (hu_of hr) (pv 1) (pv 3) pe_bl rfl))))
    (pss_cons (ps_for PassesOwn.never rfl (pi_enum (by rfl) T.b_enumerate (pa_cons (pv 0) pa_nil)) (pg_tup rfl (pgs_cons (pg_name (i := 2) sc_first_wrong.nd rfl (Or.inl rfl)) (pgs_cons (pg_name (i := 4) sc_first_wrong.nd rfl (Or.inl rfl)) pgs_nil))) (pss_one (ps_if (PW.pt (pw_and (pt_cmpR op_ne (pv 4) pe_str (nomark _)) (pw_and1 (pt_cmp (pc_dnotin (hu_of hr) (pe_slice sl_str (pv 4) po_none (po_some (pe_un un_neg pe_int))) (pv 1)))))) (pss_one (ps_ret (pv 2))) pss_nil)))
    (pss_one (ps_ret pe_non))))), ?_⟩
    refine fun d hd => ?_
    have s0 := Same.new (o := .dK []) hd
    have lt : (ts.map sT).length = ts.length := List.length_map ..
    refine ⟨_, rfl, q, _, rfl, s0.seq hq, for_it walk_enum (fun i σ H' => ∃ x y z, σ = [some (.ref q), some (.ref d), x, y, z] ∧ Same H H' ∧ H' d = some (.dK (kvT (ts.take i)))) ⟨_, _, _, rfl, s0, upd_same⟩ (fun _ _ _ _ ⟨_, _, _, _, s, _⟩ => s.seq hq) ?_ ?_⟩
    · rintro i v σ H3 H4 hi ⟨x, y, z, rfl, s3, g3⟩ ⟨t, u, w, rfl, nt, rfl, hu, hw⟩
      have hw : (ts.map sT)[i]? = some w := hw
      rw [List.getElem?_map] at hw
      obtain ⟨p, hp, rfl⟩ := Option.map_eq_some_iff.mp hw
      injection hu with hu
      subst hu
      have pm := List.mem_of_getElem? hp
      have rp := ht.row pm
      have s4 := Same.new (o := .tup [.int (i : Nat), sT p]) nt
      have nd : t ≠ d := fun e => by rw [e, g3] at nt; cases nt
      refine ⟨t, [_, _], rfl, SqT.of upd_same, rfl, _, _, rfl, _, _, rfl, rfl, ?_⟩
      refine ⟨_, rfl, p, rfl, rp, fun H5 s5 => ⟨_, rfl, ?_⟩⟩
      rw [decide_eq_true (WalkM.plain_prow (ht.t.pr p pm))]
      have g5 := s5 _ _ (s4 _ _ g3)
      refine iteF ⟨_, rfl, _, rfl, d, _, rfl, DGet.k (k := kT p) g5, _, rfl, ?_⟩
      have np : p ∉ ts.take i := fun h => by
        have hl := (List.getElem?_eq_some_iff.mp hp).1
        obtain ⟨j, hj, e⟩ := List.getElem_of_mem h
        rw [List.length_take] at hj
        rw [List.getElem_take] at e
        have e2 := (List.getElem?_eq_some_iff.mp hp).2
        have := (List.getElem_inj ht.t.nd).mp (e.trans e2.symm)
        omega
      rw [val_T, if_neg np]
      refine iteF ⟨_, rfl, _, rfl, d, _, rfl, DPut.k (k := kT p) g5 (by rw [len_kvT]; exact Nat.lt_of_le_of_lt (List.length_take_le ..) (Nat.lt_of_le_of_lt (Nat.le_trans (by omega : i ≤ ts.length) ht.n1) (by decide))), ?_⟩
      refine ⟨_, _, _, rfl, fun b o hb => ?_, ?_⟩
      · rw [upd_ne (fun e => by rw [e, hd] at hb; cases hb)]
        exact s5 _ _ (s4 _ _ (s3 _ _ hb))
      · rw [upd_same, put_T]
        unfold addK
        rw [if_neg np, List.take_add_one, hp]
        rfl
    rintro σ H3 ⟨x, y, z, rfl, s3, g3⟩
    rw [lt, List.take_length] at g3
    refine ⟨_, rfl, q, _, rfl, s3.seq hq, for_it walk_enum (fun i σ H' => ∃ x y z, σ = [some (.ref q), some (.ref d), x, y, z] ∧ Same H3 H') ⟨_, _, _, rfl, Same.refl _⟩ (fun _ _ _ _ ⟨_, _, _, _, s⟩ => s.seq (s3.seq hq)) ?_ ?_⟩
    · rintro i v σ H4 H5 hi ⟨x, y, z, rfl, s4⟩ ⟨t, u, w, rfl, nt, rfl, hu, hw⟩
      have hw : (ts.map sT)[i]? = some w := hw
      rw [List.getElem?_map] at hw
      obtain ⟨p, hp, rfl⟩ := Option.map_eq_some_iff.mp hw
      injection hu with hu
      subst hu
      have pm := List.mem_of_getElem? hp
      have s5 := Same.new (o := .tup [.int (i : Nat), sT p]) nt
      refine ⟨t, [_, _], rfl, SqT.of upd_same, rfl, _, _, rfl, _, _, rfl, rfl, ?_⟩
      refine ⟨_, rfl, rfl, _, rfl, ?_⟩
      by_cases e : p = []
      · subst e
        exact iteF (iteF ⟨_, _, _, rfl, Same.trans s4 s5⟩)
      · have ne : decide (sT p = V.str (Str.ofString "")) = false := decide_eq_false fun h => e (sT_inj (l := p) (m := []) h)
        rw [ne]
        obtain ⟨m, c, rfl⟩ := exists_snoc e
        refine iteT ⟨_, rfl, _, rfl, _, rfl, _, rfl, sz_of' (by rw [len_S]; have := ht.z _ pm; omega), ?_⟩
        rw [cut_last]
        have g := s5 _ _ (s4 _ _ g3)
        refine ⟨_, rfl, d, _, rfl, DGet.k (k := kT m) g, _, rfl, ?_⟩
        have hm : m ∈ ts := by
          have := ht.t.cl _ pm e
          simpa using this
        rw [val_T, if_pos hm]
        exact iteF ⟨_, _, _, rfl, Same.trans s4 s5⟩
    rintro σ H4 ⟨x, y, z, rfl, s4⟩
    exact k H4 (Same.trans s3 s4)
theorem sc_rank : FnScope ["text", "sign"] ["text"] (defScope s_rank) := ⟨rfl, rfl, rfl, by decide +kernel, rfl, by decide +kernel, by decide +kernel⟩
theorem ok_rank {f : Addr} {fd : FuncData} (F : Fun K "rank" "rank" s_rank f fd) (T : Txt K mg C_Full C_Log C_NoBack C_NoMark C_NoRow C_Rounds C_Walk) : FnOk P w K mg base CX0 1 f fd ["text"] (sp_rank) := by
  refine F.ok sc_rank (fun vs H Q E h => ?_) (fun cdv A outer s H vs Q E hr h => ?_)
  · obtain ⟨l, rfl, _⟩ := h
    all_goals rfl
  · obtain ⟨l, rfl, hl, hz, k⟩ := h
    refine ⟨_, (pss_one (ps_ret (pe_tup (pa_cons (pe_callB call_len_str (by rfl) T.b_len (by decide +kernel) (pa_cons (pv 0) pa_nil)) (pa_cons (pe_lc (own := [("sign", 1)]) (g := gName 1) (tt := tYes) rfl sc_rank.nd (pi_str (pv 0)) (blkOk_by (own := [("sign", 1)]) (N := ["text", "sign"]) (sc := defScope s_rank) (by decide +kernel)) (fun _ _ _ _ _ => (pg_name (i := 1) sc_rank.nd rfl (Or.inl rfl))) (fun _ _ _ _ _ => pts_nil) (fun _ _ _ _ _ => (pe_m1 PySem.F.slot_str_index PySem.F.type_str_index mt_sindex (pe_globC T.g_SIGNS) (pv 1)))) pa_nil))))), ?_⟩
    refine ⟨_, rfl, _, rfl, by rw [len_S]; exact sz_of' (by omega), ?_⟩
    refine Evl.el_mapS (fun c => .int (ix c : Nat)) (Evl.ev_var rfl) (by rw [len_S]; omega) (fun _ => rfl) (fun c H1 e hc => ?_) H (Evl.Ex.refl H) _ fun q H1 nq e1 hq => ?_
    · obtain ⟨r, hr⟩ := six1 c (hl c hc)
      exact fun H2 e2 Q q => ⟨⟨_, rfl⟩, _, rfl, _, S [c], ix c, r, rfl, rfl, hr, q H2 (Evl.Ex.refl H2)⟩
    · refine ⟨by show 2 ≤ sizeLine; decide, fun t ht => ?_⟩
      rw [len_S]
      exact k t q _ (Same.trans e1 (Same.new ht)) (Same.free e1 ht) upd_same (by rw [upd_ne (ne_of_none hq ht)]; exact hq)
theorem sc_Walk___init__ : FnScope ["self", "places", "end", "some", "wrong"] ["self", "places", "end"] (defScope s_Walk___init__) := ⟨rfl, rfl, rfl, by decide +kernel, rfl, by decide +kernel, by decide +kernel⟩
theorem ok_Walk___init__ {f : Addr} {fd : FuncData} (F : FunD K "__init__" "Walk.__init__" (defArgs s_Walk___init__) (defBody s_Walk___init__) (defScope s_Walk___init__) [.non, .str ""] [] f fd) (T : Txt K mg C_Full C_Log C_NoBack C_NoMark C_NoRow C_Rounds C_Walk) (kn_first_wrong : KN P w K mg base CX0 4 ["places"] (sp_first_wrong K) "first_wrong" []) (kn_rank : KN P w K mg base CX0 1 ["text"] (sp_rank) "rank" []) : FnOk P w K mg base CX0 5 f fd ["self", "places", "end"] (sp_Walk___init__ K C_Walk) := by
  obtain ⟨f_first_wrong, fd_first_wrong, ds_first_wrong, m_first_wrong, k_first_wrong, v_first_wrong, b_first_wrong, G_first_wrong⟩ := kn_first_wrong
  obtain ⟨f_rank, fd_rank, ds_rank, m_rank, k_rank, v_rank, b_rank, G_rank⟩ := kn_rank
  refine F.ok0 sc_Walk___init__ (fun vs H Q E h => ?_) (fun cdv A outer s H vs Q E hr h => ?_)
  · obtain ⟨a, dx, y, ts, e, rfl, _⟩ := h
    all_goals rfl
  · obtain ⟨a, dx, y, ts, e, rfl, ha, hv, ht, he, k⟩ := h
    refine ⟨_, (pss_cons (ps_set (i := 3) sc_Walk___init__.nd rfl (Or.inl rfl) (pe_lst (pa_cons pe_str pa_nil)))
    (pss_cons (ps_if (pt_cmpR op_notN (pv 1) pe_non (nomark _)) (pss_cons (ps_if (PW.pt (pw_or (pt_not (pt_val (pe_callB (call_isiTK (K := K)) (by rfl) T.b_isinstance (by decide +kernel) (pa_cons (pv 1) (pa_cons (pe_tup (pa_cons (pe_bltn (v := .ty "list") (by rfl) T.b_list (by decide +kernel) rfl) (pa_cons (pe_bltn (v := .ty "tuple") (by rfl) T.b_tuple (by decide +kernel) rfl) pa_nil))) pa_nil))))) (pw_or1 (pt_not (pt_chain op_le op_le pe_int (pe_callB (call_lenK (K := K)) (by rfl) T.b_len (by decide +kernel) (pa_cons (pv 1) pa_nil)) (pe_globC T.g_MOST_PLACES)))))) (pss_one ps_never) pss_nil)
    (pss_one (ps_set (i := 3) sc_Walk___init__.nd rfl (Or.inl rfl) (pe_callTy (call_listK (K := K)) (by rfl) T.b_list (by decide +kernel) (pa_cons (pv 1) pa_nil))))) pss_nil)
    (pss_cons (ps_set (i := 4) sc_Walk___init__.nd rfl (Or.inl rfl) (pe_call G_first_wrong (hr.mono (by decide)) rfl m_first_wrong k_first_wrong b_first_wrong v_first_wrong pass0 (pa_cons (pv 3) pa_nil)))
    (pss_cons (ps_if (pt_cmpR op_notN (pv 4) pe_non (nomark _)) (pss_one ps_never) pss_nil)
    (pss_cons (ps_if (PW.pt (pw_or (pt_not (pt_val (pe_callB (call_isiK1 (K := K)) (by rfl) T.b_isinstance (by decide +kernel) (pa_cons (pv 2) (pa_cons (pe_bltn (v := .ty "str") (by rfl) T.b_str (by decide +kernel) rfl) pa_nil))))) (pw_or1 (pt_cmpR (op_notInK (K := K)) (pv 2) (pv 3) (by rfl))))) (pss_one ps_never) pss_nil)
    (pss_cons (ps_fld (pv 0) (pe_callBK (call_sortF (K := K) G_rank (hr.mono (by decide)) b_rank v_rank) (by rfl) T.b_sorted (by decide +kernel) (pa_cons (pv 3) pa_nil) (pk_cons (pe_glob (v := .ref f_rank) rfl m_rank rfl) pk_nil)) rfl)
    (pss_one (ps_fld (pv 0) (pv 2) rfl)))))))), ?_⟩
    refine ⟨by show 1 ≤ sizeLine; decide, fun b hb => ?_⟩
    have q1 := Same.new (o := .lst [sT []]) hb
    rcases hv with ⟨q, rfl, hq⟩ | ⟨rfl, e0⟩
    · refine ⟨_, rfl, rfl, _, rfl, iteT ?_⟩
      have gq := q1 _ _ hq
      refine ⟨_, rfl, by show 2 ≤ sizeLine; decide, fun t htt => ⟨_, t, _, _, _, true, rfl, upd_same, .cons (.ty "list") (.cons (.ty "tuple") .nil), .base (.lst (Same.new htt _ _ gq)), kitAny_cons (b := true) (kit_ty (by decide +kernel)) (fun h => nomatch h) (fun _ => rfl), _, rfl, iteF ?_⟩⟩
      have q2 := Same.trans q1 (Same.new (o := .tup [.ty "list", .ty "tuple"]) htt)
      have gq := q2 _ _ hq
      refine ⟨_, rfl, q, _, rfl, .inl (SqL.of gq), _, _, rfl, rfl, _, rfl, ?_⟩
      have n0 := ht.n0
      have n1 := ht.n1
      rw [List.length_map, decide_eq_true (by omega : (1 : Int) ≤ (ts.length : Int))]
      refine iteT ⟨_, _, rfl, rfl, _, rfl, ?_⟩
      rw [decide_eq_true (by omega : (ts.length : Int) ≤ 61)]
      refine iteF ⟨_, rfl, q, _, rfl, .inl (SqL.of gq), fun l hl => ?_⟩
      have q3 := Same.trans q2 (Same.new (o := .lst (ts.map sT)) hl)
      refine ⟨_, rfl, l, ts, rfl, SqL.of upd_same, ht, fun H4 s4 => ?_⟩
      have q4 := Same.trans q3 s4
      have gl := s4 _ _ (upd_same (o := .lst (ts.map sT)))
      refine ⟨_, rfl, rfl, _, rfl, iteF ?_⟩
      refine ⟨_, rfl, .str (S e), _, _, _, true, rfl, .ty "str", .base (.str _), kit_ty (by decide +kernel), _, rfl, iteF ?_⟩
      refine ⟨_, rfl, _, rfl, l, _, rfl, .inl (SqL.of gl), rfl, flat_T ts, _, rfl, ?_⟩
      have ein : inV (.str (S e)) (ts.map sT) = true := by
        show inV (sT e) (ts.map sT) = true
        rw [in_texts, decide_eq_true he]
      rw [if_pos rfl, ein]
      refine iteF ?_
      refine ⟨_, rfl, l, bsT ts, rfl, rfl, SqL.of (by rw [bsT_fst]; exact gl), alike_bsT ts, sortable_bsT ts, by unfold bsT; rw [List.length_map]; omega, fun b hb => ?_, fun b hb H1 s1 Q1 h => ?_, fun p H5 s5 np gp => ?_⟩
      · obtain ⟨x, _, rfl⟩ := List.mem_map.mp hb
        exact depth_rank2 x
      · obtain ⟨x, hx, rfl⟩ := List.mem_map.mp hb
        exact ⟨x, rfl, (ht.t.pr x hx).1, by have := ht.z x hx; omega, fun t q H' s nt gt gq => h _ H' s fun H3 s3 => dp_rank (s3 _ _ gt) (s3 _ _ gq)⟩
      rw [sort_bsT] at gp
      have q5 := Same.trans q4 s5
      have ne : p ≠ a := fun z => by rw [z, q4 _ _ ha] at np; cases np
      refine ⟨_, rfl, a, C_Walk, dx, [], rfl, q5 _ _ ha, T.o_Walk.cls, T.y_Walk_own_places, by decide, ?_⟩
      refine ⟨_, rfl, _, rfl, a, C_Walk, dx, _, rfl, upd_same, T.o_Walk.cls, T.y_Walk_own_end, by show 1 < 1000; decide, ?_⟩
      refine k p _ (fun b o hb h => ?_) (Same.free q4 np) ⟨⟨dx, upd_same⟩, ?_⟩
      · rw [upd_ne hb, upd_ne hb]
        exact q5 _ _ h
      · rw [upd_ne ne, upd_ne ne]
        exact gp
    refine ⟨_, rfl, rfl, _, rfl, iteF ?_⟩
    have n0 := ht.n0
    have n1 := ht.n1
    have gl0 : (upd H b (.lst [sT []])) b = some (.lst (ts.map sT)) := by rw [upd_same, e0]; rfl
    refine ⟨_, rfl, b, ts, rfl, SqL.of gl0, ht, fun H4 s4 => ?_⟩
    have q4 := Same.trans q1 s4
    have gl := s4 _ _ gl0
    refine ⟨_, rfl, rfl, _, rfl, iteF ?_⟩
    refine ⟨_, rfl, .str (S e), _, _, _, true, rfl, .ty "str", .base (.str _), kit_ty (by decide +kernel), _, rfl, iteF ?_⟩
    refine ⟨_, rfl, _, rfl, b, _, rfl, .inl (SqL.of gl), rfl, flat_T ts, _, rfl, ?_⟩
    have ein : inV (.str (S e)) (ts.map sT) = true := by
      show inV (sT e) (ts.map sT) = true
      rw [in_texts, decide_eq_true he]
    rw [if_pos rfl, ein]
    refine iteF ?_
    refine ⟨_, rfl, b, bsT ts, rfl, rfl, SqL.of (by rw [bsT_fst]; exact gl), alike_bsT ts, sortable_bsT ts, by unfold bsT; rw [List.length_map]; omega, fun b hb => ?_, fun b hb H1 s1 Q1 h => ?_, fun p H5 s5 np gp => ?_⟩
    · obtain ⟨x, _, rfl⟩ := List.mem_map.mp hb
      exact depth_rank2 x
    · obtain ⟨x, hx, rfl⟩ := List.mem_map.mp hb
      exact ⟨x, rfl, (ht.t.pr x hx).1, by have := ht.z x hx; omega, fun t q H' s nt gt gq => h _ H' s fun H3 s3 => dp_rank (s3 _ _ gt) (s3 _ _ gq)⟩
    rw [sort_bsT] at gp
    have q5 := Same.trans q4 s5
    have ne : p ≠ a := fun z => by rw [z, q4 _ _ ha] at np; cases np
    refine ⟨_, rfl, a, C_Walk, dx, [], rfl, q5 _ _ ha, T.o_Walk.cls, T.y_Walk_own_places, by decide, ?_⟩
    refine ⟨_, rfl, _, rfl, a, C_Walk, dx, _, rfl, upd_same, T.o_Walk.cls, T.y_Walk_own_end, by show 1 < 1000; decide, ?_⟩
    refine k p _ (fun b o hb h => ?_) (Same.free q4 np) ⟨⟨dx, upd_same⟩, ?_⟩
    · rw [upd_ne hb, upd_ne hb]
      exact q5 _ _ h
    · rw [upd_ne ne, upd_ne ne]
      exact gp
theorem sc_Log_walk : FnScope ["self"] ["self"] (defScope s_Log_walk) := ⟨rfl, rfl, rfl, by decide +kernel, rfl, by decide +kernel, by decide +kernel⟩
theorem ok_Log_walk {f : Addr} {fd : FuncData} (F : Fun K "walk" "Log.walk" s_Log_walk f fd) (T : Txt K mg C_Full C_Log C_NoBack C_NoMark C_NoRow C_Rounds C_Walk) (kn_Walk___init__ : KM P w K mg base CX0 5 ["self", "places", "end"] (sp_Walk___init__ K C_Walk) C_Walk "__init__" []) : FnOk P w K mg base CX0 7 f fd ["self"] (sp_Log_walk K C_Log C_Walk) := by
  obtain ⟨f_Walk___init__, fd_Walk___init__, ds_Walk___init__, i_Walk___init__, t_Walk___init__, fn_Walk___init__, k_Walk___init__, v_Walk___init__, b_Walk___init__, G_Walk___init__⟩ := kn_Walk___init__
  refine F.ok sc_Log_walk (fun vs H Q E h => ?_) (fun cdv A outer s H vs Q E hr h => ?_)
  · obtain ⟨a, kd, md, t, o, mk, rfl, _⟩ := h
    all_goals rfl
  · obtain ⟨a, kd, md, t, o, mk, rfl, hg, rt, zt, k⟩ := h
    refine ⟨_, (pss_one (ps_ret (pe_make ⟨T.o_Walk.made, i_Walk___init__, fn_Walk___init__, T.o_Walk.kC⟩ G_Walk___init__ (hr.mono (by decide)) rfl T.o_Walk.gC b_Walk___init__ v_Walk___init__ pass0 (pa_cons (pe_callTy (call_listD rfl) (by rfl) T.b_list (by decide +kernel) (pa_cons (pe_fld (pv 0) rfl) pa_nil)) (pa_cons (pe_fld (pv 0) rfl) pa_nil))))), ?_⟩
    obtain ⟨dx, ga⟩ := hg.ob
    refine ⟨_, rfl, a, C_Log, dx, _, _, rfl, ga, T.o_Log.cls, T.y_Log_own_known, rfl, kd, _, rfl, Rd.of hg.kn, fun p hp => ?_⟩
    have s0 := Same.new (o := .lst ((kvT (gone t)).map fun kv => kV kv.1)) hp
    have gp : (upd H p (.lst ((kvT (gone t)).map fun kv => kV kv.1))) p = some (.lst ((gone t).map sT)) := by
      rw [upd_same]
      unfold kvT
      rw [List.map_map]
      rfl
    refine ⟨_, rfl, a, C_Log, dx, _, _, rfl, s0 _ _ ga, T.o_Log.cls, T.y_Log_own_end, rfl, fun x dx hx hdx nx => ⟨x, dx, .ref p, gone t, RowM.plain t, rfl, upd_same, .inl ⟨p, rfl, by rw [upd_ne (ne_of_none gp hx), upd_ne (ne_of_none gp hdx)]; exact gp⟩, treeS_of rt zt, WalkM.end_gone t, fun q H4 o4 nq w4 => ⟨rfl, ?_⟩⟩⟩
    refine k x q H4 (fun b o hb => ?_) (Same.free s0 hx) ?_ w4
    · have h3 := s0 _ _ hb
      refine o4 b o (ne_of_none h3 hx) ?_
      rw [upd_ne (ne_of_none h3 hx), upd_ne (ne_of_none h3 hdx)]
      exact h3
    · cases e : H q with
      | none => rfl
      | some o =>
        have h3 := s0 _ _ e
        rw [upd_ne (ne_of_none h3 hx), upd_ne (ne_of_none h3 hdx), h3] at nq
        cases nq
theorem sc_named : FnScope ["place"] ["place"] (defScope s_named) := ⟨rfl, rfl, rfl, by decide +kernel, rfl, by decide +kernel, by decide +kernel⟩
theorem ok_named {f : Addr} {fd : FuncData} (F : Fun K "named" "named" s_named f fd) (T : Txt K mg C_Full C_Log C_NoBack C_NoMark C_NoRow C_Rounds C_Walk) : FnOk P w K mg base CX0 1 f fd ["place"] (sp_named K) := by
  refine F.ok sc_named (fun vs H Q E h => ?_) (fun cdv A outer s H vs Q E hr h => ?_)
  · obtain ⟨p, rfl, _⟩ := h
    all_goals rfl
  · obtain ⟨p, rfl, hz, k⟩ := h
    refine ⟨_, (pss_one (ps_ret (pe_orT (pv 0) (pe_one pe_str)))), ?_⟩
    refine ⟨_, rfl, (((S p).length : Int) != 0), ⟨by rw [len_S]; exact sz_of' (by omega), rfl⟩, ?_⟩
    by_cases e : p = []
    · subst e
      exact iteF (k H (Same.refl H))
    · have h1 : (((S p).length : Int) != 0) = true := by
        rw [len_S]
        have := List.length_pos_iff.mpr e
        simp
        omega
      rw [h1]
      have h2 : nm p = p := if_neg e
      rw [h2] at k
      exact iteT (k H (Same.refl H))
theorem sc_Walk___str__ : FnScope ["self", "words", "place"] ["self"] (defScope s_Walk___str__) := ⟨rfl, rfl, rfl, by decide +kernel, rfl, by decide +kernel, by decide +kernel⟩
theorem ok_Walk___str__ {f : Addr} {fd : FuncData} (F : Fun K "__str__" "Walk.__str__" s_Walk___str__ f fd) (T : Txt K mg C_Full C_Log C_NoBack C_NoMark C_NoRow C_Rounds C_Walk) (kn_named : KN P w K mg base CX0 1 ["place"] (sp_named K) "named" []) : FnOk P w K mg base CX0 2 f fd ["self"] (sp_Walk___str__ K C_Walk) := by
  obtain ⟨f_named, fd_named, ds_named, m_named, k_named, v_named, b_named, G_named⟩ := kn_named
  refine F.ok sc_Walk___str__ (fun vs H Q E h => ?_) (fun cdv A outer s H vs Q E hr h => ?_)
  · obtain ⟨a, q, ps, e, rfl, _⟩ := h
    all_goals rfl
  · obtain ⟨a, q, ps, e, rfl, hw, hz, hp, he, k⟩ := h
    refine ⟨_, (pss_cons (ps_set (i := 1) sc_Walk___str__.nd rfl (Or.inl rfl) (pe_m1 PySem.F.slot_str_join PySem.F.type_str_join (mt_joinK (K := K)) pe_str (pe_lc (own := [("place", 2)]) (g := gName 2) (tt := tYes) rfl sc_Walk___str__.nd (pi_list (pe_fld (pv 0) rfl)) (blkOk_by (own := [("place", 2)]) (N := ["self", "words", "place"]) (sc := defScope s_Walk___str__) (by decide +kernel)) (fun _ _ _ _ _ => (pg_name (i := 2) sc_Walk___str__.nd rfl (Or.inl rfl))) (fun _ _ _ _ _ => pts_nil) (fun _ _ _ _ _ => (pe_call G_named (hr.mono (by decide)) rfl m_named k_named b_named v_named pass0 (pa_cons (pv 2) pa_nil))))))
    (pss_one (ps_ret (pe_joined (PJ.cons (pe_fmt (pv 1)) (PJ.cons pe_str (PJ.cons (pe_fmt (pe_call G_named (hr.mono (by decide)) rfl m_named k_named b_named v_named pass0 (pa_cons (pe_fld (pv 0) rfl) pa_nil))) PJ.nil))))))), ?_⟩
    obtain ⟨⟨dx, ga⟩, gq⟩ := hw
    have zj : (joinL [32] (ps.map nm)).length ≤ 3721 := by
      refine Nat.le_trans (joinL_len _ _) (Nat.le_trans (sum_le (b := 61) fun x hx => ?_) ?_)
      · rw [List.map_map] at hx
        obtain ⟨p, hpp, rfl⟩ := List.mem_map.mp hx
        have := nm_len (hp p hpp)
        show (nm p).length + 1 ≤ 61
        omega
      · rw [List.length_map, List.length_map]
        omega
    have zs : ((ps.map fun p => S (nm p)).map (·.length)).sum ≤ 3721 := by
      rw [List.map_map]
      refine Nat.le_trans (sum_le (b := 60) fun x hx => ?_) ?_
      · obtain ⟨p, hpp, rfl⟩ := List.mem_map.mp hx
        show (S (nm p)).length ≤ 60
        rw [len_S]
        exact nm_len (hp p hpp)
      · rw [List.length_map]
        omega
    have ze := nm_len he
    refine ⟨⟨_, rfl⟩, _, rfl, a, C_Walk, dx, _, _, rfl, ga, T.o_Walk.cls, T.y_Walk_own_places, rfl, q, rfl, ⟨_, SqL.of gq⟩, fun D hD => ?_⟩
    refine lc_list (K := K) (a := q) (xs := ps.map sT) (fun i H' => H' D = some (.lst ((ps.take i).map fun p => sT (nm p))) ∧ Same H H') ⟨upd_same, Same.new hD⟩ (fun i H' _ ⟨_, s⟩ => s.seq (SqL.of gq)) ?_ ?_
    · rintro i y H4 hy ⟨gD, s4⟩
      rw [List.getElem?_map] at hy
      obtain ⟨p, hpi, rfl⟩ := Option.map_eq_some_iff.mp hy
      have hl := (List.getElem?_eq_some_iff.mp hpi).1
      have zp := hp p (List.mem_of_getElem? hpi)
      refine ⟨rfl, _, rfl, p, rfl, by omega, fun H5 s5 => ⟨_, s5 _ _ gD, ?_, ?_, fun b o hb => ?_⟩⟩
      · rw [List.length_map, List.length_take]
        exact Nat.lt_of_le_of_lt (by omega : _ ≤ 61) (by decide)
      · rw [upd_same, List.take_add_one, hpi, List.map_append]
        rfl
      · rw [upd_ne (ne_of_none hb hD)]
        exact s5 _ _ (s4 _ _ hb)
    rintro H3 ⟨gD, s3⟩
    rw [List.length_map, List.take_length] at gD
    have eJ : Txt.join (Str.ofString " ") (ps.map fun p => S (nm p)) = S (joinL [32] (ps.map nm)) := ext_tl (by
      rw [join_eq, tl_join, List.map_map]
      rfl)
    refine ⟨_, D, ps.map (fun p => S (nm p)), rfl, rfl, .inl (SqL.of (by rw [List.map_map]; exact gD)), ?_, ?_⟩
    · rw [List.length_map]
      show _ + ps.length * 1 ≤ 16777216
      omega
    rw [eJ]
    have e1 : Str.empty ++ S (joinL [32] (ps.map nm)) = S (joinL [32] (ps.map nm)) := ext_tl (by rw [tl_append]; rfl)
    refine ⟨_, rfl, .inl ⟨_, rfl, by rw [len_S]; exact sz_of' (by omega), _, rfl, by rw [e1, len_S]; exact sz_of' (by omega), ?_⟩⟩
    rw [e1]
    have e2 : S (joinL [32] (ps.map nm)) ++ Str.ofString " : " = S (joinL [32] (ps.map nm) ++ [32, 58, 32]) := ext_tl (by rw [tl_append]; rfl)
    refine ⟨_, rfl, by rw [e2, len_S, List.length_append]; exact sz_of' (by show _ + 3 ≤ _; omega), ?_⟩
    rw [e2]
    refine ⟨_, rfl, a, C_Walk, dx, _, _, rfl, s3 _ _ ga, T.o_Walk.cls, T.y_Walk_own_end, rfl, e, rfl, by omega, fun H6 s6 => .inl ⟨_, rfl, by rw [len_S]; exact sz_of' (by omega), _, rfl, by rw [add_S, len_S, List.length_append, List.length_append]; exact sz_of' (by show _ + 3 + _ ≤ _; omega), ?_⟩⟩
    rw [add_S]
    exact k H6 (Same.trans s3 s6)
theorem sc_Walk_end : FnScope ["self"] ["self"] (defScope s_Walk_end) := ⟨rfl, rfl, rfl, by decide +kernel, rfl, by decide +kernel, by decide +kernel⟩
theorem ok_Walk_end {f : Addr} {fd : FuncData} (F : Fun K "end" "Walk.end" s_Walk_end f fd) (T : Txt K mg C_Full C_Log C_NoBack C_NoMark C_NoRow C_Rounds C_Walk) : FnOk P w K mg base CX0 1 f fd ["self"] (sp_Walk_end C_Walk) := by
  refine F.ok sc_Walk_end (fun vs H Q E h => ?_) (fun cdv A outer s H vs Q E hr h => ?_)
  · obtain ⟨a, q, ps, e, rfl, _⟩ := h
    all_goals rfl
  · obtain ⟨a, q, ps, e, rfl, hw, k⟩ := h
    refine ⟨_, (pss_one (ps_ret (pe_fld (pv 0) rfl))), ?_⟩
    obtain ⟨⟨dx, ga⟩, gq⟩ := hw
    exact ⟨_, rfl, a, C_Walk, dx, _, _, rfl, ga, T.o_Walk.cls, T.y_Walk_own_end, rfl, k H (Same.refl H)⟩
theorem sc_Walk_places : FnScope ["self"] ["self"] (defScope s_Walk_places) := ⟨rfl, rfl, rfl, by decide +kernel, rfl, by decide +kernel, by decide +kernel⟩
theorem ok_Walk_places {f : Addr} {fd : FuncData} (F : Fun K "places" "Walk.places" s_Walk_places f fd) (T : Txt K mg C_Full C_Log C_NoBack C_NoMark C_NoRow C_Rounds C_Walk) : FnOk P w K mg base CX0 1 f fd ["self"] (sp_Walk_places C_Walk) := by
  refine F.ok sc_Walk_places (fun vs H Q E h => ?_) (fun cdv A outer s H vs Q E hr h => ?_)
  · obtain ⟨a, q, ps, e, rfl, _⟩ := h
    all_goals rfl
  · obtain ⟨a, q, ps, e, rfl, hw, k⟩ := h
    refine ⟨_, (pss_one (ps_ret (pe_callTy (call_listK (K := K)) (by rfl) T.b_list (by decide +kernel) (pa_cons (pe_fld (pv 0) rfl) pa_nil)))), ?_⟩
    obtain ⟨⟨dx, ga⟩, gq⟩ := hw
    refine ⟨_, rfl, a, C_Walk, dx, _, _, rfl, ga, T.o_Walk.cls, T.y_Walk_own_places, rfl, q, _, rfl, .inl (SqL.of gq), fun l hl => ?_⟩
    exact k l _ (Same.new hl) hl upd_same
theorem sc_Rounds___init__ : FnScope ["self", "walk", "place"] ["self", "walk"] (defScope s_Rounds___init__) := ⟨rfl, rfl, rfl, by decide +kernel, rfl, by decide +kernel, by decide +kernel⟩
theorem ok_Rounds___init__ {f : Addr} {fd : FuncData} (F : Fun K "__init__" "Rounds.__init__" s_Rounds___init__ f fd) (T : Txt K mg C_Full C_Log C_NoBack C_NoMark C_NoRow C_Rounds C_Walk) (kn_Walk_end : KM P w K mg base CX0 1 ["self"] (sp_Walk_end C_Walk) C_Walk "end" []) (kn_Walk_places : KM P w K mg base CX0 1 ["self"] (sp_Walk_places C_Walk) C_Walk "places" []) (kn_rank : KN P w K mg base CX0 1 ["text"] (sp_rank) "rank" []) : FnOk P w K mg base CX0 4 f fd ["self", "walk"] (sp_Rounds___init__ K C_Rounds C_Walk) := by
  obtain ⟨f_Walk_end, fd_Walk_end, ds_Walk_end, i_Walk_end, t_Walk_end, fn_Walk_end, k_Walk_end, v_Walk_end, b_Walk_end, G_Walk_end⟩ := kn_Walk_end
  obtain ⟨f_Walk_places, fd_Walk_places, ds_Walk_places, i_Walk_places, t_Walk_places, fn_Walk_places, k_Walk_places, v_Walk_places, b_Walk_places, G_Walk_places⟩ := kn_Walk_places
  obtain ⟨f_rank, fd_rank, ds_rank, m_rank, k_rank, v_rank, b_rank, G_rank⟩ := kn_rank
  refine F.ok sc_Rounds___init__ (fun vs H Q E h => ?_) (fun cdv A outer s H vs Q E hr h => ?_)
  · obtain ⟨a, dx, w, q, ps, e, rfl, _⟩ := h
    all_goals rfl
  · obtain ⟨a, dx, w, q, ps, e, rfl, ha, hw, ho, he, nw, nq, k⟩ := h
    refine ⟨_, (pss_cons (ps_fld (pv 0) (pe_meth0 (pv 1) T.o_Walk.cls ⟨i_Walk_end, fn_Walk_end, k_Walk_end⟩ G_Walk_end (hr.mono (by decide)) b_Walk_end v_Walk_end pass0) rfl)
    (pss_cons (ps_fld (pv 0) pe_dnewK rfl)
    (pss_cons (ps_fld (pv 0) pe_str rfl)
    (pss_cons (ps_for PassesOwn.never rfl (pi_list (pe_meth0 (pv 1) T.o_Walk.cls ⟨i_Walk_places, fn_Walk_places, k_Walk_places⟩ G_Walk_places (hr.mono (by decide)) b_Walk_places v_Walk_places pass0)) (pg_name (i := 2) sc_Rounds___init__.nd rfl (Or.inl rfl)) (pss_cons (ps_dput (hu_of hr) (pe_fld (pv 0) rfl) (pv 2) pe_str rfl)
    (pss_one (ps_if (PW.pt (pw_and (pt_cmpR op_ne (pv 2) pe_str (nomark _)) (pw_and1 (pt_not (pt_val (pe_m1 PySem.F.slot_str_startswith PySem.F.type_str_startswith mt_startswith (pe_fld (pv 0) rfl) (pv 2))))))) (pss_one (ps_daug (hu_of hr) (pe_fld (pv 0) rfl) (pe_slice sl_str (pv 2) po_none (po_some (pe_un un_neg pe_int))) (pe_ix ix_str (pv 2) (pe_un un_neg pe_int) (fun _ _ => rfl)) in_addS (fun _ _ _ => rfl))) pss_nil))))
    (pss_one (ps_for PassesOwn.never rfl (pi_list (pe_meth0 (pv 1) T.o_Walk.cls ⟨i_Walk_places, fn_Walk_places, k_Walk_places⟩ G_Walk_places (hr.mono (by decide)) b_Walk_places v_Walk_places pass0)) (pg_name (i := 2) sc_Rounds___init__.nd rfl (Or.inl rfl)) (pss_one (ps_dput (hu_of hr) (pe_fld (pv 0) rfl) (pv 2) (pe_m1 PySem.F.slot_str_join PySem.F.type_str_join (mt_joinK (K := K)) pe_str (pe_callBK (call_sortFS G_rank (hr.mono (by decide)) b_rank v_rank rfl) (by rfl) T.b_sorted (by decide +kernel) (pa_cons (pe_dget (hu_of hr) (pe_fld (pv 0) rfl) (pv 2) (fun _ _ => rfl)) pa_nil) (pk_cons (pe_glob (v := .ref f_rank) rfl m_rank rfl) pk_nil))) rfl)))))))), ?_⟩
    obtain ⟨⟨dw, gw⟩, gq⟩ := id hw
    obtain ⟨ze, re⟩ := isRow_iff.mp he
    refine ⟨_, rfl, w, dw, _, rfl, gw, rfl, w, q, ps, e, rfl, hw, fun H1 s1 => ⟨_, rfl, a, C_Rounds, dx, [], rfl, s1 _ _ ha, T.o_Rounds.cls, T.y_Rounds_own_end, by decide, ?_⟩⟩
    refine fun d hd => ⟨_, rfl, a, C_Rounds, dx, _, rfl, Same.new hd _ _ upd_same, T.o_Rounds.cls, T.y_Rounds_own_left, by show 1 < 1000; decide, ?_⟩
    have nda : d ≠ a := fun z => by rw [z, upd_same] at hd; cases hd
    have hd1 : H1 d = none := by rw [upd_ne nda] at hd; exact hd
    have hdH : H d = none := Same.free s1 hd1
    refine ⟨_, rfl, a, C_Rounds, dx, _, rfl, upd_same, T.o_Rounds.cls, T.y_Rounds_own_here, by show 2 < 1000; decide, ?_⟩
    obtain ⟨H2, eH2⟩ : ∃ H2, H2 = upd (upd (upd (upd H1 a (.ins C_Rounds dx [(Str.ofString "own_end", sT e)])) d (.dK [])) a (.ins C_Rounds dx [(Str.ofString "own_end", sT e), (Str.ofString "own_left", .ref d)])) a (.ins C_Rounds dx (rdfs e d)) := ⟨_, rfl⟩
    have ga2 : H2 a = some (.ins C_Rounds dx (rdfs e d)) := by rw [eH2, upd_same]
    have gd2 : H2 d = some (.dK (kvL [] (fun _ => []))) := by rw [eH2, upd_ne nda, upd_ne nda, upd_same]; rfl
    have o2 : Off a H H2 := fun b o hb h => by
      have nbd : b ≠ d := ne_of_none h hdH
      rw [eH2, upd_ne hb, upd_ne hb, upd_ne nbd, upd_ne hb]
      exact s1 _ _ h
    show tSeq _ _ _ _ (upd (upd (upd (upd H1 a (.ins C_Rounds dx [(Str.ofString "own_end", sT e)])) d (.dK [])) a (.ins C_Rounds dx [(Str.ofString "own_end", sT e), (Str.ofString "own_left", .ref d)])) a (.ins C_Rounds dx (rdfs e d)))
    rw [← eH2]
    clear eH2
    have hw2 := hw.off o2 nw nq
    refine ⟨_, rfl, w, dw, _, rfl, o2 _ _ nw gw, rfl, w, q, ps, e, rfl, hw2, fun p H3 s3 np gp => ?_⟩
    have npa : p ≠ a := fun z => by rw [z, ga2] at np; cases np
    have npd : p ≠ d := fun z => by rw [z, gd2] at np; cases np
    have o3 : Off a H H3 := o2.trans (off_of s3)
    refine ⟨p, rfl, ⟨_, SqL.of gp⟩, for_list (K := K) (a := p) (xs := ps.map sT) (fun i σ H' => ∃ x g, σ = [some (.ref a), some (.ref w), x] ∧ Off a H H' ∧ H' a = some (.ins C_Rounds dx (rdfs e d)) ∧ H' d = some (.dK (kvL (ps.take i) g)) ∧ LeftR (ps.take i) e g ∧ H' p = some (.lst (ps.map sT)))
      ⟨_, fun _ => [], rfl, o3, s3 _ _ ga2, s3 _ _ gd2, ⟨(by intro q hq; cases hq), (by intro q hq; cases hq)⟩, gp⟩ (fun _ _ H' _ ⟨_, _, _, _, _, _, _, h⟩ => SqL.of h) ?_ ?_⟩
    · rintro i y σ H4 hy ⟨x, g, rfl, o4, ga4, gd4, L, gp4⟩
      rw [List.getElem?_map] at hy
      obtain ⟨r, hr, rfl⟩ := Option.map_eq_some_iff.mp hy
      have rm : r ∈ ps := List.mem_of_getElem? hr
      have zt : (kvL (ps.take i) g).length < sizeLine := by
        unfold kvL
        rw [List.length_map, List.length_take]
        have := ho.t.n1
        exact Nat.lt_of_le_of_lt (by omega : _ ≤ 61) (by decide)
      refine ⟨_, rfl, a, C_Rounds, dx, _, _, rfl, ga4, T.o_Rounds.cls, T.y_Rounds_own_left, rfl, _, rfl, d, _, rfl, DPut.k (k := kT r) gd4 zt, ?_⟩
      have en : putK (kvL (ps.take i) g) (kT r) (V.str (Str.ofString "")) = kvL (ps.take i ++ [r]) (setF g r []) := put_new (x := []) (ord_new ho hr)
      rw [en]
      have ga5 : (upd H4 d (.dK (kvL (ps.take i ++ [r]) (setF g r [])))) a = some (.ins C_Rounds dx (rdfs e d)) := by rw [upd_ne nda.symm]; exact ga4
      have gd5 : (upd H4 d (.dK (kvL (ps.take i ++ [r]) (setF g r [])))) d = some (.dK (kvL (ps.take (i + 1)) (setF g r []))) := by rw [upd_same, take_one hr]
      have gp5 : (upd H4 d (.dK (kvL (ps.take i ++ [r]) (setF g r [])))) p = some (.lst (ps.map sT)) := by rw [upd_ne npd]; exact gp4
      have o5 : Off a H (upd H4 d (.dK (kvL (ps.take i ++ [r]) (setF g r [])))) := fun b o hb h => by rw [upd_ne (ne_of_none h hdH)]; exact o4 b o hb h
      generalize upd H4 d (.dK (kvL (ps.take i ++ [r]) (setF g r []))) = H5 at ga5 gd5 gp5 o5
      refine ⟨_, rfl, rfl, _, rfl, ?_⟩
      by_cases r0 : r = []
      · subst r0
        exact iteF (iteF ⟨_, _, rfl, o5, ga5, gd5, leftR_in ho hr L (.inl rfl), gp5⟩)
      rw [show decide (sT r = V.str (Str.ofString "")) = false from ne_nil r0]
      refine iteT ⟨_, rfl, a, C_Rounds, dx, _, _, rfl, ga5, T.o_Rounds.cls, T.y_Rounds_own_end, rfl, ⟨_, rfl⟩, _, rfl, _, _, rfl, rfl, _, rfl, ?_⟩
      rw [starts_S]
      cases hp : r.isPrefixOf e with
      | true => exact iteF ⟨_, _, rfl, o5, ga5, gd5, leftR_in ho hr L (.inr hp), gp5⟩
      | false =>
        obtain ⟨m, c, rfl⟩ := exists_snoc r0
        have zr := ho.t.z _ rm
        refine iteT ⟨_, rfl, a, C_Rounds, dx, _, _, rfl, ga5, T.o_Rounds.cls, T.y_Rounds_own_left, rfl, _, rfl, _, rfl, _, rfl, _, rfl, sz_of' (by rw [len_S]; omega), ?_⟩
        rw [cut_last]
        have pm : m ∈ ps.take i := by
          have := ord_parent ho hr r0
          rwa [List.dropLast_concat] at this
        have pm1 : m ∈ ps.take (i + 1) := by rw [take_one hr]; exact List.mem_append_left _ pm
        have gv := val_L (setF g (m ++ [c]) []) pm1
        have L1 := leftR_on ho hr L hp
        have zg : (setF g (m ++ [c]) [] m).length ≤ 61 := by
          have h1 := (L1.1 m pm1).1
          rw [setF_same, List.length_append, List.length_singleton] at h1
          have := cnt_le (ps.take (i + 1)) e m
          rw [List.length_take] at this
          have := ho.t.n1
          omega
        refine ⟨d, sT (setF g (m ++ [c]) [] m), rfl, .inl ⟨_, kT m, .inl gd5, rfl, gv.symm⟩, ?_⟩
        refine ⟨_, rfl, _, rfl, _, _, c, rfl, rfl, sz_of' (by rw [len_S]; omega), at_last, ?_⟩
        refine ⟨_, _, rfl, rfl, sz_str (m := [c]) (by omega) (by simp), ?_⟩
        have ea : S (setF g (m ++ [c]) [] m) ++ (⟨#[c]⟩ : Str) = S (setF g (m ++ [c]) [] m ++ [c]) := add_S _ _
        rw [ea]
        have zt1 : (kvL (ps.take (i + 1)) (setF g (m ++ [c]) [])).length < sizeLine := by
          unfold kvL
          rw [List.length_map, List.length_take]
          have := ho.t.n1
          exact Nat.lt_of_le_of_lt (by omega : _ ≤ 61) (by decide)
        refine ⟨_, DPut.k (k := kT m) gd5 zt1, ?_⟩
        have en : putK (kvL (ps.take (i + 1)) (setF g (m ++ [c]) [])) (kT m) (V.str (S (setF g (m ++ [c]) [] m ++ [c]))) = kvL (ps.take (i + 1)) (setF (setF g (m ++ [c]) []) m (setF g (m ++ [c]) [] m ++ [c])) := put_old pm1
        rw [en]
        exact ⟨_, _, rfl, fun b o hb h => by rw [upd_ne (ne_of_none h hdH)]; exact o5 b o hb h, by rw [upd_ne nda.symm]; exact ga5, upd_same, L1, by rw [upd_ne npd]; exact gp5⟩
    rintro σ H4 ⟨x, g, rfl, o4, ga4, gd4, L, gp4⟩
    rw [List.length_map, List.take_length] at gd4 L
    -- the signs in their order
    have hw4 := hw.off o4 nw nq
    refine ⟨_, rfl, w, dw, _, rfl, o4 _ _ nw gw, rfl, w, q, ps, e, rfl, hw4, fun p2 H5 s5 np2 gp2 => ?_⟩
    have npa2 : p2 ≠ a := fun z => by rw [z, ga4] at np2; cases np2
    have npd2 : p2 ≠ d := fun z => by rw [z, gd4] at np2; cases np2
    refine ⟨p2, rfl, ⟨_, SqL.of gp2⟩, for_list (K := K) (a := p2) (xs := ps.map sT) (fun i σ H' => ∃ x g, σ = [some (.ref a), some (.ref w), x] ∧ Off a H H' ∧ H' a = some (.ins C_Rounds dx (rdfs e d)) ∧ H' d = some (.dK (kvL ps g)) ∧ LeftS ps e i g ∧ H' p2 = some (.lst (ps.map sT)))
      ⟨_, g, rfl, o4.trans (off_of s5), s5 _ _ ga4, s5 _ _ gd4, L.zero, gp2⟩ (fun _ _ H' _ ⟨_, _, _, _, _, _, _, h⟩ => SqL.of h) ?_ ?_⟩
    · rintro i y σ H6 hy ⟨x, g, rfl, o6, ga6, gd6, L, gp6⟩
      rw [List.getElem?_map] at hy
      obtain ⟨r, hr, rfl⟩ := Option.map_eq_some_iff.mp hy
      have rm : r ∈ ps := List.mem_of_getElem? hr
      have zg : (g r).length ≤ 61 := by rw [(L.1 r rm).1]; exact Nat.le_trans (cnt_le ps e r) ho.t.n1
      have rg : Row (g r) := (L.1 r rm).2
      refine ⟨⟨_, rfl⟩, _, rfl, a, C_Rounds, dx, _, _, rfl, ga6, T.o_Rounds.cls, T.y_Rounds_own_left, rfl, _, rfl, d, sT (g r), rfl, .inl ⟨_, kT r, .inl gd6, rfl, (val_L g rm).symm⟩, ?_⟩
      refine ⟨S (g r), bsT ((g r).map fun c => [c]), rfl, rfl, by rw [bsT_fst, List.map_map]; rfl, alike_bsT _, sortable_bsT _, by unfold bsT; rw [List.length_map, List.length_map]; omega, fun b hb => ?_, fun b hb H1 s1 Q1 h => ?_, fun u H7 s7 nu gu => ?_⟩
      · obtain ⟨x, _, rfl⟩ := List.mem_map.mp hb
        exact depth_rank2 x
      · obtain ⟨x, hx, rfl⟩ := List.mem_map.mp hb
        obtain ⟨c, hc, rfl⟩ := List.mem_map.mp hx
        exact ⟨[c], rfl, (fun z hz => by rw [List.mem_singleton.mp hz]; exact rg c hc), by show 1 ≤ 40000; decide, fun t q H' s nt gt gq => h _ H' s fun K H3 s3 => dp_rank (s3 _ _ gt) (s3 _ _ gq)⟩
      rw [sort_bsT] at gu
      obtain ⟨y, hy2⟩ : ∃ y, y = sgS (g r) := ⟨_, rfl⟩
      have ey : srt ((g r).map fun c => [c]) = y.map fun c => [c] := by rw [hy2]; exact (sgS_map _).symm
      have py : y.Perm (g r) := by rw [hy2]; exact sgS_perm _
      have ez : (y.map fun c => [c]).map sT = (y.map fun c => S [c]).map V.str := by rw [List.map_map, List.map_map]; rfl
      rw [ey, ez] at gu
      have zy : y.length ≤ 61 := by rw [py.length_eq]; exact zg
      refine ⟨_, u, y.map (fun c => S [c]), rfl, rfl, .inl (SqL.of gu), ?_, ?_⟩
      · rw [sum_ones, List.length_map]
        show y.length + y.length * 0 ≤ 16777216
        omega
      rw [join_S _ (by decide)]
      have gd7 := s7 _ _ gd6
      have zt : (kvL ps g).length < sizeLine := by
        unfold kvL
        rw [List.length_map]
        exact Nat.lt_of_le_of_lt ho.t.n1 (by decide)
      refine ⟨_, rfl, a, C_Rounds, dx, _, _, rfl, s7 _ _ ga6, T.o_Rounds.cls, T.y_Rounds_own_left, rfl, _, rfl, d, _, rfl, DPut.k (k := kT r) gd7 zt, ?_⟩
      have en : putK (kvL ps g) (kT r) (V.str (S y)) = kvL ps (setF g r y) := put_old rm
      rw [en]
      exact ⟨_, _, rfl, fun b o hb h => by rw [upd_ne (ne_of_none h hdH)]; exact s7 _ _ (o6 b o hb h), by rw [upd_ne nda.symm]; exact s7 _ _ ga6, upd_same, by rw [hy2]; exact leftS_set ho hr L, by rw [upd_ne npd2]; exact s7 _ _ gp6⟩
    rintro σ H6 ⟨x, g, rfl, o6, ga6, gd6, L, gp6⟩
    rw [List.length_map] at L
    exact k d H6 o6 hdH ⟨⟨dx, ga6⟩, by rw [← L.fin]; exact gd6, nda.symm⟩
theorem sc_Rounds_rest_many : FnScope ["self", "found", "place", "number"] ["self"] (defScope s_Rounds_rest_many) := ⟨rfl, rfl, rfl, by decide +kernel, rfl, by decide +kernel, by decide +kernel⟩
theorem ok_Rounds_rest_many {f : Addr} {fd : FuncData} (F : Fun K "rest_many" "Rounds.rest_many" s_Rounds_rest_many f fd) (T : Txt K mg C_Full C_Log C_NoBack C_NoMark C_NoRow C_Rounds C_Walk) : FnOk P w K mg base CX0 1 f fd ["self"] (sp_Rounds_rest_many K C_Rounds) := by
  refine F.ok sc_Rounds_rest_many (fun vs H Q E h => ?_) (fun cdv A outer s H vs Q E hr h => ?_)
  · obtain ⟨a, d, ps, e, g, rfl, _⟩ := h
    all_goals rfl
  · obtain ⟨a, d, ps, e, g, rfl, hr0, hz, k⟩ := h
    refine ⟨_, (pss_cons (ps_set (i := 1) sc_Rounds_rest_many.nd rfl (Or.inl rfl) pe_int)
    (pss_cons (ps_lock (ps_for PassesOwn.never rfl (pi_keys (pe_fld (pv 0) rfl)) (pg_name (i := 2) sc_Rounds_rest_many.nd rfl (Or.inl rfl)) (pss_one (ps_for PassesOwn.never rfl (pi_range1 (by rfl) T.b_range (pa_cons (pe_callB call_len_str (by rfl) T.b_len (by decide +kernel) (pa_cons (pe_dget (hu_of hr) (pe_fld (pv 0) rfl) (pv 2) (fun _ _ => rfl)) pa_nil)) pa_nil)) (pg_name (i := 3) sc_Rounds_rest_many.nd rfl (Or.inl rfl)) (pss_one (ps_aug (i := 1) sc_Rounds_rest_many.nd rfl (Or.inl rfl) (pe_op op_add (pv 3) pe_int) iop_mul))))))
    (pss_one (ps_ret (pv 1))))), ?_⟩
    obtain ⟨⟨dx, ga⟩, gd, nad⟩ := hr0
    refine ⟨d, _, gd, trivial, fun od => ?_⟩
    have gaL : (upd H d (.frz od (.dK (kvL ps g)))) a = some (.ins C_Rounds dx (rdfs e d)) := by rw [upd_ne nad]; exact ga
    refine ⟨_, rfl, a, C_Rounds, dx, _, _, rfl, gaL, T.o_Rounds.cls, T.y_Rounds_own_left, rfl, d, od, rfl, .inl ⟨kvL ps g, upd_same, for_it walk_keys (fun i σ H' => ∃ x2 x3, σ = [some (.ref a), some (.int (ways (fun p => (g p).length) (ps.take i) : Nat)), x2, x3] ∧ H' = upd H d (.frz od (.dK (kvL ps g)))) ⟨_, _, rfl, rfl⟩ (fun _ _ _ _ ⟨_, _, _, h⟩ => by rw [h]; exact upd_same) ?_ ?_⟩⟩
    · rintro i v σ H3 H4 hi ⟨x2, x3, rfl, rfl⟩ ⟨rfl, k0, v0, hk, rfl⟩
      unfold kvL at hk
      rw [List.getElem?_map] at hk
      obtain ⟨p, hp, e0⟩ := Option.map_eq_some_iff.mp hk
      injection e0 with e1 e2
      subst e1 e2
      have pm : p ∈ ps := List.mem_of_getElem? hp
      have z61 := hz p pm
      refine ⟨_, rfl, a, C_Rounds, dx, _, _, rfl, gaL, T.o_Rounds.cls, T.y_Rounds_own_left, rfl, _, rfl, d, sT (g p), rfl, .inl ⟨kvL ps g, kT p, .inr ⟨od, upd_same⟩, rfl, (val_L g pm).symm⟩, _, rfl, sz_of' (by rw [len_S]; omega), _, rfl, ?_⟩
      rw [len_S]
      refine ⟨by omega, by omega, for_range (lo := 0) (n := _) (fun j σ H' => ∃ x3, σ = [some (.ref a), some (.int (ways (fun p => (g p).length) (ps.take i) * fct j : Nat)), some (sT p), x3] ∧ H' = upd H d (.frz od (.dK (kvL ps g)))) ⟨_, by rw [show fct 0 = 1 from rfl, Nat.mul_one]; rfl, rfl⟩ ?_ ?_⟩
      · rintro j σ H3 hj ⟨x5, rfl, rfl⟩
        refine ⟨_, rfl, _, rfl, _, _, rfl, rfl, _, _, rfl, rfl, .inr ⟨by omega, by omega⟩, ?_⟩
        exact ⟨_, by rw [fct_step]; rfl, rfl⟩
      rintro σ H3 ⟨x5, rfl, rfl⟩
      have ew : ways (fun p => (g p).length) (ps.take (i + 1)) = ways (fun p => (g p).length) (ps.take i) * fct (g p).length := by rw [take_one hp, ways_snoc]
      exact ⟨_, _, by rw [ew]; rfl, rfl⟩
    rintro σ H3 ⟨x2, x3, rfl, rfl⟩
    refine ⟨upd_same, _, rfl, ?_⟩
    rw [show (kvL ps g).length = ps.length by simp [kvL], List.take_length]
    refine k _ fun b o hb => ?_
    by_cases q : b = d
    · subst q
      rw [upd_same, ← gd, hb]
    · rw [upd_ne q, upd_ne q]
      exact hb
theorem sc_is_whole : FnScope ["thing"] ["thing"] (defScope s_is_whole) := ⟨rfl, rfl, rfl, by decide +kernel, rfl, by decide +kernel, by decide +kernel⟩
theorem ok_is_whole {f : Addr} {fd : FuncData} (F : Fun K "is_whole" "is_whole" s_is_whole f fd) (T : Txt K mg C_Full C_Log C_NoBack C_NoMark C_NoRow C_Rounds C_Walk) : FnOk P w K mg base CX0 1 f fd ["thing"] (sp_is_whole) := by
  refine F.ok sc_is_whole (fun vs H Q E h => ?_) (fun cdv A outer s H vs Q E hr h => ?_)
  · obtain ⟨x, r, rfl, _⟩ := h
    all_goals rfl
  · obtain ⟨x, r, rfl, hx, k⟩ := h
    refine ⟨_, (pss_one (ps_ret (pe_and (pe_callB (call_isiK1 (K := K)) (by rfl) T.b_isinstance (by decide +kernel) (pa_cons (pv 0) (pa_cons (pe_bltn (v := .ty "int") (by rfl) T.b_int (by decide +kernel) rfl) pa_nil))) (pe_one (pe_not (pe_callB (call_isiK1 (K := K)) (by rfl) T.b_isinstance (by decide +kernel) (pa_cons (pv 0) (pa_cons (pe_bltn (v := .ty "bool") (by rfl) T.b_bool (by decide +kernel) rfl) pa_nil)))))))), ?_⟩
    rcases hx with ⟨i, rfl, rfl⟩ | ⟨hx, rfl⟩
    · refine Evl.s_ret (Evl.ev_andV (a := true) (b := true) (Evl.ev_isi (Evl.ev_var rfl) Evl.ev_c (.ty "int") (fun _ _ => .base (.int _)) (kit_ty (r := true) (by decide +kernel)))
        (fun _ => Evl.ev_notV (a := false) (Evl.ev_isi (Evl.ev_var rfl) Evl.ev_c (.ty "bool") (fun _ _ => .base (.int _)) (kit_ty (r := false) (by decide +kernel))))) fun H1 e => k H1 e
    · obtain ⟨t, ht, hk | ⟨hk, hk2⟩⟩ := hx.ty (K := K)
      · exact ⟨_, rfl, x, _, _, _, false, rfl, .ty "int", ht, kit_ty hk, false, rfl, k H (Same.refl H)⟩
      · exact ⟨_, rfl, x, _, _, _, true, rfl, .ty "int", ht, kit_ty hk, true, rfl, ⟨_, rfl, x, _, _, _, true, rfl, .ty "bool", ht, kit_ty hk2, true, rfl, k H (Same.refl H)⟩⟩
theorem sc_Walk___len__ : FnScope ["self"] ["self"] (defScope s_Walk___len__) := ⟨rfl, rfl, rfl, by decide +kernel, rfl, by decide +kernel, by decide +kernel⟩
theorem ok_Walk___len__ {f : Addr} {fd : FuncData} (F : Fun K "__len__" "Walk.__len__" s_Walk___len__ f fd) (T : Txt K mg C_Full C_Log C_NoBack C_NoMark C_NoRow C_Rounds C_Walk) : FnOk P w K mg base CX0 1 f fd ["self"] (sp_Walk___len__ C_Walk) := by
  refine F.ok sc_Walk___len__ (fun vs H Q E h => ?_) (fun cdv A outer s H vs Q E hr h => ?_)
  · obtain ⟨a, q, ps, e, rfl, _⟩ := h
    all_goals rfl
  · obtain ⟨a, q, ps, e, rfl, hw, hz, k⟩ := h
    refine ⟨_, (pss_one (ps_ret (pe_callB (call_lenK (K := K)) (by rfl) T.b_len (by decide +kernel) (pa_cons (pe_fld (pv 0) rfl) pa_nil)))), ?_⟩
    obtain ⟨⟨dx, ga⟩, gq⟩ := hw
    refine ⟨_, rfl, a, C_Walk, dx, _, _, rfl, ga, T.o_Walk.cls, T.y_Walk_own_places, rfl, q, _, rfl, .inl (SqL.of gq), ?_⟩
    rw [List.length_map]
    exact k H (Same.refl H)
theorem sc_signs_many : FnScope ["walk"] ["walk"] (defScope s_signs_many) := ⟨rfl, rfl, rfl, by decide +kernel, rfl, by decide +kernel, by decide +kernel⟩
theorem ok_signs_many {f : Addr} {fd : FuncData} (F : Fun K "signs_many" "signs_many" s_signs_many f fd) (T : Txt K mg C_Full C_Log C_NoBack C_NoMark C_NoRow C_Rounds C_Walk) (kn_Walk___len__ : KM P w K mg base CX0 1 ["self"] (sp_Walk___len__ C_Walk) C_Walk "__len__" []) (kn_Walk_end : KM P w K mg base CX0 1 ["self"] (sp_Walk_end C_Walk) C_Walk "end" []) : FnOk P w K mg base CX0 4 f fd ["walk"] (sp_signs_many C_Walk) := by
  obtain ⟨f_Walk___len__, fd_Walk___len__, ds_Walk___len__, i_Walk___len__, t_Walk___len__, fn_Walk___len__, k_Walk___len__, v_Walk___len__, b_Walk___len__, G_Walk___len__⟩ := kn_Walk___len__
  obtain ⟨f_Walk_end, fd_Walk_end, ds_Walk_end, i_Walk_end, t_Walk_end, fn_Walk_end, k_Walk_end, v_Walk_end, b_Walk_end, G_Walk_end⟩ := kn_Walk_end
  refine F.ok sc_signs_many (fun vs H Q E h => ?_) (fun cdv A outer s H vs Q E hr h => ?_)
  · obtain ⟨a, q, ps, e, rfl, _⟩ := h
    all_goals rfl
  · obtain ⟨a, q, ps, e, rfl, hw, hz, hy, k⟩ := h
    refine ⟨_, (pss_one (ps_ret (pe_op op_sub (pe_op op_mul pe_int (pe_op op_sub (pe_callB (call_lenO i_Walk___len__ fn_Walk___len__ G_Walk___len__ (hr.mono (by decide)) b_Walk___len__ v_Walk___len__ pass0) (by rfl) T.b_len (by decide +kernel) (pa_cons (pv 0) pa_nil)) pe_int)) (pe_callB call_len_str (by rfl) T.b_len (by decide +kernel) (pa_cons (pe_meth0 (pv 0) T.o_Walk.cls ⟨i_Walk_end, fn_Walk_end, k_Walk_end⟩ G_Walk_end (hr.mono (by decide)) b_Walk_end v_Walk_end pass0) pa_nil))))), ?_⟩
    obtain ⟨⟨dx, ga⟩, gq⟩ := id hw
    refine ⟨_, rfl, a, dx, _, rfl, ga, a, q, ps, e, rfl, hw, hz, fun H1 s1 => ⟨ps.length, rfl, by omega, _, _, rfl, rfl, _, _, rfl, rfl, .inl ⟨by decide, by decide⟩, ?_⟩⟩
    refine ⟨_, rfl, a, dx, _, rfl, s1 _ _ ga, rfl, a, q, ps, e, rfl, hw.same s1, fun H2 s2 => ⟨_, rfl, sz_of' (by rw [len_S]; omega), _, _, rfl, rfl, ?_⟩⟩
    rw [len_S]
    exact k H2 (Same.trans s1 s2)
theorem sc_Rounds_home : FnScope ["self", "here"] ["self"] (defScope s_Rounds_home) := ⟨rfl, rfl, rfl, by decide +kernel, rfl, by decide +kernel, by decide +kernel⟩
theorem ok_Rounds_home {f : Addr} {fd : FuncData} (F : Fun K "home" "Rounds.home" s_Rounds_home f fd) (T : Txt K mg C_Full C_Log C_NoBack C_NoMark C_NoRow C_Rounds C_Walk) (kn_contrary_sign : KN P w K mg base CX0 1 ["sign"] (sp_contrary_sign) "contrary_sign" []) : FnOk P w K mg base CX0 2 f fd ["self"] (sp_Rounds_home C_Rounds) := by
  obtain ⟨f_contrary_sign, fd_contrary_sign, ds_contrary_sign, m_contrary_sign, k_contrary_sign, v_contrary_sign, b_contrary_sign, G_contrary_sign⟩ := kn_contrary_sign
  refine F.ok sc_Rounds_home (fun vs H Q E h => ?_) (fun cdv A outer s H vs Q E hr h => ?_)
  · obtain ⟨a, d, ps, e, h, g, rfl, _⟩ := h
    all_goals rfl
  · obtain ⟨a, d, ps, e, h, g, rfl, hr0, hh, zh, ze, k⟩ := h
    refine ⟨_, (pss_cons (ps_set (i := 1) sc_Rounds_home.nd rfl (Or.inl rfl) (pe_fld (pv 0) rfl))
    (pss_cons (ps_if (pt_cmpR op_eq (pv 1) (pe_fld (pv 0) rfl) (nomark _)) (pss_one (ps_ret pe_str)) pss_nil)
    (pss_cons (ps_if (pt_val (pe_m1 PySem.F.slot_str_startswith PySem.F.type_str_startswith mt_startswith (pe_fld (pv 0) rfl) (pv 1))) (pss_one (ps_ret (pe_ix ix_str (pe_fld (pv 0) rfl) (pe_callB call_len_str (by rfl) T.b_len (by decide +kernel) (pa_cons (pv 1) pa_nil)) (fun _ _ => rfl)))) pss_nil)
    (pss_one (ps_ret (pe_call G_contrary_sign (hr.mono (by decide)) rfl m_contrary_sign k_contrary_sign b_contrary_sign v_contrary_sign pass0 (pa_cons (pe_ix ix_str (pv 1) (pe_un un_neg pe_int) (fun _ _ => rfl)) pa_nil))))))), ?_⟩
    obtain ⟨dx, ga⟩ := hr0.ob
    refine ⟨_, rfl, a, C_Rounds, dx, _, _, rfl, ga, T.o_Rounds.cls, T.y_Rounds_own_here, rfl, ?_⟩
    refine ⟨_, rfl, _, rfl, a, C_Rounds, dx, _, _, rfl, ga, T.o_Rounds.cls, T.y_Rounds_own_end, rfl, rfl, _, rfl, ?_⟩
    unfold homeS at k
    rw [show decide (sT h = sT e) = decide (h = e) from dec_str h e]
    by_cases q : h = e
    · rw [decide_eq_true q]
      rw [if_pos q] at k
      exact iteT (k H (Same.refl H))
    rw [decide_eq_false q]
    rw [if_neg q] at k
    refine iteF ⟨_, rfl, a, C_Rounds, dx, _, _, rfl, ga, T.o_Rounds.cls, T.y_Rounds_own_end, rfl, ⟨_, rfl⟩, _, rfl, _, _, rfl, rfl, _, rfl, ?_⟩
    rw [starts_S]
    cases hp : h.isPrefixOf e with
    | true =>
      rw [hp, if_pos rfl] at k
      obtain ⟨c, r, he⟩ := prefix_split (pre_iff.mp hp) q
      have hg : e.getD h.length 0 = c := by rw [he]; simp
      have hg2 : e[h.length]? = some c := by rw [he]; simp
      rw [hg] at k
      exact iteT ⟨_, rfl, a, C_Rounds, dx, _, _, rfl, ga, T.o_Rounds.cls, T.y_Rounds_own_end, rfl, _, rfl, _, rfl, (by rw [len_S]; exact sz_of' (by omega)), S e, ((S h).length : Int), c, rfl, rfl, (by rw [len_S]; exact sz_of' (by omega)), (by rw [len_S]; exact atI_nat (xs := e) hg2), k H (Same.refl H)⟩
    | false =>
      rw [hp, if_neg (by decide)] at k
      have h0 : h ≠ [] := fun z => by rw [z] at hp; cases hp
      obtain ⟨m, c, rfl⟩ := exists_snoc h0
      rw [show (m ++ [c]).getLastD 0 = c by simp] at k
      exact iteF ⟨_, rfl, _, rfl, _, _, c, rfl, rfl, (by rw [len_S]; exact sz_of' (by omega)), at_last, c, rfl, hh c (by simp), fun H1 s1 => k H1 s1⟩
theorem sc_Rounds_choices : FnScope ["self"] ["self"] (defScope s_Rounds_choices) := ⟨rfl, rfl, rfl, by decide +kernel, rfl, by decide +kernel, by decide +kernel⟩
theorem ok_Rounds_choices {f : Addr} {fd : FuncData} (F : Fun K "choices" "Rounds.choices" s_Rounds_choices f fd) (T : Txt K mg C_Full C_Log C_NoBack C_NoMark C_NoRow C_Rounds C_Walk) (kn_Rounds_home : KM P w K mg base CX0 2 ["self"] (sp_Rounds_home C_Rounds) C_Rounds "home" []) : FnOk P w K mg base CX0 3 f fd ["self"] (sp_Rounds_choices C_Rounds) := by
  obtain ⟨f_Rounds_home, fd_Rounds_home, ds_Rounds_home, i_Rounds_home, t_Rounds_home, fn_Rounds_home, k_Rounds_home, v_Rounds_home, b_Rounds_home, G_Rounds_home⟩ := kn_Rounds_home
  refine F.ok sc_Rounds_choices (fun vs H Q E h => ?_) (fun cdv A outer s H vs Q E hr h => ?_)
  · obtain ⟨a, d, ps, e, h, g, rfl, _⟩ := h
    all_goals rfl
  · obtain ⟨a, d, ps, e, h, g, rfl, hr0, hm, hh, zh, ze, zg, k⟩ := h
    refine ⟨_, (pss_one (ps_ret (pe_orT (pe_dget (hu_of hr) (pe_fld (pv 0) rfl) (pe_fld (pv 0) rfl) (fun _ _ => rfl)) (pe_one (pe_meth0 (pv 0) T.o_Rounds.cls ⟨i_Rounds_home, fn_Rounds_home, k_Rounds_home⟩ G_Rounds_home (hr.mono (by decide)) b_Rounds_home v_Rounds_home pass0))))), ?_⟩
    obtain ⟨dx, ga⟩ := hr0.ob
    refine ⟨_, rfl, a, C_Rounds, dx, _, _, rfl, ga, T.o_Rounds.cls, T.y_Rounds_own_left, rfl, _, rfl, a, C_Rounds, dx, _, _, rfl, ga, T.o_Rounds.cls, T.y_Rounds_own_here, rfl, d, sT (g h), rfl, .inl ⟨_, kT h, .inl hr0.dt, rfl, (val_L g hm).symm⟩, (((S (g h)).length : Int) != 0), ⟨by rw [len_S]; exact sz_of' (by omega), rfl⟩, ?_⟩
    have ek : (((S (g h)).length : Int) != 0) = !decide (g h = []) := by
      rw [len_S]
      by_cases q : g h = []
      · rw [q]; rfl
      · have : 1 ≤ (g h).length := List.length_pos_iff.mpr q
        rw [decide_eq_false q]
        exact bne_iff_ne.mpr (by omega)
    rw [ek]
    by_cases q : g h = []
    · rw [if_pos q] at k
      rw [decide_eq_true q]
      exact iteF ⟨_, rfl, a, _, _, rfl, ga, rfl, a, d, ps, e, h, g, rfl, hr0, hh, zh, ze, fun H1 s1 => k H1 s1⟩
    · rw [if_neg q] at k
      rw [decide_eq_false q]
      exact iteT (k H (Same.refl H))
theorem sc_Rounds_go_on : FnScope ["self", "sign", "here"] ["self", "sign"] (defScope s_Rounds_go_on) := ⟨rfl, rfl, rfl, by decide +kernel, rfl, by decide +kernel, by decide +kernel⟩
theorem ok_Rounds_go_on {f : Addr} {fd : FuncData} (F : Fun K "go_on" "Rounds.go_on" s_Rounds_go_on f fd) (T : Txt K mg C_Full C_Log C_NoBack C_NoMark C_NoRow C_Rounds C_Walk) (kn_made_plain : KN P w K mg base CX0 2 ["text"] (sp_made_plain) "made_plain" []) : FnRaw P w K mg base CX0 3 f fd ["self", "sign"] (sp_Rounds_go_on C_Rounds) := by
  obtain ⟨f_made_plain, fd_made_plain, ds_made_plain, m_made_plain, k_made_plain, v_made_plain, b_made_plain, G_made_plain⟩ := kn_made_plain
  refine F.okRaw sc_Rounds_go_on rfl (fun vs H Q E h => ?_) (fun cdv A outer s H a0 c0 Q E hr hsp => ?_)
  · obtain ⟨a, d, ps, e, h, g, c, rfl, _⟩ := h
    rfl
  · obtain ⟨a, d, ps, e, h, g, c, hv, hr0, hm, hh, hc, zh, zp, zg, k⟩ := hsp
    cases hv
    refine ⟨_, (body_set (i := 2) (j := 0) sc_Rounds_go_on.nd rfl rfl rfl (Or.inl rfl) (by decide)
    (body_repl (jp := 0) (jy := 2) (hu_of hr) rfl (Or.inl rfl) rfl (Or.inl rfl) rfl (pe_fld (pv 0) rfl) (pv 2) (pss_one (ps_fld (pv 0) (pe_call G_made_plain (hr.mono (by decide)) rfl m_made_plain k_made_plain b_made_plain v_made_plain pass0 (pa_cons (pe_op op_add_str (pv 2) (pv 1)) pa_nil)) rfl)))), ?_⟩
    obtain ⟨dx, ga⟩ := hr0.ob
    have nad := hr0.ne
    refine ⟨_, rfl, a0, C_Rounds, dx, _, _, rfl, ga, T.o_Rounds.cls, T.y_Rounds_own_here, rfl, ?_⟩
    refine ⟨a0, C_Rounds, dx, d, _, _, kT h, S (g h), rfl, ga, T.o_Rounds.cls, T.y_Rounds_own_left, rfl, rfl, hr0.dt, val_L g hm, by rw [len_S]; omega, rfl, ?_⟩
    refine ⟨_, rfl, a0, C_Rounds, dx, _, _, rfl, ga, T.o_Rounds.cls, T.y_Rounds_own_left, rfl, _, rfl, d, _, rfl, DPut.k (k := kT h) hr0.dt (by rw [kvL_len]; exact Nat.lt_of_le_of_lt zp (by decide)), ?_⟩
    rw [rep_one]
    have en : putK (kvL ps g) (kT h) (V.str (S ((g h).filter fun x => decide (x ≠ c)))) = kvL ps (setF g h ((g h).filter fun x => decide (x ≠ c))) := put_old hm
    rw [en]
    refine ⟨_, rfl, _, rfl, _, _, rfl, rfl, sz_of' (by rw [len_S, len_S]; show _ + 1 ≤ _; omega), h ++ [c], (by show [V.str (S h ++ S [c])] = _; rw [add_S]), row_snoc hh hc, (by rw [List.length_append]; show _ + 1 ≤ _; omega), fun H5 s5 => ?_⟩
    have ga5 := s5 a0 _ (show (upd H d (.dK (kvL ps (setF g h ((g h).filter fun x => decide (x ≠ c)))))) a0 = _ from (upd_ne nad).trans ga)
    have gd5 := s5 d _ (upd_same (H := H) (a := d) (o := .dK (kvL ps (setF g h ((g h).filter fun x => decide (x ≠ c))))))
    refine ⟨_, rfl, a0, C_Rounds, dx, _, rfl, ga5, T.o_Rounds.cls, T.y_Rounds_own_here, by show 3 < 1000; decide, ?_⟩
    refine k _ (fun b o h1 h2 hb => ?_) ⟨⟨dx, upd_same⟩, by rw [upd_ne nad.symm]; exact gd5, nad⟩
    rw [upd_ne h1]
    exact s5 _ _ (by rw [upd_ne h2]; exact hb)
theorem sc_shortest_at : FnScope ["walk", "number", "rounds", "many", "left", "found", "turn", "some", "at"] ["walk", "number"] (defScope s_shortest_at) := ⟨rfl, rfl, rfl, by decide +kernel, rfl, by decide +kernel, by decide +kernel⟩
theorem ok_shortest_at {f : Addr} {fd : FuncData} (F : FunD K "shortest_at" "shortest_at" (defArgs s_shortest_at) (defBody s_shortest_at) (defScope s_shortest_at) [.int 0] [] f fd) (T : Txt K mg C_Full C_Log C_NoBack C_NoMark C_NoRow C_Rounds C_Walk) (kn_Rounds___init__ : KM P w K mg base CX0 4 ["self", "walk"] (sp_Rounds___init__ K C_Rounds C_Walk) C_Rounds "__init__" []) (kn_Rounds_rest_many : KM P w K mg base CX0 1 ["self"] (sp_Rounds_rest_many K C_Rounds) C_Rounds "rest_many" []) (kn_is_whole : KN P w K mg base CX0 1 ["thing"] (sp_is_whole) "is_whole" []) (kn_signs_many : KN P w K mg base CX0 4 ["walk"] (sp_signs_many C_Walk) "signs_many" []) (kn_Rounds_choices : KM P w K mg base CX0 3 ["self"] (sp_Rounds_choices C_Rounds) C_Rounds "choices" []) (kn_Rounds_go_on : KMR P w K mg base CX0 3 ["self", "sign"] (sp_Rounds_go_on C_Rounds) C_Rounds "go_on" []) : FnOk P w K mg base CX0 6 f fd ["walk", "number"] (sp_shortest_at K C_Rounds C_Walk) := by
  obtain ⟨f_Rounds___init__, fd_Rounds___init__, ds_Rounds___init__, i_Rounds___init__, t_Rounds___init__, fn_Rounds___init__, k_Rounds___init__, v_Rounds___init__, b_Rounds___init__, G_Rounds___init__⟩ := kn_Rounds___init__
  obtain ⟨f_Rounds_rest_many, fd_Rounds_rest_many, ds_Rounds_rest_many, i_Rounds_rest_many, t_Rounds_rest_many, fn_Rounds_rest_many, k_Rounds_rest_many, v_Rounds_rest_many, b_Rounds_rest_many, G_Rounds_rest_many⟩ := kn_Rounds_rest_many
  obtain ⟨f_is_whole, fd_is_whole, ds_is_whole, m_is_whole, k_is_whole, v_is_whole, b_is_whole, G_is_whole⟩ := kn_is_whole
  obtain ⟨f_signs_many, fd_signs_many, ds_signs_many, m_signs_many, k_signs_many, v_signs_many, b_signs_many, G_signs_many⟩ := kn_signs_many
  obtain ⟨f_Rounds_choices, fd_Rounds_choices, ds_Rounds_choices, i_Rounds_choices, t_Rounds_choices, fn_Rounds_choices, k_Rounds_choices, v_Rounds_choices, b_Rounds_choices, G_Rounds_choices⟩ := kn_Rounds_choices
  obtain ⟨f_Rounds_go_on, fd_Rounds_go_on, ds_Rounds_go_on, i_Rounds_go_on, t_Rounds_go_on, fn_Rounds_go_on, k_Rounds_go_on, v_Rounds_go_on, b_Rounds_go_on, G_Rounds_go_on⟩ := kn_Rounds_go_on
  refine F.ok0 sc_shortest_at (fun vs H Q E h => ?_) (fun cdv A outer s H vs Q E hr h => ?_)
  · obtain ⟨w, q, ps, e, n, rfl, _⟩ := h
    all_goals rfl
  · obtain ⟨w, q, ps, e, n, rfl, hw, ho, he, hn, k⟩ := h
    refine ⟨_, (pss_cons (ps_set (i := 2) sc_shortest_at.nd rfl (Or.inl rfl) (pe_make ⟨T.o_Rounds.made, i_Rounds___init__, fn_Rounds___init__, T.o_Rounds.kC⟩ G_Rounds___init__ (hr.mono (by decide)) rfl T.o_Rounds.gC b_Rounds___init__ v_Rounds___init__ pass0 (pa_cons (pv 0) pa_nil)))
    (pss_cons (ps_set (i := 3) sc_shortest_at.nd rfl (Or.inl rfl) (pe_meth0 (pv 2) T.o_Rounds.cls ⟨i_Rounds_rest_many, fn_Rounds_rest_many, k_Rounds_rest_many⟩ G_Rounds_rest_many (hr.mono (by decide)) b_Rounds_rest_many v_Rounds_rest_many pass0))
    (pss_cons (ps_if (PW.pt (pw_or (pt_not (pt_val (pe_call G_is_whole (hr.mono (by decide)) rfl m_is_whole k_is_whole b_is_whole v_is_whole pass0 (pa_cons (pv 1) pa_nil)))) (pw_or1 (pt_not (pt_chain op_le op_lt pe_int (pv 1) (pv 3)))))) (pss_one ps_never) pss_nil)
    (pss_cons (ps_par (i := 4) (j := 5) (by rfl) sc_shortest_at.nd rfl rfl (by decide) rfl rfl (pa_cons (pv 1) (pa_cons pe_str pa_nil)) (by rfl))
    (pss_cons (ps_for PassesOwn.never rfl (pi_range1 (by rfl) T.b_range (pa_cons (pe_call G_signs_many (hr.mono (by decide)) rfl m_signs_many k_signs_many b_signs_many v_signs_many pass0 (pa_cons (pv 0) pa_nil)) pa_nil)) (pg_name (i := 6) sc_shortest_at.nd rfl (Or.inl rfl)) (pss_setT (i := 7) sc_shortest_at.nd rfl rfl (pe_meth0 (pv 2) T.o_Rounds.cls ⟨i_Rounds_choices, fn_Rounds_choices, k_Rounds_choices⟩ G_Rounds_choices (hr.mono (by decide)) b_Rounds_choices v_Rounds_choices pass0)
    (psst_cons (PST.of (ps_aug (i := 3) sc_shortest_at.nd rfl (Or.inl rfl) (pe_callB call_len_str (by rfl) T.b_len (by decide +kernel) (pa_cons (pv 7) pa_nil)) iop_fdiv))
    (psst_cons (PST.of (ps_asg (pe_callB call_divmodW (by rfl) T.b_divmod (by decide +kernel) (pa_cons (pv 4) (pa_cons (pv 3) pa_nil))) (pg_tup rfl (pgs_cons (pg_name (i := 8) sc_shortest_at.nd rfl (Or.inl rfl)) (pgs_cons (pg_name (i := 4) sc_shortest_at.nd rfl (Or.inl rfl)) pgs_nil)))))
    (psst_cons (PST.of (ps_aug (i := 5) sc_shortest_at.nd rfl (Or.inl rfl) (pe_ix ix_str (pv 7) (pv 8) (fun _ _ => rfl)) iop_add_str))
    (PSsT.one (pst_methRaw (pv 2) T.o_Rounds.cls ⟨i_Rounds_go_on, fn_Rounds_go_on, k_Rounds_go_on⟩ G_Rounds_go_on (hr.mono (by decide)) b_Rounds_go_on v_Rounds_go_on pass0 (jz := 7) rfl (Or.inl rfl) (jy := 8) rfl (Or.inl rfl))))))))
    (pss_one (ps_ret (pv 5)))))))), ?_⟩
    obtain ⟨⟨dw, gw⟩, gq⟩ := id hw
    have T' := TrE.of ho he
    have ze := ho.t.z _ he
    refine ⟨_, rfl, fun x dx hx hdx nx => ?_⟩
    have s0 : Same H (upd (upd H dx (.own x)) x (.ins C_Rounds dx [])) := fun b o hb => by rw [upd_ne (ne_of_none hb hx), upd_ne (ne_of_none hb hdx)]; exact hb
    refine ⟨x, dx, w, q, ps, e, rfl, upd_same, hw.same s0, ho, ho.t.row he, ne_of_none gw hx, ne_of_none gq hx, fun d H4 o4 nd r4 => ⟨rfl, ?_⟩⟩
    have s4 : Same H H4 := fun b o hb => o4 b o (ne_of_none hb hx) (s0 _ _ hb)
    have hd0 : H d = none := Same.free s0 nd
    have hx0 := hx
    obtain ⟨⟨dx4, g4⟩, gd, nad⟩ := id r4
    have rd4 : RdH C_Rounds H4 x d ps e [] (lft ps e) := ⟨⟨dx4, g4⟩, gd, nad⟩
    refine ⟨_, rfl, x, dx4, _, rfl, g4, rfl, x, d, ps, e, lft ps e, rfl, r4, (fun p hp => by rw [lft_len]; exact Nat.le_trans (cnt_le ps e p) ho.t.n1), fun H5 s5 => ?_⟩
    refine ⟨_, rfl, _, true, rfl, .inl ⟨(n : Int), rfl, rfl⟩, fun H6 s6 => ⟨true, rfl, iteF ?_⟩⟩
    refine ⟨_, rfl, _, _, rfl, rfl, _, rfl, ?_⟩
    rw [decide_eq_true (by omega : (0 : Int) ≤ (n : Int))]
    refine iteT ⟨_, rfl, _, _, rfl, rfl, _, rfl, ?_⟩
    rw [decide_eq_true (by omega : (n : Int) < ((ways (fun p => (lft ps e p).length) ps : Nat) : Int))]
    refine iteF ⟨_, rfl, _, _, rfl, ?_⟩
    have s46 := Same.trans s5 s6
    have s06 := Same.trans s4 s46
    refine ⟨_, rfl, w, q, ps, e, rfl, hw.same s06, ho.t.n1, ze, fun H7 s7 => ⟨_, rfl, ?_, ?_, ?_⟩⟩
    · have := ho.t.n1
      omega
    · have := ho.t.n1
      omega
    have el : (2 * ((ps.length : Int) - 1) - (e.length : Int)).toNat = lenS ps e := by
      unfold lenS
      have := ho.t.n0
      omega
    rw [el]
    have en : ways (fun p => (lft ps e p).length) ps = (initS ps e n).many := rfl
    refine for_range (lo := 0) (n := lenS ps e) (fun i σ H' => ∃ x6 x7 x8, σ = [some (.ref w), some (.int (n : Int)), some (.ref x), some (.int ((runS e i (initS ps e n)).many : Nat)), some (.int ((runS e i (initS ps e n)).left : Nat)), some (.str (S (runS e i (initS ps e n)).f)), x6, x7, x8] ∧ Same H H' ∧ RdH C_Rounds H' x d ps e (runS e i (initS ps e n)).h (runS e i (initS ps e n)).g)
      ⟨_, _, _, rfl, Same.trans s06 s7, (rd4.same s46).same s7⟩ ?_ ?_
    · rintro i σ H8 hi ⟨x6, x7, x8, rfl, s8, r8⟩
      have I := InvS.run T' hn i (by omega)
      obtain ⟨n1, n2, n3⟩ := I.next T' hi
      have hm8 := run_many e (initS ps e n) i
      show _
      obtain ⟨s, hs⟩ : ∃ s, s = runS e i (initS ps e n) := ⟨_, rfl⟩
      have hs1 : runS e (i + 1) (initS ps e n) = stepS e s := by rw [hs]; rfl
      rw [← hs] at I n1 n2 n3 hm8 r8 ⊢
      have hm := I.vs _ I.here
      have zh := ho.t.z _ hm
      have zg := I.gle ho
      obtain ⟨dx8, ga8⟩ := r8.ob
      refine ⟨_, rfl, x, _, _, rfl, ga8, rfl, x, d, ps, e, s.h, s.g, rfl, r8, hm, I.pr.1, zh, ze, zg, fun H9 s9 => ?_⟩
      have r9 := r8.same s9
      have ec : (if s.g s.h = [] then homeS e s.h else s.g s.h) = chS e s := rfl
      rw [ec]
      have zc : (chS e s).length ≤ 61 := by
        unfold chS
        split
        · unfold homeS
          split
          · show 0 ≤ 61; decide
          · split
            · show 1 ≤ 61; decide
            · show 1 ≤ 61; decide
        · exact zg
      have zc1 : 1 ≤ (chS e s).length := List.length_pos_iff.mpr n1
      have sc : cS e s ∈ sgns := by
        have := n3.rf (cS e s) (by show cS e s ∈ s.f ++ [cS e s]; simp)
        exact this
      have ef : (chS e s)[atS e s]? = some (cS e s) := by
        unfold cS
        rw [List.getD_eq_getElem?_getD, List.getElem?_eq_getElem n2]
        rfl
      have hat : atI (S (chS e s)).cps.toList ((s.left / (s.many / (chS e s).length) : Nat) : Int) = some (cS e s) := atI_nat (xs := chS e s) ef
      have m1 : 0 < s.many / (chS e s).length := Nat.lt_of_le_of_lt (Nat.zero_le _) n3.lt
      have zf : s.f.length ≤ 200 := by
        rw [I.ln]
        have := ho.t.n1
        unfold lenS at hi
        omega
      have d1 : (s.many : Int) / ((S (chS e s)).length : Int) = ((s.many / (chS e s).length : Nat) : Int) := by rw [len_S]; exact (Int.natCast_ediv _ _).symm
      refine ⟨_, rfl, _, rfl, _, rfl, (by rw [len_S]; exact sz_of' (by omega)), _, _, rfl, rfl, ⟨by rw [len_S]; omega, by rw [len_S]; omega⟩, ?_⟩
      have m9 : ((s.many / (chS e s).length : Nat) : Int).natAbs.log2 < 9000 := by
        have h1 := ways_log ho e
        rw [← ways_lft] at h1
        have h2 : (s.many / (chS e s).length) ≤ ways (fun p => (lft ps e p).length) ps := Nat.le_trans (Nat.div_le_self _ _) hm8
        have h3 : (s.many / (chS e s).length).log2 ≤ (ways (fun p => (lft ps e p).length) ps).log2 := by
          by_cases z : s.many / (chS e s).length = 0
          · omega
          · exact (Nat.le_log2 (by omega)).mpr (Nat.le_trans (Nat.log2_self_le z) h2)
        show (s.many / (chS e s).length).log2 < 9000
        omega
      have dA : V.int ((s.left : Int) / ((s.many / (chS e s).length : Nat) : Int)) = .int ((atS e s : Nat) : Int) := congrArg V.int (Int.natCast_ediv _ _).symm
      refine ⟨_, rfl, _, rfl, ((s.left : Nat) : Int), ((s.many / (chS e s).length : Nat) : Int), (by show [V.int (s.left : Int), V.int ((s.many : Int) / ((S (chS e s)).length : Int))] = _; rw [d1]), ⟨by omega, m9⟩, fun p hp => ?_⟩
      refine ⟨p, [_, _], rfl, SqT.of upd_same, rfl, _, _, rfl, _, _, rfl, rfl, ?_⟩
      have sp := Same.new (o := .tup [.int ((s.left : Int) / ((s.many / (chS e s).length : Nat) : Int)), .int ((s.left : Int) % ((s.many / (chS e s).length : Nat) : Int))]) hp
      have r10 := r9.same sp
      have s10 := Same.trans s8 (Same.trans s9 sp)
      generalize upd H9 p (.tup [.int ((s.left : Int) / ((s.many / (chS e s).length : Nat) : Int)), .int ((s.left : Int) % ((s.many / (chS e s).length : Nat) : Int))]) = H10 at *
      refine ⟨_, rfl, _, rfl, _, rfl, S (chS e s), ((atS e s : Nat) : Int), cS e s, rfl, dA, (by rw [len_S]; exact sz_of' (by omega)), hat, _, _, rfl, rfl, sz_str (m := [cS e s]) (by omega) (by simp), ?_⟩
      obtain ⟨dx10, ga10⟩ := r10.ob
      refine ⟨_, rfl, x, _, _, rfl, ga10, rfl, _, rfl, _, rfl, S (chS e s), ((atS e s : Nat) : Int), cS e s, rfl, dA, (by rw [len_S]; exact sz_of' (by omega)), hat, x, d, ps, e, s.h, s.g, cS e s, rfl, r10, hm, I.pr.1, sc, zh, ho.t.n1, zg, fun H11 f11 r11 => ?_⟩
      have e1 : V.int ((s.many : Int) / ((S (chS e s)).length : Int)) = .int ((stepS e s).many : Nat) := congrArg V.int d1
      have e2 : V.int ((s.left : Int) % ((s.many / (chS e s).length : Nat) : Int)) = .int ((stepS e s).left : Nat) := congrArg V.int (Int.natCast_emod _ _).symm
      have e3 : V.str (S s.f ++ ⟨#[cS e s]⟩) = .str (S (stepS e s).f) := congrArg V.str (add_S _ _)
      rw [WalkM.on_plain _ I.pr] at r11
      rw [hs1]
      exact ⟨_, _, _, by rw [← e1, ← e2, ← e3]; rfl, fun b o hb => f11 b o (ne_of_none hb hx0) (ne_of_none hb hd0) (s10 _ _ hb), r11⟩
    rintro σ H8 ⟨x6, x7, x8, rfl, s8, r8⟩
    exact ⟨_, rfl, k H8 s8⟩
theorem sc_Log_short : FnScope ["self"] ["self"] (defScope s_Log_short) := ⟨rfl, rfl, rfl, by decide +kernel, rfl, by decide +kernel, by decide +kernel⟩
theorem ok_Log_short {f : Addr} {fd : FuncData} (F : Fun K "short" "Log.short" s_Log_short f fd) (T : Txt K mg C_Full C_Log C_NoBack C_NoMark C_NoRow C_Rounds C_Walk) (kn_shortest_at_d1 : KN P w K mg base CX0 6 ["walk", "number"] (sp_shortest_at K C_Rounds C_Walk) "shortest_at" [.int 0]) (kn_Log_walk : KM P w K mg base CX0 7 ["self"] (sp_Log_walk K C_Log C_Walk) C_Log "walk" []) : FnOk P w K mg base CX0 8 f fd ["self"] (sp_Log_short K C_Log C_Walk C_Rounds) := by
  obtain ⟨f_shortest_at_d1, fd_shortest_at_d1, ds_shortest_at_d1, m_shortest_at_d1, k_shortest_at_d1, v_shortest_at_d1, b_shortest_at_d1, G_shortest_at_d1⟩ := kn_shortest_at_d1
  obtain ⟨f_Log_walk, fd_Log_walk, ds_Log_walk, i_Log_walk, t_Log_walk, fn_Log_walk, k_Log_walk, v_Log_walk, b_Log_walk, G_Log_walk⟩ := kn_Log_walk
  refine F.ok sc_Log_short (fun vs H Q E h => ?_) (fun cdv A outer s H vs Q E hr h => ?_)
  · obtain ⟨a, kd, md, t, o, mk, rfl, _⟩ := h
    all_goals rfl
  · obtain ⟨a, kd, md, t, o, mk, rfl, hg, rt, zt, k⟩ := h
    refine ⟨_, (pss_one (ps_ret (pe_call G_shortest_at_d1 (hr.mono (by decide)) rfl m_shortest_at_d1 k_shortest_at_d1 b_shortest_at_d1 v_shortest_at_d1 pass0 (pa_cons (pe_meth0 (pv 0) T.o_Log.cls ⟨i_Log_walk, fn_Log_walk, k_Log_walk⟩ G_Log_walk (hr.mono (by decide)) b_Log_walk v_Log_walk pass0) pa_nil)))), ?_⟩
    have tS := treeS_of rt zt
    have oS := ord_srt tS
    obtain ⟨dx, ga⟩ := hg.ob
    refine ⟨_, rfl, a, _, _, rfl, ga, rfl, a, kd, md, t, o, mk, rfl, hg, rt, zt, fun b r H1 s1 nb nr w1 => ?_⟩
    exact ⟨b, r, srt (gone t), RowM.plain t, 0, rfl, w1, oS, WalkM.srt_mem.mpr (WalkM.end_gone t), ways_pos _ _, fun H2 s2 => k H2 (Same.trans s1 s2)⟩
theorem sc_law_seen : FnScope ["_law_log"] ["_law_log"] (defScope s_law_seen) := ⟨rfl, rfl, rfl, by decide +kernel, rfl, by decide +kernel, by decide +kernel⟩
theorem ok_law_seen {f : Addr} {fd : FuncData} (F : Fun K "_law_seen" "_law_seen" s_law_seen f fd) (T : Txt K mg C_Full C_Log C_NoBack C_NoMark C_NoRow C_Rounds C_Walk) (kn_Log_row : KM P w K mg base CX0 1 ["self"] (sp_Log_row C_Log) C_Log "row" []) (kn_Log_standing : KM P w K mg base CX0 1 ["self"] (sp_Log_standing C_Log) C_Log "standing" []) (kn_Log_marks : KM P w K mg base CX0 1 ["self"] (sp_Log_marks C_Log) C_Log "marks" []) (kn_Log___len__ : KM P w K mg base CX0 1 ["self"] (sp_Log___len__ C_Log) C_Log "__len__" []) (kn_Log_walk : KM P w K mg base CX0 7 ["self"] (sp_Log_walk K C_Log C_Walk) C_Log "walk" []) (kn_Walk___str__ : KM P w K mg base CX0 2 ["self"] (sp_Walk___str__ K C_Walk) C_Walk "__str__" []) (kn_Log_short : KM P w K mg base CX0 8 ["self"] (sp_Log_short K C_Log C_Walk C_Rounds) C_Log "short" []) : FnOk P w K mg base CX0 9 f fd ["_law_log"] (sp_law_seen K C_Log C_Walk C_Rounds) := by
  obtain ⟨f_Log_row, fd_Log_row, ds_Log_row, i_Log_row, t_Log_row, fn_Log_row, k_Log_row, v_Log_row, b_Log_row, G_Log_row⟩ := kn_Log_row
  obtain ⟨f_Log_standing, fd_Log_standing, ds_Log_standing, i_Log_standing, t_Log_standing, fn_Log_standing, k_Log_standing, v_Log_standing, b_Log_standing, G_Log_standing⟩ := kn_Log_standing
  obtain ⟨f_Log_marks, fd_Log_marks, ds_Log_marks, i_Log_marks, t_Log_marks, fn_Log_marks, k_Log_marks, v_Log_marks, b_Log_marks, G_Log_marks⟩ := kn_Log_marks
  obtain ⟨f_Log___len__, fd_Log___len__, ds_Log___len__, i_Log___len__, t_Log___len__, fn_Log___len__, k_Log___len__, v_Log___len__, b_Log___len__, G_Log___len__⟩ := kn_Log___len__
  obtain ⟨f_Log_walk, fd_Log_walk, ds_Log_walk, i_Log_walk, t_Log_walk, fn_Log_walk, k_Log_walk, v_Log_walk, b_Log_walk, G_Log_walk⟩ := kn_Log_walk
  obtain ⟨f_Walk___str__, fd_Walk___str__, ds_Walk___str__, i_Walk___str__, t_Walk___str__, fn_Walk___str__, k_Walk___str__, v_Walk___str__, b_Walk___str__, G_Walk___str__⟩ := kn_Walk___str__
  obtain ⟨f_Log_short, fd_Log_short, ds_Log_short, i_Log_short, t_Log_short, fn_Log_short, k_Log_short, v_Log_short, b_Log_short, G_Log_short⟩ := kn_Log_short
  refine F.ok sc_law_seen (fun vs H Q E h => ?_) (fun cdv A outer s H vs Q E hr h => ?_)
  · obtain ⟨a, kd, md, s, k0, rfl, _⟩ := h
    all_goals rfl
  · obtain ⟨a, kd, md, s, k0, rfl, hg, hi, hk, hm, k⟩ := h
    refine ⟨_, (pss_one (ps_ret (pe_lst (pa_cons (pe_meth0 (pv 0) T.o_Log.cls ⟨i_Log_row, fn_Log_row, k_Log_row⟩ G_Log_row (hr.mono (by decide)) b_Log_row v_Log_row pass0) (pa_cons (pe_meth0 (pv 0) T.o_Log.cls ⟨i_Log_standing, fn_Log_standing, k_Log_standing⟩ G_Log_standing (hr.mono (by decide)) b_Log_standing v_Log_standing pass0) (pa_cons (pe_meth0 (pv 0) T.o_Log.cls ⟨i_Log_marks, fn_Log_marks, k_Log_marks⟩ G_Log_marks (hr.mono (by decide)) b_Log_marks v_Log_marks pass0) (pa_cons (pe_callB (call_lenO i_Log___len__ fn_Log___len__ G_Log___len__ (hr.mono (by decide)) b_Log___len__ v_Log___len__ pass0) (by rfl) T.b_len (by decide +kernel) (pa_cons (pv 0) pa_nil)) (pa_cons (pe_callTy (call_strO i_Walk___str__ fn_Walk___str__ G_Walk___str__ (hr.mono (by decide)) b_Walk___str__ v_Walk___str__ pass0) (by rfl) T.b_str (by decide +kernel) (pa_cons (pe_meth0 (pv 0) T.o_Log.cls ⟨i_Log_walk, fn_Log_walk, k_Log_walk⟩ G_Log_walk (hr.mono (by decide)) b_Log_walk v_Log_walk pass0) pa_nil)) (pa_cons (pe_meth0 (pv 0) T.o_Log.cls ⟨i_Log_short, fn_Log_short, k_Log_short⟩ G_Log_short (hr.mono (by decide)) b_Log_short v_Log_short pass0) pa_nil))))))))), ?_⟩
    have rt := hi.li.rt
    have zt := hi.zg
    have ga := hg.ob.choose_spec
    have oS := ord_srt (treeS_of rt zt)
    have me : RowM.plain s.t ∈ srt (gone s.t) := WalkM.srt_mem.mpr (WalkM.end_gone _)
    have hz := hi.z
    refine ⟨_, rfl, a, _, _, rfl, ga, rfl, a, kd, md, s.t, s.o, s.ms, rfl, hg, ?_⟩
    refine ⟨_, rfl, a, _, _, rfl, ga, rfl, a, kd, md, s.t, s.o, s.ms, rfl, hg, ?_⟩
    refine ⟨_, rfl, a, _, _, rfl, ga, rfl, a, kd, md, s.t, s.o, s.ms, s.o.length, rfl, hg, hi.mi, by omega, fun p ys pm st hp => ?_⟩
    have s1 := Same.new (o := .lst (ys.map V.str)) hp
    refine ⟨_, rfl, a, _, _, rfl, s1 _ _ ga, a, kd, md, s.t, s.o, s.ms, rfl, hg.same s1, by omega, fun H2 s2 => ⟨s.t.length, rfl, by omega, ?_⟩⟩
    have s12 := Same.trans s1 s2
    refine ⟨_, rfl, a, _, _, rfl, s12 _ _ ga, rfl, a, kd, md, s.t, s.o, s.ms, rfl, hg.same s12, rt, zt, fun b r H3 s3 nb nr w2 => ?_⟩
    have s13 := Same.trans s12 s3
    refine ⟨b, _, _, rfl, w2.1.choose_spec, b, r, _, _, rfl, w2, oS.t.n1, oS.t.z, oS.t.z _ me, fun H4 s4 => ⟨_, rfl, ?_⟩⟩
    have s14 := Same.trans s13 s4
    refine ⟨_, rfl, a, _, _, rfl, s14 _ _ ga, rfl, a, kd, md, s.t, s.o, s.ms, rfl, hg.same s14, rt, zt, fun H5 s5 => ?_⟩
    have s15 := Same.trans s14 s5
    refine ⟨(by show 6 ≤ sizeLine; decide), fun L hL => ?_⟩
    have s25 := Same.trans s2 (Same.trans s3 (Same.trans s4 s5))
    exact k L p ys _ (Same.trans s15 (Same.new hL)) (Same.free s15 hL) hp pm st upd_same (Same.new hL _ _ (s25 _ _ upd_same))
theorem sc_NoBack___init__ : FnScope ["self", "many"] ["self", "many"] (defScope s_NoBack___init__) := ⟨rfl, rfl, rfl, by decide +kernel, rfl, by decide +kernel, by decide +kernel⟩
theorem ok_NoBack___init__ {f : Addr} {fd : FuncData} (F : Fun K "__init__" "NoBack.__init__" s_NoBack___init__ f fd) (T : Txt K mg C_Full C_Log C_NoBack C_NoMark C_NoRow C_Rounds C_Walk) : FnOk P w K mg base CX0 1 f fd ["self", "many"] (sp_NoBack___init__ C_NoBack) := by
  refine F.ok sc_NoBack___init__ (fun vs H Q E h => ?_) (fun cdv A outer s H vs Q E hr h => ?_)
  · obtain ⟨a, v, rfl, _⟩ := h
    all_goals rfl
  · obtain ⟨a, v, rfl, ha, k⟩ := h
    refine ⟨_, (pss_cons (ps_expr (pe_xi (B := "ArithmeticError") (ni := "ArithmeticError.__new__") (ii := "ArithmeticError.__init__") (bm := [.type "ArithmeticError", .type "Exception", .type "BaseException", .type "object"]) rfl T.b_ArithmeticError (by rfl) (by decide) (by decide) (by kernel_rfl) T.v_ArithmeticError (pa_cons (pv 0) (pa_cons pe_str pa_nil))))
    (pss_one (ps_xs (B := "ArithmeticError") (ni := "ArithmeticError.__new__") (ii := "ArithmeticError.__init__") (bm := [.type "ArithmeticError", .type "Exception", .type "BaseException", .type "object"]) (pv 0) (pv 1)))), ?_⟩
    refine ⟨_, rfl, a, C_NoBack, [_], rfl, (by show 1 ≤ 1000; decide), T.x_NoBack.xi, ha, ?_⟩
    exact ⟨_, rfl, _, rfl, a, C_NoBack, rfl, T.x_NoBack.xi, taker_none T.y_NoBack_many, .inl ⟨ha, fun d hd ne => k d hd ne⟩⟩
theorem sc_turned : FnScope ["text", "sign"] ["text"] (defScope s_turned) := ⟨rfl, rfl, rfl, by decide +kernel, rfl, by decide +kernel, by decide +kernel⟩
theorem ok_turned {f : Addr} {fd : FuncData} (F : Fun K "turned" "turned" s_turned f fd) (T : Txt K mg C_Full C_Log C_NoBack C_NoMark C_NoRow C_Rounds C_Walk) (kn_contrary_sign : KN P w K mg base CX0 1 ["sign"] (sp_contrary_sign) "contrary_sign" []) : FnOk P w K mg base CX0 2 f fd ["text"] (sp_turned) := by
  obtain ⟨f_contrary_sign, fd_contrary_sign, ds_contrary_sign, m_contrary_sign, k_contrary_sign, v_contrary_sign, b_contrary_sign, G_contrary_sign⟩ := kn_contrary_sign
  refine F.ok sc_turned (fun vs H Q E h => ?_) (fun cdv A outer s H vs Q E hr h => ?_)
  · obtain ⟨l, rfl, _⟩ := h
    all_goals rfl
  · obtain ⟨l, rfl, hl, hz, k⟩ := h
    refine ⟨_, (pss_one (ps_ret (pe_m1 PySem.F.slot_str_join PySem.F.type_str_join (mt_joinK (K := K)) pe_str (pe_lc (own := [("sign", 1)]) (g := gName 1) (tt := tYes) rfl sc_turned.nd (pi_str (pe_revS (pv 0))) (blkOk_by (own := [("sign", 1)]) (N := ["text", "sign"]) (sc := defScope s_turned) (by decide +kernel)) (fun _ _ _ _ _ => (pg_name (i := 1) sc_turned.nd rfl (Or.inl rfl))) (fun _ _ _ _ _ => pts_nil) (fun _ _ _ _ _ => (pe_call G_contrary_sign (hr.mono (by decide)) rfl m_contrary_sign k_contrary_sign b_contrary_sign v_contrary_sign pass0 (pa_cons (pv 1) pa_nil))))))), ?_⟩
    refine Evl.s_ret (Evl.ev_is (ev_joinMap con Evl.ev_c (by decide) (Evl.ev_revS (Evl.ev_var rfl) (by rw [len_S]; omega)) (by show (S l.reverse).length ≤ _; rw [len_S, List.length_reverse]; omega) (fun _ => rfl) (fun c H1 e hc => ?_)) rfl) fun H1 e => k H1 e
    have hc : c ∈ sgns := hl c (List.mem_reverse.mp hc)
    exact Evl.ev_call (Evl.ea_cons (Evl.ev_var rfl) Evl.ea_nil) fun H1 e Q q E => ⟨c, rfl, hc, q⟩
theorem sc_Log_back : FnScope ["self", "many", "left", "name"] ["self", "many"] (defScope s_Log_back) := ⟨rfl, rfl, rfl, by decide +kernel, rfl, by decide +kernel, by decide +kernel⟩
theorem ok_Log_back {f : Addr} {fd : FuncData} (F : FunD K "back" "Log.back" (defArgs s_Log_back) (defBody s_Log_back) (defScope s_Log_back) [.int 1] [] f fd) (T : Txt K mg C_Full C_Log C_NoBack C_NoMark C_NoRow C_Rounds C_Walk) (kn_is_whole : KN P w K mg base CX0 1 ["thing"] (sp_is_whole) "is_whole" []) (kn_NoBack___init__ : KM P w K mg base CX0 1 ["self", "many"] (sp_NoBack___init__ C_NoBack) C_NoBack "__init__" []) (kn_Log_put : KM P w K mg base (L2.CX P w) 4 ["self", "text"] (sp_Log_put C_Log C_Full) C_Log "put" []) (kn_turned : KN P w K mg base CX0 2 ["text"] (sp_turned) "turned" []) : FnOk P w K mg base (L2.CX P w) 5 f fd ["self", "many"] (sp_Log_back C_Log C_Full C_NoBack) := by
  obtain ⟨f_is_whole, fd_is_whole, ds_is_whole, m_is_whole, k_is_whole, v_is_whole, b_is_whole, G_is_whole⟩ := kn_is_whole
  obtain ⟨f_NoBack___init__, fd_NoBack___init__, ds_NoBack___init__, i_NoBack___init__, t_NoBack___init__, fn_NoBack___init__, k_NoBack___init__, v_NoBack___init__, b_NoBack___init__, G_NoBack___init__⟩ := kn_NoBack___init__
  obtain ⟨f_Log_put, fd_Log_put, ds_Log_put, i_Log_put, t_Log_put, fn_Log_put, k_Log_put, v_Log_put, b_Log_put, G_Log_put⟩ := kn_Log_put
  obtain ⟨f_turned, fd_turned, ds_turned, m_turned, k_turned, v_turned, b_turned, G_turned⟩ := kn_turned
  refine F.ok sc_Log_back (fun vs H Q E h => ?_) (fun cdv A outer s H vs Q E hr h => ?_)
  · obtain ⟨a, kd, md, s, k0, x, rx, rfl, _⟩ := h
    all_goals rfl
  · obtain ⟨a, kd, md, s, k0, x, rx, rfl, hg, hi, hk, h4, hx, k⟩ := h
    refine ⟨_, (pss_cons (ps_if (PW.pt (pw_or (pt_not (pt_val (pe_call G_is_whole (hr.mono (by decide)) rfl m_is_whole k_is_whole b_is_whole v_is_whole pass0 (pa_cons (pv 1) pa_nil)))) (pw_or1 (pt_not (pt_chain op_le op_le pe_int (pv 1) (pe_callB call_len_str (by rfl) T.b_len (by decide +kernel) (pa_cons (pe_fld (pv 0) rfl) pa_nil))))))) (pss_one (ps_raise rfl (takes_of rfl rfl rfl rfl) (pmk_xi T.x_NoBack.xi i_NoBack___init__ t_NoBack___init__ G_NoBack___init__ (hr.mono (by decide)) b_NoBack___init__ v_NoBack___init__ pass0 rfl T.x_NoBack.gC (pa_cons (pv 1) pa_nil)))) pss_nil)
    (pss_cons (ps_set (i := 2) sc_Log_back.nd rfl (Or.inl rfl) (pe_op op_sub (pe_callB call_len_str (by rfl) T.b_len (by decide +kernel) (pa_cons (pe_fld (pv 0) rfl) pa_nil)) (pv 1)))
    (pss_cons (ps_expr (pe_meth (pv 0) T.o_Log.cls ⟨i_Log_put, fn_Log_put, k_Log_put⟩ G_Log_put (hr.mono (by decide)) b_Log_put v_Log_put (passes_call (E := E) (takes_of rfl rfl rfl rfl) (fun _ _ _ _ h => h)) (pa_cons (pe_call G_turned (hr.mono (by decide)) rfl m_turned k_turned b_turned v_turned pass0 (pa_cons (pe_slice sl_str (pe_fld (pv 0) rfl) (po_some (pv 2)) po_none) pa_nil)) pa_nil)))
    (pss_cons (ps_fld (pv 0) (pe_slice sl_str (pe_fld (pv 0) rfl) po_none (po_some (pv 2))) rfl)
    (pss_cons (ps_for (passes_of rfl) rfl (pi_list (pe_callTy (call_listD rfl) (by rfl) T.b_list (by decide +kernel) (pa_cons (pe_fld (pv 0) rfl) pa_nil))) (pg_name (i := 3) sc_Log_back.nd rfl (Or.inl rfl)) (pss_one (ps_if (pt_cmpR op_gt (pe_dget (hu_of hr) (pe_fld (pv 0) rfl) (pv 3) (fun _ _ => rfl)) (pv 2) (nomark _)) (pss_one (ps_expr (pe_dpop1 (pe_fld (pv 0) rfl) (pv 3) ⟨rfl, by rfl, by rfl, by rfl⟩))) pss_nil)))
    (pss_one (ps_ret (pe_callB call_len_str (by rfl) T.b_len (by decide +kernel) (pa_cons (pe_fld (pv 0) rfl) pa_nil))))))))), ?_⟩
    obtain ⟨k1, k2⟩ := k
    have no : ∀ H1, Same H H1 → rx = false → (tMkO C_NoBack (sp_NoBack___init__ C_NoBack) [] (tCons (tVar 1) tNil)) [some (.ref a), some x, none, none] H1 E := fun H1 s1 hr => by
      refine ⟨_, rfl, (by show 1 ≤ 1000; decide), fun e he => ⟨e, x, rfl, upd_same, fun d hd ne => madeF he (fun d' H' s' h' => k1 hr d' H' (Same.trans s1 s') h') d hd ne⟩⟩
    obtain ⟨h41, h42, h43⟩ := h4
    rcases hx with ⟨i, rfl, rfl⟩ | ⟨hx, rfl⟩
    rotate_left
    · exact ⟨_, rfl, _, false, rfl, .inr ⟨hx, rfl⟩, fun H1 s1 => ⟨false, rfl, iteT (no H1 s1 rfl)⟩⟩
    refine ⟨_, rfl, _, true, rfl, .inl ⟨i, rfl, rfl⟩, fun H1 s1 => ⟨true, rfl, iteF ?_⟩⟩
    have hg1 := hg.same s1
    obtain ⟨dx, ga⟩ := hg1.ob
    refine ⟨_, rfl, _, _, rfl, rfl, _, rfl, ?_⟩
    by_cases q : 1 ≤ i
    rotate_left
    · rw [decide_eq_false q]
      exact iteF ⟨false, rfl, iteT (no H1 s1 (decide_eq_false fun z => q z.1))⟩
    rw [decide_eq_true q]
    refine iteT ⟨_, rfl, a, C_Log, dx, _, _, rfl, ga, T.o_Log.cls, T.y_Log_own_open, rfl, _, rfl, (by rw [len_S]; exact sz_of' (by omega)), _, _, rfl, rfl, _, rfl, ?_⟩
    rw [len_S]
    by_cases q2 : i ≤ (s.o.length : Int)
    rotate_left
    · rw [decide_eq_false q2]
      exact iteT (no H1 s1 (decide_eq_false fun z => q2 z.2))
    rw [decide_eq_true q2]
    obtain ⟨m, rfl⟩ : ∃ m : Nat, i = (m : Int) := ⟨i.toNat, by omega⟩
    obtain ⟨k2, k3⟩ := k2 (decide_eq_true ⟨q, q2⟩) m rfl
    refine iteF ⟨_, rfl, a, C_Log, dx, _, _, rfl, ga, T.o_Log.cls, T.y_Log_own_open, rfl, _, rfl, (by rw [len_S]; exact sz_of' (by omega)), _, rfl, _, _, rfl, rfl, ?_⟩
    rw [len_S]
    have el : ((s.o.length : Int) - (m : Int)) = ((s.o.length - m : Nat) : Int) := by omega
    have ez : (s.o.drop (s.o.length - m)).length = m := by rw [List.length_drop]; omega
    have eg := (hi.li.bak m).2
    refine ⟨_, rfl, a, _, _, rfl, ga, rfl, _, rfl, a, C_Log, dx, _, _, rfl, ga, T.o_Log.cls, T.y_Log_own_open, rfl, _, rfl, ((s.o.length - m : Nat) : Int), congrArg V.int el, S s.o, rfl, (by rw [len_S]; exact sz_of' (by omega)), ?_⟩
    have rd : Row (s.o.drop (s.o.length - m)) := fun c hc => hi.li.ro c (List.mem_of_mem_drop hc)
    refine ⟨s.o.drop (s.o.length - m), (by rw [cut_from]; rfl), rd, by omega, fun H2 s2 => ?_⟩
    have hg2 := hg1.same s2
    have hzg := hi.zg
    refine ⟨a, kd, md, s.t, s.o, s.ms, RowM.turn (s.o.drop (s.o.length - m)), rfl, hg2, hi.li.rt, RowM.turn_row rd, h41, (by rw [RowM.turn_length, ez]; omega), ⟨fun q3 H3 s3 g3 => ?_, fun q3 d H3 s3 hd => ?_⟩⟩
    rotate_left
    · have zt : 4000 < s.t.length + (RowM.turn (s.o.drop (s.o.length - m))).length := by
        rcases Nat.lt_or_ge 4000 (s.t.length + (RowM.turn (s.o.drop (s.o.length - m))).length) with h | h
        · exact h
        · exact absurd ⟨h, by show (gone (bakL s m).t).length ≤ 61; rw [eg]; omega⟩ q3
      have et := fszL_long zt
      rw [RowM.turn_length, ez] at zt et
      exact k3 zt d H3 (Same.trans s1 (Same.trans s2 s3)) (by rw [hd, et])
    have k2 := k2 (by have := q3.1; rw [RowM.turn_length, ez] at this; exact this)
    obtain ⟨dx, ga⟩ := g3.ob
    refine ⟨_, rfl, a, C_Log, dx, _, _, rfl, ga, T.o_Log.cls, T.y_Log_own_open, rfl, _, rfl, ((s.o.length - m : Nat) : Int), congrArg V.int el, S s.o, rfl, (by rw [len_S]; exact sz_of' (by omega)), _, rfl, a, C_Log, dx, _, rfl, ga, T.o_Log.cls, T.y_Log_own_open, (by show 5 < 1000; decide), ?_⟩
    rw [show cutS (S s.o) none (some ((s.o.length - m : Nat) : Int)) = S (s.o.take (s.o.length - m)) from cut_to (by omega)]
    have g4 : LgF C_Log (upd H3 a (.ins C_Log dx (lgF (bakL s m).t (bakL s m).o (RowM.plain (bakL s m).t) kd md))) a kd md (bakL s m).t (bakL s m).o (RowM.plain (bakL s m).t) (gone (bakL s m).t) s.ms := g3.putO
    have o4 : OffS [a, kd, md] H (upd H3 a (.ins C_Log dx (lgF (bakL s m).t (bakL s m).o (RowM.plain (bakL s m).t) kd md))) := (((OffS.of s1).trans (OffS.of s2)).trans (s3.mono (by simp))).upd (by simp)
    refine ⟨_, rfl, a, C_Log, dx, _, _, rfl, upd_same, T.o_Log.cls, T.y_Log_own_marks, rfl, md, _, rfl, Rd.of g4.mr, fun p hp => ?_⟩
    have g5 := g4.same (Same.new (o := .lst (s.ms.map fun kv => kV kv.1)) hp)
    have o5 := o4.trans (OffS.of (Same.new (o := .lst (s.ms.map fun kv => kV kv.1)) hp))
    have hml := h43
    refine ⟨p, rfl, ⟨_, SqL.of upd_same⟩, for_list (K := K) (a := p) (xs := s.ms.map fun kv => kV kv.1) (fun i σ H' => ∃ x, σ = [some (.ref a), some (.int (m : Int)), some (.int ((s.o.length : Int) - (m : Int))), x] ∧ OffS [a, kd, md] H H' ∧ H' p = some (.lst (s.ms.map fun kv => kV kv.1)) ∧ LgF C_Log H' a kd md (bakL s m).t (bakL s m).o (RowM.plain (bakL s m).t) (gone (bakL s m).t) (cutI (s.o.length - m) i s.ms)) ⟨_, rfl, o5, upd_same, by rw [cutI_zero]; exact g5⟩ (fun _ _ _ _ ⟨_, _, _, g, _⟩ => SqL.of g) ?_ ?_⟩
    · rintro i y σ H6 hy ⟨x, rfl, o6, gp, g6⟩
      rw [List.getElem?_map] at hy
      obtain ⟨kv, hkv, rfl⟩ := Option.map_eq_some_iff.mp hy
      obtain ⟨nm, j, rfl, hj⟩ := hi.mi.tx kv (List.mem_of_getElem? hkv)
      obtain ⟨c1, c2, c3⟩ := cutI_next (n := s.o.length - m) hi.mi.nd hkv
      obtain ⟨dx, ga⟩ := g6.ob
      have npm : p ≠ md := fun e => by rw [e, g6.mr] at gp; cases gp
      refine ⟨_, rfl, a, C_Log, dx, _, _, rfl, ga, T.o_Log.cls, T.y_Log_own_marks, rfl, _, rfl, md, .int (j : Int), rfl, (by rw [← c1]; exact DGet.k (k := Sum.inr nm) g6.mr), _, rfl, _, _, rfl, rfl, _, rfl, ?_⟩
      by_cases q3 : s.o.length - m < j
      · rw [show decide ((s.o.length : Int) - (m : Int) < (j : Int)) = true from decide_eq_true (by omega)]
        refine iteT ⟨_, rfl, a, C_Log, dx, _, _, rfl, ga, T.o_Log.cls, T.y_Log_own_marks, rfl, md, rfl, .inl ⟨_, .inl g6.mr⟩, _, rfl, _, Sum.inr nm, _, g6.mr, rfl, c1, ?_⟩
        refine ⟨_, rfl, o6.upd (by simp), (by rw [upd_ne npm]; exact gp), ?_⟩
        rw [c3 q3]
        exact g6.putM
      · rw [show decide ((s.o.length : Int) - (m : Int) < (j : Int)) = false from decide_eq_false (by omega)]
        refine iteF ⟨_, rfl, o6, gp, ?_⟩
        rw [c2 (by omega)]
        exact g6
    rintro σ H6 ⟨x, rfl, o6, gp, g6⟩
    rw [List.length_map, cutI_all] at g6
    obtain ⟨dx, ga⟩ := g6.ob
    have zt : (bakL s m).t.length = s.t.length + m := by show (s.t ++ _).length = _; rw [List.length_append, RowM.turn_length, ez]
    refine ⟨_, rfl, a, C_Log, dx, _, _, rfl, ga, T.o_Log.cls, T.y_Log_own_text, rfl, _, rfl, (by rw [len_S]; exact sz_of' (by omega)), ?_⟩
    rw [len_S]
    exact k2 H6 o6 g6
theorem sc_Log_back_to : FnScope ["self", "name", "many"] ["self", "name"] (defScope s_Log_back_to) := ⟨rfl, rfl, rfl, by decide +kernel, rfl, by decide +kernel, by decide +kernel⟩
theorem ok_Log_back_to {f : Addr} {fd : FuncData} (F : Fun K "back_to" "Log.back_to" s_Log_back_to f fd) (T : Txt K mg C_Full C_Log C_NoBack C_NoMark C_NoRow C_Rounds C_Walk) (kn_is_name : KN P w K mg base CX0 1 ["thing"] (sp_is_name) "is_name" []) (kn_NoMark___init__ : KM P w K mg base CX0 1 ["self", "name"] (sp_NoMark___init__ C_NoMark) C_NoMark "__init__" []) (kn_Log_back : KM P w K mg base (L2.CX P w) 5 ["self", "many"] (sp_Log_back C_Log C_Full C_NoBack) C_Log "back" []) : FnOk P w K mg base (L2.CX P w) 6 f fd ["self", "name"] (sp_Log_back_to C_Log C_Full C_NoBack C_NoMark) := by
  obtain ⟨f_is_name, fd_is_name, ds_is_name, m_is_name, k_is_name, v_is_name, b_is_name, G_is_name⟩ := kn_is_name
  obtain ⟨f_NoMark___init__, fd_NoMark___init__, ds_NoMark___init__, i_NoMark___init__, t_NoMark___init__, fn_NoMark___init__, k_NoMark___init__, v_NoMark___init__, b_NoMark___init__, G_NoMark___init__⟩ := kn_NoMark___init__
  obtain ⟨f_Log_back, fd_Log_back, ds_Log_back, i_Log_back, t_Log_back, fn_Log_back, k_Log_back, v_Log_back, b_Log_back, G_Log_back⟩ := kn_Log_back
  refine F.okX sc_Log_back_to (fun vs H Q E h => ?_) (fun cdv A outer s H vs Q E hr h => ?_)
  · obtain ⟨a, kd, md, s, k0, x, rx, rfl, _⟩ := h
    all_goals rfl
  · obtain ⟨a, kd, md, s, k0, x, rx, rfl, hg, hi, hk, h4, hx, k⟩ := h
    refine ⟨_, (pss_cons (ps_if (PW.pt (pw_or (pt_not (pt_val (pe_call G_is_name (hr.mono (by decide)) rfl m_is_name k_is_name b_is_name v_is_name pass0 (pa_cons (pv 1) pa_nil)))) (pw_or1 (pt_cmp (pc_dnotin (hu_of hr) (pv 1) (pe_fld (pv 0) rfl)))))) (pss_one (ps_raise rfl (takes_of rfl rfl rfl rfl) (pmk_xi T.x_NoMark.xi i_NoMark___init__ t_NoMark___init__ G_NoMark___init__ (hr.mono (by decide)) b_NoMark___init__ v_NoMark___init__ pass0 rfl T.x_NoMark.gC (pa_cons (pv 1) pa_nil)))) pss_nil)
    (pss_cons (ps_set (i := 2) sc_Log_back_to.nd rfl (Or.inl rfl) (pe_op op_sub (pe_callB call_len_str (by rfl) T.b_len (by decide +kernel) (pa_cons (pe_fld (pv 0) rfl) pa_nil)) (pe_dget (hu_of hr) (pe_fld (pv 0) rfl) (pv 1) (fun _ _ => rfl))))
    (pss_cons (ps_if (pt_cmpR op_gt (pv 2) pe_int (nomark _)) (pss_one (ps_expr (pe_meth (pv 0) T.o_Log.cls ⟨i_Log_back, fn_Log_back, k_Log_back⟩ G_Log_back (hr.mono (by decide)) b_Log_back v_Log_back (passes_call (E := E) (takes_of rfl rfl rfl rfl) (fun _ _ _ _ h => h)) (pa_cons (pv 2) pa_nil)))) pss_nil)
    (pss_one (ps_ret (pv 2)))))), ?_⟩
    obtain ⟨k1, k2⟩ := k
    have no : ∀ H1, Same H H1 → (∀ (d : Addr) (H' : Hp), Same H H' → H' d = some (.xd [(Str.ofString "name", x)]) → E (.ref C_NoMark) (some d) H') → (tMkO C_NoMark (sp_NoMark___init__ C_NoMark) [] (tCons (tVar 1) tNil)) [some (.ref a), some x, none] H1 E := fun H1 s1 k1 => by
      refine ⟨_, rfl, (by show 1 ≤ 1000; decide), fun e he => ⟨e, x, rfl, upd_same, fun d hd ne => madeF he (fun d' H' s' h' => k1 d' H' (Same.trans s1 s') h') d hd ne⟩⟩
    cases rx with
    | false => exact ⟨_, rfl, x, false, rfl, hx, fun H1 s1 => ⟨false, rfl, iteT (no H1 s1 (k1 rfl))⟩⟩
    | true =>
      refine ⟨_, rfl, x, true, rfl, hx, fun H1 s1 => ⟨true, rfl, iteF ?_⟩⟩
      obtain ⟨l, rfl, zl⟩ : ∃ l, x = sT l ∧ l.length ≤ 1000 := by
        rcases hx with ⟨l, e, h, _⟩ | ⟨_, h⟩
        · exact ⟨l, e, h⟩
        · cases h
      have hg1 := hg.same s1
      obtain ⟨dx, ga⟩ := hg1.ob
      obtain ⟨h41, h42, h43⟩ := id h4
      obtain ⟨k2, k3⟩ := k2 rfl l rfl
      refine ⟨_, rfl, _, rfl, a, C_Log, dx, _, _, rfl, ga, T.o_Log.cls, T.y_Log_own_marks, rfl, md, _, rfl, DGet.k (k := kT l) hg1.mr, _, rfl, ?_⟩
      cases e : valV s.ms (kT l) with
      | none => exact iteT (no H1 s1 (k2 e))
      | some v =>
        obtain ⟨j, rfl, hj⟩ := hi.mi.val e
        refine iteF ⟨_, rfl, a, C_Log, dx, _, _, rfl, ga, T.o_Log.cls, T.y_Log_own_open, rfl, _, rfl, (by rw [len_S]; exact sz_of' (by omega)), _, rfl, a, C_Log, dx, _, _, rfl, ga, T.o_Log.cls, T.y_Log_own_marks, rfl, _, rfl, md, .int (j : Int), rfl, (by rw [← e]; exact DGet.k (k := kT l) hg1.mr), _, _, rfl, rfl, ?_⟩
        rw [len_S]
        refine ⟨_, rfl, _, _, rfl, rfl, _, rfl, ?_⟩
        obtain ⟨k3, k4⟩ := k3 j e
        by_cases q : j < s.o.length
        rotate_left
        · have ej : s.o.length - j = 0 := by omega
          rw [show decide ((0 : Int) < (s.o.length : Int) - (j : Int)) = false from decide_eq_false (by omega)]
          rw [ej, backL_zero hi.mi] at k3
          exact iteF ⟨_, rfl, k3 (by omega) H1 (OffS.of s1) hg1⟩
        · rw [show decide ((0 : Int) < (s.o.length : Int) - (j : Int)) = true from decide_eq_true (by omega)]
          have ei : (s.o.length : Int) - (j : Int) = ((s.o.length - j : Nat) : Int) := by omega
          refine iteT ⟨_, rfl, a, _, _, rfl, ga, rfl, _, rfl, a, kd, md, s, k0, .int ((s.o.length : Int) - j), true, rfl, hg1, hi, hk, h4, .inl ⟨_, rfl, (decide_eq_true ⟨by omega, by omega⟩).symm⟩, ⟨(fun h => nomatch h), fun _ m em => ?_⟩⟩
          injection em with em
          have : m = s.o.length - j := by omega
          subst this
          exact ⟨fun z H2 s2 g2 => ⟨_, rfl, k3 z H2 ((OffS.of s1).trans s2) g2⟩, fun z d H2 s2 hd => k4 z d H2 (Same.trans s1 s2) hd⟩
theorem sc_law_told : FnScope ["_law_log", "_law_door", "_law_thing", "_law_found", "e"] ["_law_log", "_law_door", "_law_thing"] (defScope s_law_told) := ⟨rfl, rfl, rfl, by decide +kernel, rfl, by decide +kernel, by decide +kernel⟩
theorem ok_law_told {f : Addr} {fd : FuncData} (F : Fun K "_law_told" "_law_told" s_law_told f fd) (T : Txt K mg C_Full C_Log C_NoBack C_NoMark C_NoRow C_Rounds C_Walk) (kn_Log_do : KM P w K mg base (L2.CX P w) 5 ["self", "row"] (sp_Log_do C_Log C_Full C_NoRow) C_Log "do" []) (kn_Log_back : KM P w K mg base (L2.CX P w) 5 ["self", "many"] (sp_Log_back C_Log C_Full C_NoBack) C_Log "back" []) (kn_Log_back_to : KM P w K mg base (L2.CX P w) 6 ["self", "name"] (sp_Log_back_to C_Log C_Full C_NoBack C_NoMark) C_Log "back_to" []) : FnOk P w K mg base CX0 7 f fd ["_law_log", "_law_door", "_law_thing"] (sp_law_told K C_Log C_NoRow C_Full C_NoBack C_NoMark) := by
  obtain ⟨f_Log_do, fd_Log_do, ds_Log_do, i_Log_do, t_Log_do, fn_Log_do, k_Log_do, v_Log_do, b_Log_do, G_Log_do⟩ := kn_Log_do
  obtain ⟨f_Log_back, fd_Log_back, ds_Log_back, i_Log_back, t_Log_back, fn_Log_back, k_Log_back, v_Log_back, b_Log_back, G_Log_back⟩ := kn_Log_back
  obtain ⟨f_Log_back_to, fd_Log_back_to, ds_Log_back_to, i_Log_back_to, t_Log_back_to, fn_Log_back_to, k_Log_back_to, v_Log_back_to, b_Log_back_to, G_Log_back_to⟩ := kn_Log_back_to
  refine F.ok sc_law_told (fun vs H Q E h => ?_) (fun cdv A outer s H vs Q E hr h => ?_)
  · obtain ⟨a, kd, md, s, s', k0, d, x, ls, rfl, _⟩ := h
    all_goals rfl
  · obtain ⟨a, kd, md, s, s', k0, d, x, ls, rfl, hg, hi, hk, h4, ha, k⟩ := h
    refine ⟨_, (pss_cons (ps_try_as (i := 4) rfl rfl sc_law_told.nd rfl rfl ⟨rfl, by decide, Or.inl T.x_Full.gC⟩ takes0
    (fun W pn xe tk po => (pss_one (ps_if (pt_cmpR op_eq (pv 1) pe_int (nomark _)) (pss_one (ps_set (i := 3) sc_law_told.nd rfl (Or.inl rfl) (pe_lst (pa_cons pe_str (pa_cons (pe_methSD (pv 0) T.o_Log.cls ⟨i_Log_do, fn_Log_do, k_Log_do⟩ G_Log_do (hr.mono (by decide)) b_Log_do v_Log_do (fun σ => passAt tk σ) (pa_cons (pv 2) pa_nil)) pa_nil))))) (pss_one (ps_if (pt_cmpR op_eq (pv 1) pe_int (nomark _)) (pss_one (ps_set (i := 3) sc_law_told.nd rfl (Or.inl rfl) (pe_lst (pa_cons pe_str (pa_cons (pe_methSD (pv 0) T.o_Log.cls ⟨i_Log_back, fn_Log_back, k_Log_back⟩ G_Log_back (hr.mono (by decide)) b_Log_back v_Log_back (fun σ => passAt tk σ) (pa_cons (pv 2) pa_nil)) pa_nil))))) (pss_one (ps_set (i := 3) sc_law_told.nd rfl (Or.inl rfl) (pe_lst (pa_cons pe_str (pa_cons (pe_methSD (pv 0) T.o_Log.cls ⟨i_Log_back_to, fn_Log_back_to, k_Log_back_to⟩ G_Log_back_to (hr.mono (by decide)) b_Log_back_to v_Log_back_to (fun σ => passAt tk σ) (pa_cons (pv 2) pa_nil)) pa_nil))))))))))
    (fun a oe cls d pn hz hf => (pss_one (ps_set (i := 3) sc_law_told.nd rfl (Or.inl rfl) (pe_lst (pa_cons pe_str (pa_cons (pe_xf T.x_Full.xf T.y_Full_size hz hf (pv 4)) (pa_cons (pe_callB (call_isX (K := K) hz hf) (by rfl) T.b_isinstance (by decide +kernel) (pa_cons (pv 4) (pa_cons (pe_bltn (v := .ty "OverflowError") (by rfl) T.b_OverflowError (by decide +kernel) rfl) pa_nil))) pa_nil))))))))
    (pss_one (ps_ret (pv 3)))), ?_⟩
    obtain ⟨h41, h42, h43⟩ := id h4
    have z12 := hi.z
    cases ha with
    | row l rl zl h =>
      refine ⟨_, rfl, rfl, _, rfl, iteT ?_⟩
      refine ⟨_, rfl, a, _, _, rfl, hg.ob.choose_spec, rfl, _, rfl, a, kd, md, s.t, s.o, s.ms, sT l, true, rfl, hg, hi.li.rt, .inl ⟨l, rfl, by omega, (isRow_of rl zl).symm⟩, h41, h42, ⟨(fun h => nomatch h), fun _ r er => ?_⟩⟩
      obtain rfl : l = r := sT_inj er
      exact ⟨fun _ H1 o1 g1 => ⟨by show 2 ≤ sizeLine; decide, fun L hL => ⟨_, rfl, k L _ ((o1.mono (by simp)).trans (OffS.of (Same.new hL))) (g1.same (Same.new hL)) (g1.freeL (o1.mono (by simp)) hL) upd_same⟩⟩, fun n => absurd h n⟩
    | rowF l rl zl h =>
      refine ⟨_, rfl, rfl, _, rfl, iteT ?_⟩
      refine ⟨_, rfl, a, _, _, rfl, hg.ob.choose_spec, rfl, _, rfl, a, kd, md, s.t, s.o, s.ms, sT l, true, rfl, hg, hi.li.rt, .inl ⟨l, rfl, by omega, (isRow_of rl zl).symm⟩, h41, h42, ⟨(fun h => nomatch h), fun _ r er => ?_⟩⟩
      obtain rfl : l = r := sT_inj er
      refine ⟨fun y => absurd y h, fun _ d H1 s1 hd => ⟨true, T.x_Full.te, (fun _ e ne => ?_), fun h => nomatch h⟩⟩
      refine ⟨_, rfl, rfl, rfl, d, _, _, rfl, hd, rfl, _, rfl, C_Full, _, _, true, ⟨rfl, .inr ⟨d, _, rfl, hd⟩, T.x_Full.ok⟩, rfl, .ty "OverflowError", kit_exT T.fo, (by show 3 ≤ sizeLine; decide), fun q hq => ⟨_, rfl, k q _ (OffS.of (Same.trans s1 (Same.new hq))) (hg.same (Same.trans s1 (Same.new hq))) (Same.free s1 hq) upd_same⟩⟩
    | back m h1 h2 h =>
      refine ⟨_, rfl, rfl, _, rfl, iteF ⟨_, rfl, rfl, _, rfl, iteT ?_⟩⟩
      refine ⟨_, rfl, a, _, _, rfl, hg.ob.choose_spec, rfl, _, rfl, a, kd, md, s, k0, .int (m : Int), true, rfl, hg, hi, hk, h4, .inl ⟨_, rfl, (decide_eq_true ⟨by omega, by omega⟩).symm⟩, ⟨(fun h => nomatch h), fun _ m' em => ?_⟩⟩
      obtain rfl : m = m' := by injection em with em; omega
      exact ⟨fun _ H1 o1 g1 => ⟨by show 2 ≤ sizeLine; decide, fun L hL => ⟨_, rfl, k L _ (o1.trans (OffS.of (Same.new hL))) (g1.same (Same.new hL)) (g1.freeL o1 hL) upd_same⟩⟩, fun n => absurd n (by omega)⟩
    | backF m h1 h2 h =>
      refine ⟨_, rfl, rfl, _, rfl, iteF ⟨_, rfl, rfl, _, rfl, iteT ?_⟩⟩
      refine ⟨_, rfl, a, _, _, rfl, hg.ob.choose_spec, rfl, _, rfl, a, kd, md, s, k0, .int (m : Int), true, rfl, hg, hi, hk, h4, .inl ⟨_, rfl, (decide_eq_true ⟨by omega, by omega⟩).symm⟩, ⟨(fun h => nomatch h), fun _ m' em => ?_⟩⟩
      obtain rfl : m = m' := by injection em with em; omega
      refine ⟨fun n => absurd n (by omega), fun _ d H1 s1 hd => ⟨true, T.x_Full.te, (fun _ e ne => ?_), fun h => nomatch h⟩⟩
      refine ⟨_, rfl, rfl, rfl, d, _, _, rfl, hd, rfl, _, rfl, C_Full, _, _, true, ⟨rfl, .inr ⟨d, _, rfl, hd⟩, T.x_Full.ok⟩, rfl, .ty "OverflowError", kit_exT T.fo, (by show 3 ≤ sizeLine; decide), fun q hq => ⟨_, rfl, k q _ (OffS.of (Same.trans s1 (Same.new hq))) (hg.same (Same.trans s1 (Same.new hq))) (Same.free s1 hq) upd_same⟩⟩
    | toF l v hl zl hv h =>
      refine ⟨_, rfl, rfl, _, rfl, iteF ⟨_, rfl, rfl, _, rfl, iteF ?_⟩⟩
      refine ⟨_, rfl, a, _, _, rfl, hg.ob.choose_spec, rfl, _, rfl, a, kd, md, s, k0, sT l, true, rfl, hg, hi, hk, h4, .inl ⟨l, rfl, zl, hl.symm⟩, ⟨(fun h => nomatch h), fun _ l' el => ?_⟩⟩
      obtain rfl : l = l' := sT_inj el
      refine ⟨fun n => (by rw [hv] at n; cases n), fun v' hv' => ?_⟩
      obtain rfl : v = v' := by rw [hv] at hv'; injection hv' with e; injection e with e; omega
      refine ⟨fun n => absurd n (by omega), fun _ d H1 s1 hd => ⟨true, T.x_Full.te, (fun _ e ne => ?_), fun h => nomatch h⟩⟩
      refine ⟨_, rfl, rfl, rfl, d, _, _, rfl, hd, rfl, _, rfl, C_Full, _, _, true, ⟨rfl, .inr ⟨d, _, rfl, hd⟩, T.x_Full.ok⟩, rfl, .ty "OverflowError", kit_exT T.fo, (by show 3 ≤ sizeLine; decide), fun q hq => ⟨_, rfl, k q _ (OffS.of (Same.trans s1 (Same.new hq))) (hg.same (Same.trans s1 (Same.new hq))) (Same.free s1 hq) upd_same⟩⟩
theorem sc_law : FnScope ["_law_script", "_law_k", "_law_pool_here", "_law_many", "_law_log", "_law_turn", "_law_more", "_law_kept", "_law_door", "_law_thing", "_law_size", "_law_some", "_law_way", "_law_far", "_law_row", "_law_places", "_law_due"] ["_law_script"] (defScope s_law) := ⟨rfl, rfl, rfl, by decide +kernel, rfl, by decide +kernel, by decide +kernel⟩
theorem ok_law {f : Addr} {fd : FuncData} (F : Fun K "law" "law" s_law f fd) (T : Txt K mg C_Full C_Log C_NoBack C_NoMark C_NoRow C_Rounds C_Walk) (kn_law_pool : KN P w K mg base CX0 1 ["_law_script", "_law_k"] (sp_law_pool K) "_law_pool" []) (kn_law_take : KN P w K mg base CX0 1 ["_law_pool_here", "_law_many"] (sp_law_take) "_law_take" []) (kn_Log___init__ : KM P w K mg base CX0 1 ["self"] (sp_Log___init__ C_Log) C_Log "__init__" []) (kn_Log_mark : KM P w K mg base (L2.CX P w) 3 ["self", "name"] (sp_Log_mark C_Log C_NoMark) C_Log "mark" []) (kn_Log_do : KM P w K mg base (L2.CX P w) 5 ["self", "row"] (sp_Log_do C_Log C_Full C_NoRow) C_Log "do" []) (kn_law_seen : KN P w K mg base CX0 9 ["_law_log"] (sp_law_seen K C_Log C_Walk C_Rounds) "_law_seen" []) (kn_law_told : KN P w K mg base CX0 7 ["_law_log", "_law_door", "_law_thing"] (sp_law_told K C_Log C_NoRow C_Full C_NoBack C_NoMark) "_law_told" []) : FnOk P w K mg base CX0 10 f fd ["_law_script"] (sp_law K) := by
  obtain ⟨f_law_pool, fd_law_pool, ds_law_pool, m_law_pool, k_law_pool, v_law_pool, b_law_pool, G_law_pool⟩ := kn_law_pool
  obtain ⟨f_law_take, fd_law_take, ds_law_take, m_law_take, k_law_take, v_law_take, b_law_take, G_law_take⟩ := kn_law_take
  obtain ⟨f_Log___init__, fd_Log___init__, ds_Log___init__, i_Log___init__, t_Log___init__, fn_Log___init__, k_Log___init__, v_Log___init__, b_Log___init__, G_Log___init__⟩ := kn_Log___init__
  obtain ⟨f_Log_mark, fd_Log_mark, ds_Log_mark, i_Log_mark, t_Log_mark, fn_Log_mark, k_Log_mark, v_Log_mark, b_Log_mark, G_Log_mark⟩ := kn_Log_mark
  obtain ⟨f_Log_do, fd_Log_do, ds_Log_do, i_Log_do, t_Log_do, fn_Log_do, k_Log_do, v_Log_do, b_Log_do, G_Log_do⟩ := kn_Log_do
  obtain ⟨f_law_seen, fd_law_seen, ds_law_seen, m_law_seen, k_law_seen, v_law_seen, b_law_seen, G_law_seen⟩ := kn_law_seen
  obtain ⟨f_law_told, fd_law_told, ds_law_told, m_law_told, k_law_told, v_law_told, b_law_told, G_law_told⟩ := kn_law_told
  refine F.ok sc_law (fun vs H Q E h => ?_) (fun cdv A outer s H vs Q E hr h => ?_)
  · obtain ⟨a, ns, rfl, _⟩ := h
    all_goals rfl
  · obtain ⟨a, ns, rfl, hS, hlen, k⟩ := h
    refine ⟨_, (pss_cons (ps_for PassesOwn.never rfl (pi_range1 (by rfl) T.b_range (pa_cons (pe_callB (call_max2 rfl) (by rfl) T.b_max (by decide +kernel) (pa_cons pe_int (pa_cons (pe_callB (call_min2 rfl) (by rfl) T.b_min (by decide +kernel) (pa_cons (pe_callB (call_lenK (K := K)) (by rfl) T.b_len (by decide +kernel) (pa_cons (pv 0) pa_nil)) (pa_cons pe_int pa_nil))) pa_nil))) pa_nil)) (pg_name (i := 1) sc_law.nd rfl (Or.inl rfl)) (pss_cons (ps_set (i := 2) sc_law.nd rfl (Or.inl rfl) (pe_call G_law_pool (hr.mono (by decide)) rfl m_law_pool k_law_pool b_law_pool v_law_pool pass0 (pa_cons (pv 0) (pa_cons (pv 1) pa_nil))))
    (pss_cons (ps_set (i := 3) sc_law.nd rfl (Or.inl rfl) (pe_op op_add pe_int (pe_call G_law_take (hr.mono (by decide)) rfl m_law_take k_law_take b_law_take v_law_take pass0 (pa_cons (pv 2) (pa_cons pe_int pa_nil)))))
    (pss_cons (ps_set (i := 4) sc_law.nd rfl (Or.inl rfl) (pe_make0 ⟨T.o_Log.made, i_Log___init__, fn_Log___init__, T.o_Log.kC⟩ G_Log___init__ (hr.mono (by decide)) rfl T.o_Log.gC b_Log___init__ v_Log___init__ pass0))
    (pss_cons (ps_expr (pe_meth (pv 4) T.o_Log.cls ⟨i_Log_mark, fn_Log_mark, k_Log_mark⟩ G_Log_mark (hr.mono (by decide)) b_Log_mark v_Log_mark passL (pa_cons pe_str pa_nil)))
    (pss_cons (ps_for PassesOwn.never rfl (pi_range1 (by rfl) T.b_range (pa_cons (pe_op op_fdiv (pv 3) pe_int) pa_nil)) (pg_name (i := 5) sc_law.nd rfl (Or.inl rfl)) (pss_one (ps_expr (pe_meth (pv 4) T.o_Log.cls ⟨i_Log_do, fn_Log_do, k_Log_do⟩ G_Log_do (hr.mono (by decide)) b_Log_do v_Log_do passL (pa_cons (pe_op op_repS pe_str pe_int) pa_nil)))))
    (pss_cons (ps_expr (pe_meth (pv 4) T.o_Log.cls ⟨i_Log_do, fn_Log_do, k_Log_do⟩ G_Log_do (hr.mono (by decide)) b_Log_do v_Log_do passL (pa_cons (pe_slice sl_str (pe_op op_repS pe_str pe_int) po_none (po_some (pe_op op_mod (pv 3) pe_int))) pa_nil)))
    (pss_cons (ps_set (i := 6) sc_law.nd rfl (Or.inl rfl) (pe_op op_add pe_int (pe_call G_law_take (hr.mono (by decide)) rfl m_law_take k_law_take b_law_take v_law_take pass0 (pa_cons (pv 2) (pa_cons pe_int pa_nil)))))
    (pss_cons (ps_set (i := 7) sc_law.nd rfl (Or.inl rfl) (pe_call G_law_seen (hr.mono (by decide)) rfl m_law_seen k_law_seen b_law_seen v_law_seen pass0 (pa_cons (pv 4) pa_nil)))
    (pss_cons (ps_for PassesOwn.never rfl (pi_list (pe_lst (pa_cons (pe_tup (pa_cons pe_int (pa_cons (pe_op op_repS pe_str (pv 6)) (pa_cons (pe_op op_add (pv 3) (pv 6)) pa_nil)))) (pa_cons (pe_tup (pa_cons pe_int (pa_cons (pv 6) (pa_cons (pe_op op_add (pv 3) (pv 6)) pa_nil)))) (pa_cons (pe_tup (pa_cons pe_int (pa_cons pe_str (pa_cons (pe_op op_mul pe_int (pv 3)) pa_nil)))) pa_nil))))) (pg_tup rfl (pgs_cons (pg_name (i := 8) sc_law.nd rfl (Or.inl rfl)) (pgs_cons (pg_name (i := 9) sc_law.nd rfl (Or.inl rfl)) (pgs_cons (pg_name (i := 10) sc_law.nd rfl (Or.inl rfl)) pgs_nil)))) (pss_one (ps_if (pt_cmpR op_gt (pv 10) pe_int (nomark _)) (pss_one (ps_if (PW.pt (pw_or (pt_cmpR (op_neDK (K := K) hr.units) (pe_call G_law_told (hr.mono (by decide)) rfl m_law_told k_law_told b_law_told v_law_told pass0 (pa_cons (pv 4) (pa_cons (pv 8) (pa_cons (pv 9) pa_nil)))) (pe_lst (pa_cons pe_str (pa_cons (pv 10) (pa_cons pe_bl pa_nil)))) (nomark _)) (pw_or1 (pt_cmpR (op_neDK (K := K) hr.units) (pe_call G_law_seen (hr.mono (by decide)) rfl m_law_seen k_law_seen b_law_seen v_law_seen pass0 (pa_cons (pv 4) pa_nil)) (pv 7) (nomark _))))) (pss_one (ps_ret pe_bl)) pss_nil)) pss_nil)))
    (pss_cons (ps_set (i := 11) sc_law.nd rfl (Or.inl rfl) (pe_callB (call_min2 rfl) (by rfl) T.b_min (by decide +kernel) (pa_cons pe_int (pa_cons (pe_op op_sub pe_int (pv 3)) pa_nil))))
    (Evl.pss_cut (ps_if (PW.pt (pw_and (pt_cmpR op_gt (pv 11) pe_int (nomark _)) (pw_and1 (pt_cmpR (op_neDK (K := K) hr.units) (pe_call G_law_told (hr.mono (by decide)) rfl m_law_told k_law_told b_law_told v_law_told pass0 (pa_cons (pv 4) (pa_cons pe_int (pa_cons (pe_op op_repS pe_str (pv 11)) pa_nil)))) (pe_lst (pa_cons pe_str (pa_cons (pe_op op_add (pv 3) (pv 11)) pa_nil))) (nomark _))))) (pss_one (ps_ret pe_bl)) pss_nil)
    (pss_cons (ps_set (i := 12) sc_law.nd rfl (Or.inl rfl) (pe_make0 ⟨T.o_Log.made, i_Log___init__, fn_Log___init__, T.o_Log.kC⟩ G_Log___init__ (hr.mono (by decide)) rfl T.o_Log.gC b_Log___init__ v_Log___init__ pass0))
    (pss_cons (ps_set (i := 13) sc_law.nd rfl (Or.inl rfl) (pe_op op_add pe_int (pe_call G_law_take (hr.mono (by decide)) rfl m_law_take k_law_take b_law_take v_law_take pass0 (pa_cons (pv 2) (pa_cons pe_int pa_nil)))))
    (pss_cons (ps_expr (pe_meth (pv 12) T.o_Log.cls ⟨i_Log_do, fn_Log_do, k_Log_do⟩ G_Log_do (hr.mono (by decide)) b_Log_do v_Log_do passL (pa_cons (pe_op op_repS pe_str (pv 13)) pa_nil)))
    (pss_cons (ps_set (i := 14) sc_law.nd rfl (Or.inl rfl) (pe_lst (pa_cons (pe_op op_repS pe_str (pe_op op_add pe_int (pe_call G_law_take (hr.mono (by decide)) rfl m_law_take k_law_take b_law_take v_law_take pass0 (pa_cons (pv 2) (pa_cons pe_int pa_nil))))) (pa_cons (pe_op op_add_str (pe_op op_repS pe_str (pe_call G_law_take (hr.mono (by decide)) rfl m_law_take k_law_take b_law_take v_law_take pass0 (pa_cons (pv 2) (pa_cons pe_int pa_nil)))) (pe_op op_repS pe_str (pe_op op_add pe_int (pe_call G_law_take (hr.mono (by decide)) rfl m_law_take k_law_take b_law_take v_law_take pass0 (pa_cons (pv 2) (pa_cons pe_int pa_nil)))))) pa_nil))))
    (pss_cons (ps_set (i := 14) sc_law.nd rfl (Or.inl rfl) (pe_ix (ix_listK (K := K)) (pv 14) (pe_call G_law_take (hr.mono (by decide)) rfl m_law_take k_law_take b_law_take v_law_take pass0 (pa_cons (pv 2) (pa_cons pe_int pa_nil))) (fun _ _ => rfl)))
    (pss_cons (ps_set (i := 15) sc_law.nd rfl (Or.inl rfl) (pe_op op_sub (pe_op op_add (pe_op op_add (pv 13) pe_int) (pe_callB call_len_str (by rfl) T.b_len (by decide +kernel) (pa_cons (pv 14) pa_nil))) (pe_m1 PySem.F.slot_str_count PySem.F.type_str_count mt_count (pv 14) pe_str)))
    (pss_cons (ps_set (i := 16) sc_law.nd rfl (Or.inl rfl) (pe_lst (pa_cons pe_str (pa_cons (pe_op op_add (pv 13) (pe_callB call_len_str (by rfl) T.b_len (by decide +kernel) (pa_cons (pv 14) pa_nil))) pa_nil))))
    (Evl.pss_cut (ps_if (pt_cmpR op_gt (pv 15) pe_int (nomark _)) (pss_one (ps_set (i := 16) sc_law.nd rfl (Or.inl rfl) (pe_lst (pa_cons pe_str (pa_cons (pv 15) (pa_cons pe_bl pa_nil)))))) pss_nil)
    (pss_cons (ps_set (i := 7) sc_law.nd rfl (Or.inl rfl) (pe_call G_law_seen (hr.mono (by decide)) rfl m_law_seen k_law_seen b_law_seen v_law_seen pass0 (pa_cons (pv 12) pa_nil)))
    (Evl.pss_cut (ps_if (PW.pt (pw_or (pt_cmpR (op_neDK (K := K) hr.units) (pe_call G_law_told (hr.mono (by decide)) rfl m_law_told k_law_told b_law_told v_law_told pass0 (pa_cons (pv 12) (pa_cons pe_int (pa_cons (pv 14) pa_nil)))) (pv 16) (nomark _)) (pw_or1 (PW.pt (pw_and (pt_cmpR op_gt (pv 15) pe_int (nomark _)) (pw_and1 (pt_cmpR (op_neDK (K := K) hr.units) (pe_call G_law_seen (hr.mono (by decide)) rfl m_law_seen k_law_seen b_law_seen v_law_seen pass0 (pa_cons (pv 12) pa_nil)) (pv 7) (nomark _)))))))) (pss_one (ps_ret pe_bl)) pss_nil)
    (pss_one (ps_if (pt_cmpR (op_neDK (K := K) hr.units) (pe_ix (ix_listK (K := K)) (pe_call G_law_told (hr.mono (by decide)) rfl m_law_told k_law_told b_law_told v_law_told pass0 (pa_cons (pv 12) (pa_cons pe_int (pa_cons pe_int pa_nil)))) pe_int (fun _ _ => rfl)) pe_str (nomark _)) (pss_one (ps_ret pe_bl)) pss_nil))))))))))))))))))))))))
    (pss_one (ps_ret pe_bl))), ?_⟩
    refine ⟨_, rfl, _, _, rfl, .inl hS, _, _, rfl, _, _, rfl, _, rfl, by omega, by omega, for_range (lo := 0) (n := _) (fun i σ H' => ∃ x1 x2 x3 x4 x5 x6 x7 x8 x9 x10 x11 x12 x13 x14 x15 x16, σ = [some (.ref a), x1, x2, x3, x4, x5, x6, x7, x8, x9, x10, x11, x12, x13, x14, x15, x16] ∧ Same H H')
      ⟨none, none, none, none, none, none, none, none, none, none, none, none, none, none, none, none, rfl, Same.refl H⟩ ?_ ?_⟩
    rotate_left
    · rintro σ H1 ⟨x1, x2, x3, x4, x5, x6, x7, x8, x9, x10, x11, x12, x13, x14, x15, x16, rfl, s1⟩
      exact k _
    rintro i σ H1 hi ⟨x1, x2, x3, x4, x5, x6, x7, x8, x9, x10, x11, x12, x13, x14, x15, x16, rfl, s1⟩
    refine ⟨_, rfl, _, rfl, a, ns, _, rfl, s1.seq hS, by omega, by omega, fun p H2 np s2 hp => ?_⟩
    have hpn : H p = none := Same.free s1 np
    have sH := Same.trans s1 s2
    refine ⟨_, rfl, p, 61, rfl, hp, by decide, by decide, fun u H3 u0 u1 o3 p3 => ⟨_, _, rfl, rfl, ?_⟩⟩
    have sH := Off.same hpn sH o3
    obtain ⟨m0, rfl⟩ : ∃ m0 : Nat, u = (m0 : Int) := ⟨u.toNat, by omega⟩
    obtain ⟨many, em⟩ : ∃ many : Nat, many = 3940 + m0 := ⟨_, rfl⟩
    have z1 : 3940 ≤ many := by omega
    have z2 : many ≤ 4000 := by omega
    change gName 3 (V.int ((3940 : Int) + (m0 : Int))) _ _ _
    rw [show (3940 : Int) + (m0 : Int) = (many : Int) by omega]
    refine fun la lb na nb nab => ⟨la, lb, rfl, upd_same, fun kd md H4 off4 nk nm g4 => ⟨rfl, ?_⟩⟩
    have mid : Same H3 (upd (upd H3 lb (.own la)) la (.ins C_Log lb [])) := fun c o h => by rw [upd_ne (ne_of_none h na), upd_ne (ne_of_none h nb)]; exact h
    have s4 : Same H3 H4 := fun c o h => off4 c o (ne_of_none h na) (mid c o h)
    have fk := Same.free mid nk
    have fm := Same.free mid nm
    have F4 : FL C_Log H H4 p la kd md (stA 0) → True := fun _ => trivial
    refine ⟨_, rfl, la, _, _, rfl, g4.ob.choose_spec, rfl, la, kd, md, ⟨[], [], []⟩, 0, .str (Str.ofString "begin"), true, rfl, g4, LgI.nil, by decide, .inl ⟨begL, congrArg V.str beg_is, by decide, rfl⟩, ⟨(fun h => nomatch h), fun _ l el H5 o5 g5 => ?_⟩⟩
    obtain rfl : begL = l := sT_inj ((congrArg V.str beg_is).symm.trans el)
    rw [ms0_is] at g5
    have p4 := p3.same s4
    have F5 : FL C_Log H H5 p la kd md (stA 0) := by
      have npa : p ∉ [la, kd, md] := by
        obtain ⟨c0, n0, g0, r0⟩ := p4
        exact g4.nlst g0
      have fr : ∀ b ∈ [la, kd, md], H b = none := fun b hb => by
        simp only [List.mem_cons, List.not_mem_nil, or_false] at hb
        rcases hb with rfl | rfl | rfl
        · exact Same.free sH na
        · exact Same.free sH fk
        · exact Same.free sH fm
      obtain ⟨c0, n0, g0, r0⟩ := id p4
      exact ⟨g5, stA_i (by decide), ⟨by show 0 ≤ 4000; decide, by show 0 ≤ 4000; decide, by show 1 ≤ 60; decide⟩, fun b u hb => o5 b u (fun m => by rw [fr b m] at hb; cases hb) (s4 _ _ (sH _ _ hb)), ⟨c0, n0, o5 _ _ npa g0, r0⟩, hpn, fr⟩
    clear F4 g5 g4 off4 o5 p4 p3 hp
    refine ⟨_, rfl, _, _, rfl, rfl, ⟨by decide, by decide⟩, _, rfl, by omega, by omega, ?_⟩
    refine for_range (lo := 0) (n := _) (fun j σ H' => ∃ x5, σ = [some (.ref a), some (.int (0 + (i : Int))), some (.ref p), some (.int (many : Int)), some (.ref la), x5, x6, x7, x8, x9, x10, x11, x12, x13, x14, x15, x16] ∧ FL C_Log H H' p la kd md (stA (2 * (30 * j)))) ⟨_, rfl, F5⟩ ?_ ?_
    · rintro j σ H6 hj ⟨x5, rfl, F6⟩
      refine ⟨_, rfl, la, _, _, rfl, F6.g.ob.choose_spec, rfl, _, _, rfl, rfl, mul_alt.1, ?_⟩
      rw [mul_alt.2]
      have z6 : 2 * (30 * j) + 60 ≤ 4000 := by omega
      refine ⟨la, kd, md, _, _, _, sT (altL 60), true, rfl, F6.g, altL_row _, .inl ⟨_, rfl, Nat.le_trans (Nat.le_of_eq (altL_len 60)) (by decide), (isRow_of (altL_row _) (Nat.le_of_eq (altL_len 60))).symm⟩, F6.z.1, F6.z.2.1, ⟨(fun h => nomatch h), fun _ r er => ?_⟩⟩
      obtain rfl : altL 60 = r := sT_inj er
      refine ⟨fun _ H7 o7 g7 => ⟨_, rfl, ?_⟩, fun n => absurd (ok_alt z6) n⟩
      have := F6.alt o7 g7 z6
      rw [show 2 * (30 * j) + 60 = 2 * (30 * (j + 1)) by omega] at this
      exact this
    rintro σ H6 ⟨x5, rfl, F6⟩
    refine ⟨_, rfl, la, _, _, rfl, F6.g.ob.choose_spec, rfl, _, _, rfl, rfl, mul_alt.1, ?_⟩
    rw [mul_alt.2]
    obtain ⟨m1, e1⟩ : ∃ m1 : Nat, m1 = many % 60 := ⟨_, rfl⟩
    refine ⟨_, rfl, _, _, rfl, rfl, (by show (0 : Int) < 60; decide), _, rfl, _, rfl, (by rw [len_S, altL_len]; decide), ?_⟩
    rw [show ((many : Int) % 60) = (m1 : Int) by omega, cut_to (by rw [altL_len]; omega), altL_take (by omega)]
    obtain ⟨n1, en1⟩ : ∃ n1 : Nat, n1 = ((many : Int) / 60).toNat := ⟨_, rfl⟩
    rw [← en1] at F6
    have z7 : 2 * (30 * n1) + m1 = many := by omega
    refine ⟨la, kd, md, _, _, _, sT (altL m1), true, rfl, F6.g, altL_row _, .inl ⟨_, rfl, Nat.le_trans (Nat.le_of_eq (altL_len m1)) (by omega), (isRow_of (altL_row _) (by rw [altL_len]; omega)).symm⟩, F6.z.1, F6.z.2.1, ⟨(fun h => nomatch h), fun _ r er => ?_⟩⟩
    obtain rfl : altL m1 = r := sT_inj er
    refine ⟨fun _ H7 o7 g7 => ?_, fun n => absurd (ok_alt (by omega)) n⟩
    have F7 := F6.alt o7 g7 (by omega)
    rw [z7] at F7
    clear F5 F6 o7 g7
    refine ⟨_, rfl, p, 60, rfl, F7.pl, by decide, by decide, fun v H8 v0 v1 o8 p8 => ⟨_, _, rfl, rfl, ?_⟩⟩
    have F8 := F7.take o8 p8
    clear F7 o8 p8
    obtain ⟨more, emo⟩ : ∃ more : Nat, (more : Int) = 1 + v := ⟨(1 + v).toNat, by omega⟩
    change gName 6 (V.int ((1 : Int) + v)) _ _ _
    rw [← emo]
    have m1' : 1 ≤ more := by omega
    have m60 : more ≤ 60 := by omega
    refine ⟨_, rfl, la, kd, md, stA many, 700, rfl, F8.g, F8.i, Nat.le_refl _, F8.z.2.2, fun Lk Pk yk H9 s9 nL nP py sy gL gP => ?_⟩
    have nLk := F8.new nL
    have nPk := F8.new nP
    have F9 := F8.same s9
    clear F8
    refine ⟨_, rfl, _, _, rfl, rfl, (mul_kb more (by omega)).1, ?_⟩
    rw [(mul_kb more (by omega)).2]
    refine ⟨_, rfl, _, rfl, _, _, rfl, rfl, by show 3 ≤ sizeLine; decide, fun t1 ht1 => ?_⟩
    refine ⟨_, rfl, _, rfl, _, rfl, _, _, rfl, rfl, by show 3 ≤ sizeLine; decide, fun t2 ht2 => ?_⟩
    refine ⟨_, rfl, _, _, rfl, rfl, .inl ⟨by decide, by decide⟩, by show 3 ≤ sizeLine; decide, fun t3 ht3 => ?_⟩
    refine ⟨by show 3 ≤ sizeLine; decide, fun L hL => ?_⟩
    have nt1 := F9.new ht1
    have q1 := Same.new (o := .tup [.int 0, .str (S (List.replicate more 98)), .int ((many : Int) + more)]) ht1
    have nt2 := (F9.same q1).new ht2
    have q2 := Same.new (o := .tup [.int 1, .int (more : Int), .int ((many : Int) + more)]) ht2
    have nt3 := (F9.same (Same.trans q1 q2)).new ht3
    have q3 := Same.new (o := .tup [.int 2, .str (Str.ofString "begin"), .int (2 * (many : Int))]) ht3
    have nLL := (F9.same (Same.trans q1 (Same.trans q2 q3))).new hL
    have q4 := Same.new (o := .lst [.ref t1, .ref t2, .ref t3]) hL
    have g1 := q4 _ _ (q3 _ _ (q2 _ _ (upd_same (H := H9) (a := t1) (o := .tup [.int 0, .str (S (List.replicate more 98)), .int ((many : Int) + more)]))))
    have g2 := q4 _ _ (q3 _ _ (upd_same (H := upd H9 t1 (.tup [.int 0, .str (S (List.replicate more 98)), .int ((many : Int) + more)])) (a := t2) (o := .tup [.int 1, .int (more : Int), .int ((many : Int) + more)])))
    have g3 := q4 _ _ (upd_same (H := upd (upd H9 t1 (.tup [.int 0, .str (S (List.replicate more 98)), .int ((many : Int) + more)])) t2 (.tup [.int 1, .int (more : Int), .int ((many : Int) + more)])) (a := t3) (o := .tup [.int 2, .str (Str.ofString "begin"), .int (2 * (many : Int))]))
    have gLL := upd_same (H := upd (upd (upd H9 t1 (.tup [.int 0, .str (S (List.replicate more 98)), .int ((many : Int) + more)])) t2 (.tup [.int 1, .int (more : Int), .int ((many : Int) + more)])) t3 (.tup [.int 2, .str (Str.ofString "begin"), .int (2 * (many : Int))])) (a := L) (o := .lst [.ref t1, .ref t2, .ref t3])
    have qq := Same.trans q1 (Same.trans q2 (Same.trans q3 q4))
    have F10 := F9.same qq
    have gL := qq _ _ gL
    have gP := qq _ _ gP
    generalize upd (upd (upd (upd H9 t1 (.tup [.int 0, .str (S (List.replicate more 98)), .int ((many : Int) + more)])) t2 (.tup [.int 1, .int (more : Int), .int ((many : Int) + more)])) t3 (.tup [.int 2, .str (Str.ofString "begin"), .int (2 * (many : Int))])) L (.lst [.ref t1, .ref t2, .ref t3]) = H10 at *
    clear q1 q2 q3 q4 qq F9 ht1 ht2 ht3 hL
    have shO : ∀ y ∈ yk, PyData.strOk y = true := fun y hy => by
      have := py.mem_iff.mp hy
      rw [show namesM (stA many).ms = [S begL] from rfl, List.mem_singleton] at this
      rw [this]
      decide +kernel
    refine ⟨L, rfl, ⟨_, SqL.of gLL⟩, for_list (K := K) (a := L) (xs := [.ref t1, .ref t2, .ref t3]) (fun j σ H' => ∃ x8 x9 x10, σ = [some (.ref a), some (.int (0 + (i : Int))), some (.ref p), some (.int (many : Int)), some (.ref la), x5, some (.int (more : Int)), some (.ref Lk), x8, x9, x10, x11, x12, x13, x14, x15, x16] ∧ FL C_Log H H' p la kd md (stA many) ∧ OffS [la, kd, md] H10 H') ⟨_, _, _, rfl, F10, OffS.refl _ _⟩ (fun _ _ _ _ ⟨_, _, _, _, _, o⟩ => SqL.of (o _ _ nLL gLL)) ?_ ?_⟩
    · rintro j y σ H11 hj ⟨x8, x9, x10, rfl, F11, o11⟩
      obtain ⟨t, e, rfl, he, gt⟩ : ∃ (t : Addr) (e : Int × V × Int), y = .ref t ∧ e ∈ D3 more many ∧ H11 t = some (.tup [.int e.1, e.2.1, .int e.2.2]) := by
        have mj := List.mem_of_getElem? hj
        simp only [List.mem_cons, List.not_mem_nil, or_false] at mj
        rcases mj with rfl | rfl | rfl
        · exact ⟨_, (0, sT (bN more), ((many + more : Nat) : Int)), rfl, by simp [D3], by rw [o11 _ _ nt1 g1]; rfl⟩
        · exact ⟨_, (1, .int (more : Int), ((many + more : Nat) : Int)), rfl, by simp [D3], by rw [o11 _ _ nt2 g2]; rfl⟩
        · exact ⟨_, (2, sT begL, ((2 * many : Nat) : Int)), rfl, by simp [D3], by rw [o11 _ _ nt3 g3, congrArg V.str beg_is]; simp; rfl⟩
      obtain ⟨d, x, z⟩ := e
      change H11 t = some (.tup [.int d, x, .int z]) at gt
      refine ⟨t, [_, _, _], rfl, SqT.of gt, rfl, _, _, rfl, _, _, rfl, _, _, rfl, rfl, ?_⟩
      refine ⟨_, rfl, _, _, rfl, rfl, _, rfl, ?_⟩
      by_cases hz : (4000 : Int) < z
      rotate_left
      · rw [decide_eq_false hz]
        exact iteF ⟨_, _, _, rfl, F11, o11⟩
      rw [decide_eq_true hz]
      refine iteT ?_
      have ask : AskF (stA many) d x [wL "full", .int z, .bl true] (stA many) := ask3 m1' m60 z1 z2 _ he hz
      refine ⟨_, rfl, _, rfl, _, rfl, la, kd, md, stA many, stA many, 700, d, x, _, rfl, F11.g, F11.i, Nat.le_refl _, F11.z, ask, fun Lf H12 o12 g12 nf gf => ?_⟩
      refine ⟨_, rfl, by show 3 ≤ sizeLine; decide, fun L2 hL2 => ?_⟩
      have q5 := Same.new (o := .lst [.str (Str.ofString "full"), .int z, .bl true]) hL2
      refine ⟨_, _, full_data (K := K) (z := z) (q5 _ _ gf), full_data (K := K) (z := z) upd_same, full_sh z, full_sh z, _, rfl, ?_⟩
      rw [eqv_self (full_sh z)]
      refine iteF ?_
      have F13 := (F11.step o12 g12 F11.i F11.z).same q5
      have o13 := (o11.trans o12).trans (OffS.of q5)
      generalize upd H12 L2 (.lst [.str (Str.ofString "full"), .int z, .bl true]) = H13 at *
      refine ⟨_, rfl, la, kd, md, stA many, 700, rfl, F13.g, F13.i, Nat.le_refl _, F13.z.2.2, fun L3 P3 y3 H14 s14 n3 nP3 p3 sy3 g3 gP3 => ⟨_, rfl, ?_⟩⟩
      obtain rfl : yk = y3 := st_uniq py p3 sy sy3
      have gL' := s14 _ _ (o13 _ _ nLk gL)
      have gP' := s14 _ _ (o13 _ _ nPk gP)
      refine ⟨_, _, seen_data (K := K) g3 gP3, seen_data (K := K) gL' gP', seen_sh F13.i shO, seen_sh F13.i shO, _, rfl, ?_⟩
      rw [eqv_self (seen_sh F13.i shO)]
      exact iteF ⟨_, _, _, rfl, F13.same s14, o13.trans (OffS.of s14)⟩
    rintro σ H11 ⟨x8, x9, x10, rfl, F11, o11⟩
    have F12 := F11
    clear F10 gL gP g1 g2 g3 gLL o11 nt1 nt2 nt3 nLL shO py sy nLk nPk F11
    obtain ⟨som, eso⟩ : ∃ som : Nat, som = (if 4000 - many < 50 then 4000 - many else 50) := ⟨_, rfl⟩
    have hs50 : som ≤ 50 := by rw [eso]; split <;> omega
    have hs4 : many + som ≤ 4000 := by rw [eso]; split <;> omega
    refine ⟨_, rfl, _, _, rfl, rfl, _, _, rfl, ?_⟩
    rw [show (if (4000 : Int) - (many : Int) < 50 then (4000 : Int) - (many : Int) else 50) = (som : Int) by rw [eso]; split <;> split <;> omega]
    refine ⟨fun σ H' => σ = [some (.ref a), some (.int (0 + (i : Int))), some (.ref p), some (.int (many : Int)), some (.ref la), x5, some (.int (more : Int)), some (.ref Lk), x8, x9, x10, some (.int (som : Int)), x12, x13, x14, x15, x16] ∧ Same H H' ∧ Pool H' p, ?_, ?_⟩
    · refine ⟨_, rfl, _, _, rfl, rfl, _, rfl, ?_⟩
      by_cases hz : (0 : Int) < (som : Int)
      rotate_left
      · rw [decide_eq_false hz]
        exact iteF (iteF ⟨rfl, F12.s0, F12.pl⟩)
      rw [decide_eq_true hz]
      refine iteT ?_
      obtain ⟨s', ask⟩ := ask_b hs50 hs4
      refine ⟨_, rfl, _, rfl, _, _, rfl, rfl, (mul_kb som (by omega)).1, ?_⟩
      rw [(mul_kb som (by omega)).2]
      refine ⟨la, kd, md, stA many, s', 700, 0, _, _, rfl, F12.g, F12.i, Nat.le_refl _, F12.z, ask, fun Lf H13 o13 g13 nf gf => ?_⟩
      refine ⟨_, rfl, _, rfl, _, _, rfl, rfl, by show 2 ≤ sizeLine; decide, fun L2 hL2 => ?_⟩
      have em2 : (many : Int) + (som : Int) = ((many + som : Nat) : Int) := by omega
      have q5 := Same.new (o := .lst [.str (Str.ofString "told"), .int ((many : Int) + (som : Int))]) hL2
      have gL2 := upd_same (H := H13) (a := L2) (o := .lst [.str (Str.ofString "told"), .int ((many : Int) + (som : Int))])
      refine ⟨_, _, told_data (K := K) (q5 _ _ gf), told_data (K := K) (z := ((many + som : Nat) : Int)) (by rw [← em2]; exact gL2), told_sh _, told_sh _, _, rfl, ?_⟩
      rw [eqv_self (told_sh _)]
      refine iteF ⟨rfl, fun b u hb => ?_, ?_⟩
      · exact q5 _ _ (o13 b u (fun m => by rw [F12.fa b m] at hb; cases hb) (F12.s0 b u hb))
      · obtain ⟨c0, n0, g0, r0⟩ := id F12.pl
        exact ⟨c0, n0, q5 _ _ (o13 _ _ F12.np g0), r0⟩
    rintro σ H15 ⟨rfl, s15, p15⟩
    clear F12
    refine fun lw lb2 nw nb2 nwb => ⟨lw, lb2, rfl, upd_same, fun kw mw H16 off16 nkw nmw g16 => ⟨rfl, ?_⟩⟩
    have mid2 : Same H15 (upd (upd H15 lb2 (.own lw)) lw (.ins C_Log lb2 [])) := fun c o h => by rw [upd_ne (ne_of_none h nw), upd_ne (ne_of_none h nb2)]; exact h
    have s16 : Same H15 H16 := fun c o h => off16 c o (ne_of_none h nw) (mid2 c o h)
    have W0 : FL C_Log H H16 p lw kw mw (stB []) := by
      have p16 := p15.same s16
      obtain ⟨c0, n0, g0, r0⟩ := id p16
      exact ⟨g16, stB_i (fun c hc => by cases hc) (by decide) (by decide), ⟨by show 0 ≤ 4000; decide, by show 0 ≤ 4000; decide, by show 0 ≤ 60; decide⟩, Same.trans s15 s16, p16, hpn, fun b hb => by
        simp only [List.mem_cons, List.not_mem_nil, or_false] at hb
        rcases hb with rfl | rfl | rfl
        · exact Same.free s15 nw
        · exact Same.free s15 (Same.free mid2 nkw)
        · exact Same.free s15 (Same.free mid2 nmw)⟩
    clear g16 off16 s16 mid2 p15
    refine ⟨_, rfl, p, 11, rfl, W0.pl, by decide, by decide, fun v2 H17 b0 b1 o17 p17 => ⟨_, _, rfl, rfl, ?_⟩⟩
    have W1 := W0.take o17 p17
    clear W0 o17 p17
    obtain ⟨far, efar⟩ : ∃ far : Nat, (far : Int) = 50 + v2 := ⟨(50 + v2).toNat, by omega⟩
    change gName 13 (V.int ((50 : Int) + v2)) _ _ _
    rw [← efar]
    have f50 : 50 ≤ far := by omega
    have f60 : far ≤ 60 := by omega
    refine ⟨_, rfl, lw, _, _, rfl, W1.g.ob.choose_spec, rfl, _, rfl, _, _, rfl, rfl, (mul_ka far (by omega)).1, ?_⟩
    rw [(mul_ka far (by omega)).2]
    have rfar := aN_row far
    have zfar : (aN far).length = far := List.length_replicate
    have gfar : (gone (aN far)).length ≤ 61 := by rw [(aN_plain far).2]; omega
    refine ⟨lw, kw, mw, _, _, _, sT (aN far), true, rfl, W1.g, (fun c hc => by cases hc), .inl ⟨_, rfl, by omega, (isRow_of rfar (by omega)).symm⟩, W1.z.1, W1.z.2.1, ⟨(fun h => nomatch h), fun _ r er => ?_⟩⟩
    obtain rfl : aN far = r := sT_inj er
    refine ⟨fun _ H18 o18 g18 => ?_, fun n => absurd ⟨by show 0 + (aN far).length ≤ 4000; omega, gfar⟩ n⟩
    have W2 : FL C_Log H H18 p lw kw mw (stB (aN far)) := W1.step (o18.mono (by simp)) g18 (stB_i rfar (by omega) gfar) ⟨by show (aN far).length ≤ 4000; omega, by show (aN far).length ≤ 4000; omega, by show 0 ≤ 60; decide⟩
    clear W1 g18 o18
    refine ⟨_, rfl, p, 14, rfl, W2.pl, by decide, by decide, fun v3 H19 c0 c1 o19 p19 => ?_⟩
    have W3 := W2.take o19 p19
    clear W2 o19 p19
    obtain ⟨m3, rfl⟩ : ∃ m3 : Nat, v3 = (m3 : Int) := ⟨v3.toNat, by omega⟩
    refine ⟨_, _, rfl, rfl, _, _, rfl, rfl, (mul_ka1 (n := m3) (by omega)).1, ?_⟩
    rw [(mul_ka1 (n := m3) (by omega)).2]
    refine ⟨_, rfl, p, 20, rfl, W3.pl, by decide, by decide, fun v4 H20 d0 d1 o20 p20 => ?_⟩
    have W4 := W3.take o20 p20
    clear W3 o20 p20
    obtain ⟨m4, rfl⟩ : ∃ m4 : Nat, v4 = (m4 : Int) := ⟨v4.toNat, by omega⟩
    refine ⟨_, _, rfl, rfl, (mul_kA m4 (by omega)).1, ?_⟩
    rw [(mul_kA m4 (by omega)).2]
    refine ⟨_, rfl, p, 14, rfl, W4.pl, by decide, by decide, fun v5 H21 e0 e1 o21 p21 => ?_⟩
    have W5 := W4.take o21 p21
    clear W4 o21 p21
    obtain ⟨m5, rfl⟩ : ∃ m5 : Nat, v5 = (m5 : Int) := ⟨v5.toNat, by omega⟩
    refine ⟨_, _, rfl, rfl, _, _, rfl, rfl, (mul_kb1 (n := m5) (by omega)).1, ?_⟩
    rw [(mul_kb1 (n := m5) (by omega)).2]
    refine ⟨_, _, rfl, rfl, ?_, ?_⟩
    · rw [len_S, len_S, bN_len, List.length_replicate]
      exact sz_of' (by omega)
    rw [show S (List.replicate m4 65) ++ S (bN (1 + m5)) = S (AB m4 (1 + m5)) from add_S _ _]
    refine ⟨by show 2 ≤ sizeLine; decide, fun A hA => ?_⟩
    have nA : p ≠ A := W5.pl.ne hA
    have W6 := W5.same (Same.new (o := .lst [.str (S (aN (1 + m3))), .str (S (AB m4 (1 + m5)))]) hA)
    have gA := upd_same (H := H21) (a := A) (o := .lst [.str (S (aN (1 + m3))), .str (S (AB m4 (1 + m5)))])
    generalize upd H21 A (.lst [.str (S (aN (1 + m3))), .str (S (AB m4 (1 + m5)))]) = H22 at *
    clear W5 hA
    refine ⟨_, rfl, _, rfl, p, 2, rfl, W6.pl, by decide, by decide, fun v6 H23 f0 f1 o23 p23 => ?_⟩
    have W7 := W6.take o23 p23
    have gA := o23 A _ nA.symm gA
    clear W6 o23 p23
    obtain ⟨y, hy, yy⟩ := at2 (a := V.str (S (aN (1 + m3)))) (b := V.str (S (AB m4 (1 + m5)))) f0 f1
    obtain ⟨r, c, rfl, WR⟩ : ∃ (r : List Nat) (c : Nat), y = V.str (S r) ∧ WayR far r c := by
      rcases yy with rfl | rfl
      · exact ⟨_, _, rfl, wayA (by omega)⟩
      · exact ⟨_, _, rfl, wayB (by omega) (by omega) (by omega)⟩
    have zr := WR.z
    have c1r := WR.c1
    refine ⟨_, _, _, _, rfl, rfl, SqL.of gA, hy, ?_⟩
    clear gA nA hy yy
    refine ⟨_, rfl, _, _, rfl, rfl, _, rfl, _, rfl, (by rw [len_S]; exact sz_of' (by omega)), _, _, rfl, rfl, ?_⟩
    refine ⟨_, rfl, ⟨_, rfl⟩, _, _, rfl, rfl, _, _, rfl, rfl, ?_⟩
    rw [len_S, WR.cn]
    obtain ⟨pl, epl⟩ : ∃ pl : Nat, pl = far + 1 + r.length - c := ⟨_, rfl⟩
    change gName 15 (V.int ((far : Int) + 1 + (r.length : Int) - (c : Int))) _ _ _
    rw [show (far : Int) + 1 + (r.length : Int) - (c : Int) = (pl : Int) by omega]
    refine ⟨_, rfl, _, rfl, _, rfl, (by rw [len_S]; exact sz_of' (by omega)), _, _, rfl, rfl, by show 2 ≤ sizeLine; decide, fun D1 hD1 => ?_⟩
    rw [len_S]
    have W8 := W7.same (Same.new (o := .lst [.str (Str.ofString "told"), .int ((far : Int) + (r.length : Int))]) hD1)
    have gD := upd_same (H := H23) (a := D1) (o := .lst [.str (Str.ofString "told"), .int ((far : Int) + (r.length : Int))])
    generalize upd H23 D1 (.lst [.str (Str.ofString "told"), .int ((far : Int) + (r.length : Int))]) = H24 at *
    clear W7 hD1
    refine ⟨fun σ H' => ∃ Dd : Addr, σ = [some (.ref a), some (.int (0 + (i : Int))), some (.ref p), some (.int (many : Int)), some (.ref la), x5, some (.int (more : Int)), some (.ref Lk), x8, x9, x10, some (.int (som : Int)), some (.ref lw), some (.int (far : Int)), some (sT r), some (.int (pl : Int)), some (.ref Dd)] ∧ FL C_Log H H' p lw kw mw (stB (aN far)) ∧ H' Dd = some (.lst (if 61 < pl then [wL "full", .int (pl : Int), .bl true] else [wL "told", .int ((far + r.length : Nat) : Int)])), ?_, ?_⟩
    · refine ⟨_, rfl, _, _, rfl, rfl, _, rfl, ?_⟩
      by_cases hz : (61 : Int) < (pl : Int)
      · rw [decide_eq_true hz]
        refine iteT ⟨_, rfl, by show 3 ≤ sizeLine; decide, fun D2 hD2 => ?_⟩
        exact ⟨D2, rfl, W8.same (Same.new hD2), by rw [if_pos (by omega)]; exact upd_same⟩
      · rw [decide_eq_false hz]
        exact iteF ⟨D1, rfl, W8, by rw [if_neg (by omega), gD]; simp; rfl⟩
    rintro σ H25 ⟨Dd, rfl, W9, gDd⟩
    clear W8 gD
    have nDd := W9.g.nlst gDd
    obtain ⟨s', r', ask, rfl, rr', zr', gr', fr', same'⟩ := ask_way WR f60
    rw [← epl] at ask same'
    refine ⟨_, rfl, lw, kw, mw, stB (aN far), 700, rfl, W9.g, W9.i, Nat.le_refl _, W9.z.2.2, fun Lw Pw yw H26 s26 nLw nPw pyw syw gLw gPw => ?_⟩
    have nLw' := W9.new nLw
    have nPw' := W9.new nPw
    have W10 := W9.same s26
    have gDd := s26 _ _ gDd
    clear W9
    refine ⟨fun σ H' => σ = [some (.ref a), some (.int (0 + (i : Int))), some (.ref p), some (.int (many : Int)), some (.ref la), x5, some (.int (more : Int)), some (.ref Lw), x8, x9, x10, some (.int (som : Int)), some (.ref lw), some (.int (far : Int)), some (sT r), some (.int (pl : Int)), some (.ref Dd)] ∧ FL C_Log H H' p lw kw mw (stB r'), ?_, ?_⟩
    · refine ⟨_, rfl, _, rfl, lw, kw, mw, stB (aN far), stB r', 700, 0, _, _, rfl, W10.g, W10.i, Nat.le_refl _, W10.z, ask, fun Lt H27 o27 g27 nt gt => ?_⟩
      have W11 : FL C_Log H H27 p lw kw mw (stB r') := W10.step o27 g27 (stB_i rr' (by omega) gr') ⟨by show r'.length ≤ 4000; omega, by show r'.length ≤ 4000; omega, by show 0 ≤ 60; decide⟩
      refine ⟨_, rfl, _, _, due_data (K := K) gt, due_data (K := K) (o27 _ _ nDd gDd), due_sh _ _, due_sh _ _, _, rfl, ?_⟩
      rw [eqv_self (due_sh _ _)]
      refine iteF ⟨_, rfl, _, _, rfl, rfl, _, rfl, ?_⟩
      by_cases hz : (61 : Int) < (pl : Int)
      rotate_left
      · rw [decide_eq_false hz]
        exact iteF (iteF ⟨rfl, W11⟩)
      rw [decide_eq_true hz]
      refine iteT ?_
      obtain rfl := same' (by omega)
      refine ⟨_, rfl, lw, kw, mw, stB (aN far), 700, rfl, W11.g, W11.i, Nat.le_refl _, W11.z.2.2, fun L3 P3 y3 H28 s28 n3 nP3 p3 sy3 g3 gP3 => ⟨_, rfl, ?_⟩⟩
      obtain rfl : yw = y3 := st_uniq pyw p3 syw sy3
      have gL' := s28 _ _ (o27 _ _ nLw' gLw)
      have gP' := s28 _ _ (o27 _ _ nPw' gPw)
      have shO : ∀ y ∈ yw, PyData.strOk y = true := fun y hy => by
        have := pyw.mem_iff.mp hy
        cases this
      refine ⟨_, _, seen_data (K := K) g3 gP3, seen_data (K := K) gL' gP', seen_sh W11.i shO, seen_sh W11.i shO, _, rfl, ?_⟩
      rw [eqv_self (seen_sh W11.i shO)]
      exact iteF ⟨rfl, W11.same s28⟩
    rintro σ H29 ⟨rfl, W12⟩
    clear W10
    refine ⟨_, rfl, lw, kw, mw, stB r', bakL (stB r') 1, 700, 1, _, _, rfl, W12.g, W12.i, Nat.le_refl _, W12.z, AskF.back 1 (Nat.le_refl _) (by show 1 ≤ r'.length; omega) (by show r'.length + 1 ≤ 4000; omega), fun Lb H30 o30 g30 nb gb => ?_⟩
    refine ⟨Lb, _, 0, _, rfl, rfl, SqL.of gb, rfl, ?_⟩
    have sh : SeqAt.shaped (.str (Str.ofString "told")) = true := by decide +kernel
    refine ⟨.str (Str.ofString "told"), .str (Str.ofString "told"), .str _, .str _, sh, sh, _, rfl, ?_⟩
    rw [eqv_self sh]
    exact iteF ⟨_, _, _, _, _, _, _, _, _, _, _, _, _, _, _, _, rfl, fun b u hb => o30 b u (fun m => by rw [W12.fa b m] at hb; cases hb) (W12.s0 b u hb)⟩
end
theorem all_mk {l : PySem.W.OpenLaw} {w : World} {K : PySem.W.Frag} {h : Heap} {mg : Str → Option Value} {fa : Addr} (X : K.In h) (G : h.Ns mainGlobals mg) (hfa : mg "law" = some (.ref fa))
    {t_LETTERS : Tok}
    {t_MOST_LONG : Tok}
    {t_MOST_PLACES : Tok}
    {t_MOST_SIGNS : Tok}
    {t_SIGNS : Tok}
    {C_Full : Addr}
    {C_NoBack : Addr}
    {C_NoMark : Addr}
    {C_NoRow : Addr}
    {C_Log : Addr}
    {C_Rounds : Addr}
    {C_Walk : Addr}
    {f_law_pool : Addr} {od_law_pool an_law_pool : Option Addr} {sl_law_pool : Array (Option Value)} {oc_law_pool kV_law_pool dc_law_pool pm_law_pool cd_law_pool ct_law_pool : Value}
    {f_law_take : Addr} {od_law_take an_law_take : Option Addr} {sl_law_take : Array (Option Value)} {oc_law_take kV_law_take dc_law_take pm_law_take cd_law_take ct_law_take : Value}
    {f_Log___init__ : Addr} {od_Log___init__ an_Log___init__ : Option Addr} {sl_Log___init__ : Array (Option Value)} {oc_Log___init__ kV_Log___init__ dc_Log___init__ pm_Log___init__ cd_Log___init__ ct_Log___init__ : Value}
    {f_is_name : Addr} {od_is_name an_is_name : Option Addr} {sl_is_name : Array (Option Value)} {oc_is_name kV_is_name dc_is_name pm_is_name cd_is_name ct_is_name : Value}
    {f_NoMark___init__ : Addr} {od_NoMark___init__ an_NoMark___init__ : Option Addr} {sl_NoMark___init__ : Array (Option Value)} {oc_NoMark___init__ kV_NoMark___init__ dc_NoMark___init__ pm_NoMark___init__ cd_NoMark___init__ ct_NoMark___init__ : Value}
    {f_Log_mark : Addr} {od_Log_mark an_Log_mark : Option Addr} {sl_Log_mark : Array (Option Value)} {oc_Log_mark kV_Log_mark dc_Log_mark pm_Log_mark cd_Log_mark ct_Log_mark : Value}
    {f_is_row_within : Addr} {od_is_row_within an_is_row_within : Option Addr} {sl_is_row_within : Array (Option Value)} {oc_is_row_within kV_is_row_within dc_is_row_within pm_is_row_within cd_is_row_within ct_is_row_within : Value}
    {f_is_row : Addr} {od_is_row an_is_row : Option Addr} {sl_is_row : Array (Option Value)} {oc_is_row kV_is_row dc_is_row pm_is_row cd_is_row ct_is_row : Value}
    {f_look_at_row : Addr} {od_look_at_row an_look_at_row : Option Addr} {sl_look_at_row : Array (Option Value)} {oc_look_at_row kV_look_at_row dc_look_at_row pm_look_at_row cd_look_at_row ct_look_at_row : Value}
    {f_Full___init__ : Addr} {od_Full___init__ an_Full___init__ : Option Addr} {sl_Full___init__ : Array (Option Value)} {oc_Full___init__ kV_Full___init__ dc_Full___init__ pm_Full___init__ cd_Full___init__ ct_Full___init__ : Value}
    {f_contrary_sign : Addr} {od_contrary_sign an_contrary_sign : Option Addr} {sl_contrary_sign : Array (Option Value)} {oc_contrary_sign kV_contrary_sign dc_contrary_sign pm_contrary_sign cd_contrary_sign ct_contrary_sign : Value}
    {f_made_plain : Addr} {od_made_plain an_made_plain : Option Addr} {sl_made_plain : Array (Option Value)} {oc_made_plain kV_made_plain dc_made_plain pm_made_plain cd_made_plain ct_made_plain : Value}
    {f_Log_look_at_room : Addr} {od_Log_look_at_room an_Log_look_at_room : Option Addr} {sl_Log_look_at_room : Array (Option Value)} {oc_Log_look_at_room kV_Log_look_at_room dc_Log_look_at_room pm_Log_look_at_room cd_Log_look_at_room ct_Log_look_at_room : Value}
    {f_Log_put : Addr} {od_Log_put an_Log_put : Option Addr} {sl_Log_put : Array (Option Value)} {oc_Log_put kV_Log_put dc_Log_put pm_Log_put cd_Log_put ct_Log_put : Value}
    {f_Log_do : Addr} {od_Log_do an_Log_do : Option Addr} {sl_Log_do : Array (Option Value)} {oc_Log_do kV_Log_do dc_Log_do pm_Log_do cd_Log_do ct_Log_do : Value}
    {f_Log_row : Addr} {od_Log_row an_Log_row : Option Addr} {sl_Log_row : Array (Option Value)} {oc_Log_row kV_Log_row dc_Log_row pm_Log_row cd_Log_row ct_Log_row : Value}
    {f_Log_standing : Addr} {od_Log_standing an_Log_standing : Option Addr} {sl_Log_standing : Array (Option Value)} {oc_Log_standing kV_Log_standing dc_Log_standing pm_Log_standing cd_Log_standing ct_Log_standing : Value}
    {f_Log_marks : Addr} {od_Log_marks an_Log_marks : Option Addr} {sl_Log_marks : Array (Option Value)} {oc_Log_marks kV_Log_marks dc_Log_marks pm_Log_marks cd_Log_marks ct_Log_marks : Value}
    {f_Log___len__ : Addr} {od_Log___len__ an_Log___len__ : Option Addr} {sl_Log___len__ : Array (Option Value)} {oc_Log___len__ kV_Log___len__ dc_Log___len__ pm_Log___len__ cd_Log___len__ ct_Log___len__ : Value}
    {f_is_plain_row : Addr} {od_is_plain_row an_is_plain_row : Option Addr} {sl_is_plain_row : Array (Option Value)} {oc_is_plain_row kV_is_plain_row dc_is_plain_row pm_is_plain_row cd_is_plain_row ct_is_plain_row : Value}
    {f_first_wrong : Addr} {od_first_wrong an_first_wrong : Option Addr} {sl_first_wrong : Array (Option Value)} {oc_first_wrong kV_first_wrong dc_first_wrong pm_first_wrong cd_first_wrong ct_first_wrong : Value}
    {f_rank : Addr} {od_rank an_rank : Option Addr} {sl_rank : Array (Option Value)} {oc_rank kV_rank dc_rank pm_rank cd_rank ct_rank : Value}
    {f_Walk___init__ : Addr} {od_Walk___init__ an_Walk___init__ : Option Addr} {sl_Walk___init__ : Array (Option Value)} {oc_Walk___init__ kV_Walk___init__ dc_Walk___init__ pm_Walk___init__ cd_Walk___init__ ct_Walk___init__ : Value}
    {T_Walk___init__ : Addr} {tc_Walk___init__ : Value} {tdd_Walk___init__ : Option Addr} {tn_Walk___init__ : Nat} {ts_Walk___init__ : Array (Option Value)} {td1_Walk___init__ : Tok}
    {f_Log_walk : Addr} {od_Log_walk an_Log_walk : Option Addr} {sl_Log_walk : Array (Option Value)} {oc_Log_walk kV_Log_walk dc_Log_walk pm_Log_walk cd_Log_walk ct_Log_walk : Value}
    {f_named : Addr} {od_named an_named : Option Addr} {sl_named : Array (Option Value)} {oc_named kV_named dc_named pm_named cd_named ct_named : Value}
    {f_Walk___str__ : Addr} {od_Walk___str__ an_Walk___str__ : Option Addr} {sl_Walk___str__ : Array (Option Value)} {oc_Walk___str__ kV_Walk___str__ dc_Walk___str__ pm_Walk___str__ cd_Walk___str__ ct_Walk___str__ : Value}
    {f_Walk_end : Addr} {od_Walk_end an_Walk_end : Option Addr} {sl_Walk_end : Array (Option Value)} {oc_Walk_end kV_Walk_end dc_Walk_end pm_Walk_end cd_Walk_end ct_Walk_end : Value}
    {f_Walk_places : Addr} {od_Walk_places an_Walk_places : Option Addr} {sl_Walk_places : Array (Option Value)} {oc_Walk_places kV_Walk_places dc_Walk_places pm_Walk_places cd_Walk_places ct_Walk_places : Value}
    {f_Rounds___init__ : Addr} {od_Rounds___init__ an_Rounds___init__ : Option Addr} {sl_Rounds___init__ : Array (Option Value)} {oc_Rounds___init__ kV_Rounds___init__ dc_Rounds___init__ pm_Rounds___init__ cd_Rounds___init__ ct_Rounds___init__ : Value}
    {f_Rounds_rest_many : Addr} {od_Rounds_rest_many an_Rounds_rest_many : Option Addr} {sl_Rounds_rest_many : Array (Option Value)} {oc_Rounds_rest_many kV_Rounds_rest_many dc_Rounds_rest_many pm_Rounds_rest_many cd_Rounds_rest_many ct_Rounds_rest_many : Value}
    {f_is_whole : Addr} {od_is_whole an_is_whole : Option Addr} {sl_is_whole : Array (Option Value)} {oc_is_whole kV_is_whole dc_is_whole pm_is_whole cd_is_whole ct_is_whole : Value}
    {f_Walk___len__ : Addr} {od_Walk___len__ an_Walk___len__ : Option Addr} {sl_Walk___len__ : Array (Option Value)} {oc_Walk___len__ kV_Walk___len__ dc_Walk___len__ pm_Walk___len__ cd_Walk___len__ ct_Walk___len__ : Value}
    {f_signs_many : Addr} {od_signs_many an_signs_many : Option Addr} {sl_signs_many : Array (Option Value)} {oc_signs_many kV_signs_many dc_signs_many pm_signs_many cd_signs_many ct_signs_many : Value}
    {f_Rounds_home : Addr} {od_Rounds_home an_Rounds_home : Option Addr} {sl_Rounds_home : Array (Option Value)} {oc_Rounds_home kV_Rounds_home dc_Rounds_home pm_Rounds_home cd_Rounds_home ct_Rounds_home : Value}
    {f_Rounds_choices : Addr} {od_Rounds_choices an_Rounds_choices : Option Addr} {sl_Rounds_choices : Array (Option Value)} {oc_Rounds_choices kV_Rounds_choices dc_Rounds_choices pm_Rounds_choices cd_Rounds_choices ct_Rounds_choices : Value}
    {f_Rounds_go_on : Addr} {od_Rounds_go_on an_Rounds_go_on : Option Addr} {sl_Rounds_go_on : Array (Option Value)} {oc_Rounds_go_on kV_Rounds_go_on dc_Rounds_go_on pm_Rounds_go_on cd_Rounds_go_on ct_Rounds_go_on : Value}
    {f_shortest_at : Addr} {od_shortest_at an_shortest_at : Option Addr} {sl_shortest_at : Array (Option Value)} {oc_shortest_at kV_shortest_at dc_shortest_at pm_shortest_at cd_shortest_at ct_shortest_at : Value}
    {T_shortest_at : Addr} {tc_shortest_at : Value} {tdd_shortest_at : Option Addr} {tn_shortest_at : Nat} {ts_shortest_at : Array (Option Value)} {td0_shortest_at : Tok}
    {f_Log_short : Addr} {od_Log_short an_Log_short : Option Addr} {sl_Log_short : Array (Option Value)} {oc_Log_short kV_Log_short dc_Log_short pm_Log_short cd_Log_short ct_Log_short : Value}
    {f_law_seen : Addr} {od_law_seen an_law_seen : Option Addr} {sl_law_seen : Array (Option Value)} {oc_law_seen kV_law_seen dc_law_seen pm_law_seen cd_law_seen ct_law_seen : Value}
    {f_NoBack___init__ : Addr} {od_NoBack___init__ an_NoBack___init__ : Option Addr} {sl_NoBack___init__ : Array (Option Value)} {oc_NoBack___init__ kV_NoBack___init__ dc_NoBack___init__ pm_NoBack___init__ cd_NoBack___init__ ct_NoBack___init__ : Value}
    {f_turned : Addr} {od_turned an_turned : Option Addr} {sl_turned : Array (Option Value)} {oc_turned kV_turned dc_turned pm_turned cd_turned ct_turned : Value}
    {f_Log_back : Addr} {od_Log_back an_Log_back : Option Addr} {sl_Log_back : Array (Option Value)} {oc_Log_back kV_Log_back dc_Log_back pm_Log_back cd_Log_back ct_Log_back : Value}
    {T_Log_back : Addr} {tc_Log_back : Value} {tdd_Log_back : Option Addr} {tn_Log_back : Nat} {ts_Log_back : Array (Option Value)} {td0_Log_back : Tok}
    {f_Log_back_to : Addr} {od_Log_back_to an_Log_back_to : Option Addr} {sl_Log_back_to : Array (Option Value)} {oc_Log_back_to kV_Log_back_to dc_Log_back_to pm_Log_back_to cd_Log_back_to ct_Log_back_to : Value}
    {f_law_told : Addr} {od_law_told an_law_told : Option Addr} {sl_law_told : Array (Option Value)} {oc_law_told kV_law_told dc_law_told pm_law_told cd_law_told ct_law_told : Value}
    {f_law : Addr} {od_law an_law : Option Addr} {sl_law : Array (Option Value)} {oc_law kV_law dc_law pm_law cd_law ct_law : Value}
    (z_ArithmeticError : PySem.W.nsIn K mainGlobals "ArithmeticError" = some none)
    (z_KeyError : PySem.W.nsIn K mainGlobals "KeyError" = some none)
    (z_OverflowError : PySem.W.nsIn K mainGlobals "OverflowError" = some none)
    (z_all : PySem.W.nsIn K mainGlobals "all" = some none)
    (z_bool : PySem.W.nsIn K mainGlobals "bool" = some none)
    (z_dict : PySem.W.nsIn K mainGlobals "dict" = some none)
    (z_divmod : PySem.W.nsIn K mainGlobals "divmod" = some none)
    (z_enumerate : PySem.W.nsIn K mainGlobals "enumerate" = some none)
    (z_int : PySem.W.nsIn K mainGlobals "int" = some none)
    (z_isinstance : PySem.W.nsIn K mainGlobals "isinstance" = some none)
    (z_len : PySem.W.nsIn K mainGlobals "len" = some none)
    (z_list : PySem.W.nsIn K mainGlobals "list" = some none)
    (z_max : PySem.W.nsIn K mainGlobals "max" = some none)
    (z_min : PySem.W.nsIn K mainGlobals "min" = some none)
    (z_range : PySem.W.nsIn K mainGlobals "range" = some none)
    (z_sorted : PySem.W.nsIn K mainGlobals "sorted" = some none)
    (z_str : PySem.W.nsIn K mainGlobals "str" = some none)
    (z_tuple : PySem.W.nsIn K mainGlobals "tuple" = some none)
    (n_LETTERS : PySem.W.nsIn K mainGlobals "LETTERS" = some (some (.str "abcdefghijklmnopqrstuvwxyz" t_LETTERS)))
    (n_MOST_LONG : PySem.W.nsIn K mainGlobals "MOST_LONG" = some (some (.int 4000 t_MOST_LONG)))
    (n_MOST_PLACES : PySem.W.nsIn K mainGlobals "MOST_PLACES" = some (some (.int 61 t_MOST_PLACES)))
    (n_MOST_SIGNS : PySem.W.nsIn K mainGlobals "MOST_SIGNS" = some (some (.int 60 t_MOST_SIGNS)))
    (n_SIGNS : PySem.W.nsIn K mainGlobals "SIGNS" = some (some (.str "aAbBcCdDeEfF" t_SIGNS)))
    (aC_Full : PySem.W.nsIn K mainGlobals "Full" = some (some (.ref C_Full)))
    (xC_Full : PySem.W.excInitIn K C_Full [.type "OverflowError", .type "ArithmeticError", .type "Exception", .type "BaseException", .type "object"] "OverflowError.__new__" = true)
    (kC_Full : PySem.W.keepIn K (.ref C_Full) = true)
    (bC_Full : PySem.W.subIn K (.ref C_Full) (.type "BaseException") = some true)
    (tC_Full : PySem.W.typeIn K (.ref C_Full) = some (.type "type"))
    (iC_Full : PySem.W.isClsIn K C_Full = true)
    (sC_Full : PySem.W.subIn K (.ref C_Full) (.ref C_Full) = some true)
    (hg_Full : PySem.W.findIn K (.ref C_Full) "__getattribute__" = some (some (.builtin "BaseException.__getattribute__")))
    (hk_Full : PySem.W.findIn K (.ref C_Full) "__getattr__" = some none)
    (hd_Full : PySem.W.hasDictIn K C_Full = true)
    (ha_Full : PySem.W.findIn K (.ref C_Full) "__class__" = some (some (.builtin "object.__class__")))
    (hm_Full : PySem.W.mroIn K C_Full (.type "object") = some true)
    (oC_Full : PySem.W.excOver K C_Full [.type "OverflowError", .type "ArithmeticError", .type "Exception", .type "BaseException", .type "object"] = true)
    (sa_Full : PySem.W.findIn K (.ref C_Full) "__setattr__" = some (some (.builtin "object.__setattr__")))
    (aC_NoBack : PySem.W.nsIn K mainGlobals "NoBack" = some (some (.ref C_NoBack)))
    (xC_NoBack : PySem.W.excInitIn K C_NoBack [.type "ArithmeticError", .type "Exception", .type "BaseException", .type "object"] "ArithmeticError.__new__" = true)
    (kC_NoBack : PySem.W.keepIn K (.ref C_NoBack) = true)
    (bC_NoBack : PySem.W.subIn K (.ref C_NoBack) (.type "BaseException") = some true)
    (tC_NoBack : PySem.W.typeIn K (.ref C_NoBack) = some (.type "type"))
    (iC_NoBack : PySem.W.isClsIn K C_NoBack = true)
    (sC_NoBack : PySem.W.subIn K (.ref C_NoBack) (.ref C_NoBack) = some true)
    (hg_NoBack : PySem.W.findIn K (.ref C_NoBack) "__getattribute__" = some (some (.builtin "BaseException.__getattribute__")))
    (hk_NoBack : PySem.W.findIn K (.ref C_NoBack) "__getattr__" = some none)
    (hd_NoBack : PySem.W.hasDictIn K C_NoBack = true)
    (ha_NoBack : PySem.W.findIn K (.ref C_NoBack) "__class__" = some (some (.builtin "object.__class__")))
    (hm_NoBack : PySem.W.mroIn K C_NoBack (.type "object") = some true)
    (oC_NoBack : PySem.W.excOver K C_NoBack [.type "ArithmeticError", .type "Exception", .type "BaseException", .type "object"] = true)
    (sa_NoBack : PySem.W.findIn K (.ref C_NoBack) "__setattr__" = some (some (.builtin "object.__setattr__")))
    (aC_NoMark : PySem.W.nsIn K mainGlobals "NoMark" = some (some (.ref C_NoMark)))
    (xC_NoMark : PySem.W.excInitIn K C_NoMark [.type "KeyError", .type "LookupError", .type "Exception", .type "BaseException", .type "object"] "LookupError.__new__" = true)
    (kC_NoMark : PySem.W.keepIn K (.ref C_NoMark) = true)
    (bC_NoMark : PySem.W.subIn K (.ref C_NoMark) (.type "BaseException") = some true)
    (tC_NoMark : PySem.W.typeIn K (.ref C_NoMark) = some (.type "type"))
    (iC_NoMark : PySem.W.isClsIn K C_NoMark = true)
    (sC_NoMark : PySem.W.subIn K (.ref C_NoMark) (.ref C_NoMark) = some true)
    (hg_NoMark : PySem.W.findIn K (.ref C_NoMark) "__getattribute__" = some (some (.builtin "BaseException.__getattribute__")))
    (hk_NoMark : PySem.W.findIn K (.ref C_NoMark) "__getattr__" = some none)
    (hd_NoMark : PySem.W.hasDictIn K C_NoMark = true)
    (ha_NoMark : PySem.W.findIn K (.ref C_NoMark) "__class__" = some (some (.builtin "object.__class__")))
    (hm_NoMark : PySem.W.mroIn K C_NoMark (.type "object") = some true)
    (oC_NoMark : PySem.W.excOver K C_NoMark [.type "KeyError", .type "LookupError", .type "Exception", .type "BaseException", .type "object"] = true)
    (sa_NoMark : PySem.W.findIn K (.ref C_NoMark) "__setattr__" = some (some (.builtin "object.__setattr__")))
    (aC_NoRow : PySem.W.nsIn K mainGlobals "NoRow" = some (some (.ref C_NoRow)))
    (xC_NoRow : PySem.W.excIn K C_NoRow [.type "ValueError", .type "Exception", .type "BaseException", .type "object"] "ValueError.__new__" = true)
    (kC_NoRow : PySem.W.keepIn K (.ref C_NoRow) = true)
    (bC_NoRow : PySem.W.subIn K (.ref C_NoRow) (.type "BaseException") = some true)
    (tC_NoRow : PySem.W.typeIn K (.ref C_NoRow) = some (.type "type"))
    (iC_NoRow : PySem.W.isClsIn K C_NoRow = true)
    (sC_NoRow : PySem.W.subIn K (.ref C_NoRow) (.ref C_NoRow) = some true)
    (hg_NoRow : PySem.W.findIn K (.ref C_NoRow) "__getattribute__" = some (some (.builtin "BaseException.__getattribute__")))
    (hk_NoRow : PySem.W.findIn K (.ref C_NoRow) "__getattr__" = some none)
    (hd_NoRow : PySem.W.hasDictIn K C_NoRow = true)
    (ha_NoRow : PySem.W.findIn K (.ref C_NoRow) "__class__" = some (some (.builtin "object.__class__")))
    (hm_NoRow : PySem.W.mroIn K C_NoRow (.type "object") = some true)
    (hn : PySem.W.specialIn K (.builtin "object.__class__") "__get__" = some (some (.builtin "getset_descriptor.__get__")))
    (ht : PySem.W.takesIn K (.builtin "object.__class__") = some true)
    (w_ArithmeticError : PySem.W.findCls K (.type "ArithmeticError") (.type "type") "__init__" = some (.val (.builtin "ArithmeticError.__init__")))
    (w_KeyError : PySem.W.findCls K (.type "KeyError") (.type "type") "__init__" = some (.val (.builtin "KeyError.__init__")))
    (w_OverflowError : PySem.W.findCls K (.type "OverflowError") (.type "type") "__init__" = some (.val (.builtin "OverflowError.__init__")))
    (aC_Log : PySem.W.nsIn K mainGlobals "Log" = some (some (.ref C_Log)))
    (pg_Log : PySem.W.plainGet K C_Log Str.empty = true)
    (hd_Log : PySem.W.hasDictIn K C_Log = true)
    (po_Log : PySem.W.plainOver K C_Log = true)
    (sa_Log : PySem.W.findIn K (.ref C_Log) "__setattr__" = some (some (.builtin "object.__setattr__")))
    (mk_Log : PySem.W.makesIn K C_Log = true)
    (kC_Log : PySem.W.keepIn K (.ref C_Log) = true)
    (aC_Rounds : PySem.W.nsIn K mainGlobals "Rounds" = some (some (.ref C_Rounds)))
    (pg_Rounds : PySem.W.plainGet K C_Rounds Str.empty = true)
    (hd_Rounds : PySem.W.hasDictIn K C_Rounds = true)
    (po_Rounds : PySem.W.plainOver K C_Rounds = true)
    (sa_Rounds : PySem.W.findIn K (.ref C_Rounds) "__setattr__" = some (some (.builtin "object.__setattr__")))
    (mk_Rounds : PySem.W.makesIn K C_Rounds = true)
    (kC_Rounds : PySem.W.keepIn K (.ref C_Rounds) = true)
    (aC_Walk : PySem.W.nsIn K mainGlobals "Walk" = some (some (.ref C_Walk)))
    (pg_Walk : PySem.W.plainGet K C_Walk Str.empty = true)
    (hd_Walk : PySem.W.hasDictIn K C_Walk = true)
    (po_Walk : PySem.W.plainOver K C_Walk = true)
    (sa_Walk : PySem.W.findIn K (.ref C_Walk) "__setattr__" = some (some (.builtin "object.__setattr__")))
    (mk_Walk : PySem.W.makesIn K C_Walk = true)
    (kC_Walk : PySem.W.keepIn K (.ref C_Walk) = true)
    (y_Full_size : PySem.W.findIn K (.ref C_Full) "size" = some none)
    (y_Log_own_end : PySem.W.findIn K (.ref C_Log) "own_end" = some none)
    (y_Log_own_known : PySem.W.findIn K (.ref C_Log) "own_known" = some none)
    (y_Log_own_marks : PySem.W.findIn K (.ref C_Log) "own_marks" = some none)
    (y_Log_own_open : PySem.W.findIn K (.ref C_Log) "own_open" = some none)
    (y_Log_own_text : PySem.W.findIn K (.ref C_Log) "own_text" = some none)
    (y_NoBack_many : PySem.W.findIn K (.ref C_NoBack) "many" = some none)
    (y_NoMark_name : PySem.W.findIn K (.ref C_NoMark) "name" = some none)
    (y_Rounds_own_end : PySem.W.findIn K (.ref C_Rounds) "own_end" = some none)
    (y_Rounds_own_here : PySem.W.findIn K (.ref C_Rounds) "own_here" = some none)
    (y_Rounds_own_left : PySem.W.findIn K (.ref C_Rounds) "own_left" = some none)
    (y_Walk_own_end : PySem.W.findIn K (.ref C_Walk) "own_end" = some none)
    (y_Walk_own_places : PySem.W.findIn K (.ref C_Walk) "own_places" = some none)
    (f_b3 : PySem.W.subIn K (.ref C_NoBack) (.type "ArithmeticError") = some true)
    (f_m4 : PySem.W.subIn K (.ref C_NoMark) (.type "KeyError") = some true)
    (f_w1 : PySem.W.findIn K (.ref C_Walk) "__class__" = some (some (.builtin "object.__class__")))
    (f_w2 : PySem.W.specialIn K (.builtin "object.__class__") "__get__" = some (some (.builtin "getset_descriptor.__get__")))
    (f_w3 : PySem.W.takesIn K (.builtin "object.__class__") = some true)
    (f_w4 : PySem.W.mroIn K C_Walk (.type "object") = some true)
    (f_ob_Walk : PySem.W.mroIn K C_Walk (.type "object") = some true)
    (f_ne_Walk : PySem.W.findIn K (.ref C_Walk) "__ne__" = some (some (.builtin "object.__ne__")))
    (f_oi : PySem.W.isClsIn K C_Walk = true)
    (f_ot : PySem.W.typeIn K (.ref C_Walk) = some (.type "type"))
    (f_l1 : PySem.W.findIn K (.ref C_Log) "__class__" = some (some (.builtin "object.__class__")))
    (f_ob_Log : PySem.W.mroIn K C_Log (.type "object") = some true)
    (f_ne_Log : PySem.W.findIn K (.ref C_Log) "__ne__" = some (some (.builtin "object.__ne__")))
    (f_lo : PySem.W.isClsIn K C_Log = true)
    (f_lt : PySem.W.typeIn K (.ref C_Log) = some (.type "type"))
    (f_sub_Walk_Log : PySem.W.subIn K (.ref C_Walk) (.ref C_Log) = some false)
    (f_ll : PySem.W.subIn K (.ref C_Log) (.ref C_Log) = some true)
    (f_fo : PySem.W.subIn K (.ref C_Full) (.type "OverflowError") = some true)
    (a_law_pool : PySem.W.nsIn K mainGlobals "_law_pool" = some (some (.ref f_law_pool)))
    (l_law_pool : K.lookup f_law_pool = some ⟨oc_law_pool, od_law_pool, .func (PySem.W.fnOf "_law_pool" "_law_pool" (defArgs s_law_pool) (defBody s_law_pool) (defScope s_law_pool) .none kV_law_pool dc_law_pool pm_law_pool an_law_pool cd_law_pool ct_law_pool), sl_law_pool⟩)
    (c_law_pool : PySem.W.codeIn K cd_law_pool "_law_pool" = true)
    (k_law_pool : PySem.W.keepIn K (.ref f_law_pool) = true)
    (a_law_take : PySem.W.nsIn K mainGlobals "_law_take" = some (some (.ref f_law_take)))
    (l_law_take : K.lookup f_law_take = some ⟨oc_law_take, od_law_take, .func (PySem.W.fnOf "_law_take" "_law_take" (defArgs s_law_take) (defBody s_law_take) (defScope s_law_take) .none kV_law_take dc_law_take pm_law_take an_law_take cd_law_take ct_law_take), sl_law_take⟩)
    (c_law_take : PySem.W.codeIn K cd_law_take "_law_take" = true)
    (k_law_take : PySem.W.keepIn K (.ref f_law_take) = true)
    (a_Log___init__ : PySem.W.findIn K (.ref C_Log) "__init__" = some (some (.ref f_Log___init__)))
    (l_Log___init__ : K.lookup f_Log___init__ = some ⟨oc_Log___init__, od_Log___init__, .func (PySem.W.fnOf "__init__" "Log.__init__" (defArgs s_Log___init__) (defBody s_Log___init__) (defScope s_Log___init__) .none kV_Log___init__ dc_Log___init__ pm_Log___init__ an_Log___init__ cd_Log___init__ ct_Log___init__), sl_Log___init__⟩)
    (c_Log___init__ : PySem.W.codeIn K cd_Log___init__ "Log.__init__" = true)
    (k_Log___init__ : PySem.W.keepIn K (.ref f_Log___init__) = true)
    (u_Log___init__ : PySem.W.typeIn K (.ref f_Log___init__) = some (.type "function"))
    (fn_Log___init__ : PySem.W.isFn K (.ref f_Log___init__) = true)
    (a_is_name : PySem.W.nsIn K mainGlobals "is_name" = some (some (.ref f_is_name)))
    (l_is_name : K.lookup f_is_name = some ⟨oc_is_name, od_is_name, .func (PySem.W.fnOf "is_name" "is_name" (defArgs s_is_name) (defBody s_is_name) (defScope s_is_name) .none kV_is_name dc_is_name pm_is_name an_is_name cd_is_name ct_is_name), sl_is_name⟩)
    (c_is_name : PySem.W.codeIn K cd_is_name "is_name" = true)
    (k_is_name : PySem.W.keepIn K (.ref f_is_name) = true)
    (a_NoMark___init__ : PySem.W.findIn K (.ref C_NoMark) "__init__" = some (some (.ref f_NoMark___init__)))
    (l_NoMark___init__ : K.lookup f_NoMark___init__ = some ⟨oc_NoMark___init__, od_NoMark___init__, .func (PySem.W.fnOf "__init__" "NoMark.__init__" (defArgs s_NoMark___init__) (defBody s_NoMark___init__) (defScope s_NoMark___init__) .none kV_NoMark___init__ dc_NoMark___init__ pm_NoMark___init__ an_NoMark___init__ cd_NoMark___init__ ct_NoMark___init__), sl_NoMark___init__⟩)
    (c_NoMark___init__ : PySem.W.codeIn K cd_NoMark___init__ "NoMark.__init__" = true)
    (k_NoMark___init__ : PySem.W.keepIn K (.ref f_NoMark___init__) = true)
    (u_NoMark___init__ : PySem.W.typeIn K (.ref f_NoMark___init__) = some (.type "function"))
    (fn_NoMark___init__ : PySem.W.isFn K (.ref f_NoMark___init__) = true)
    (a_Log_mark : PySem.W.findIn K (.ref C_Log) "mark" = some (some (.ref f_Log_mark)))
    (l_Log_mark : K.lookup f_Log_mark = some ⟨oc_Log_mark, od_Log_mark, .func (PySem.W.fnOf "mark" "Log.mark" (defArgs s_Log_mark) (defBody s_Log_mark) (defScope s_Log_mark) .none kV_Log_mark dc_Log_mark pm_Log_mark an_Log_mark cd_Log_mark ct_Log_mark), sl_Log_mark⟩)
    (c_Log_mark : PySem.W.codeIn K cd_Log_mark "Log.mark" = true)
    (k_Log_mark : PySem.W.keepIn K (.ref f_Log_mark) = true)
    (u_Log_mark : PySem.W.typeIn K (.ref f_Log_mark) = some (.type "function"))
    (fn_Log_mark : PySem.W.isFn K (.ref f_Log_mark) = true)
    (a_is_row_within : PySem.W.nsIn K mainGlobals "is_row_within" = some (some (.ref f_is_row_within)))
    (l_is_row_within : K.lookup f_is_row_within = some ⟨oc_is_row_within, od_is_row_within, .func (PySem.W.fnOf "is_row_within" "is_row_within" (defArgs s_is_row_within) (defBody s_is_row_within) (defScope s_is_row_within) .none kV_is_row_within dc_is_row_within pm_is_row_within an_is_row_within cd_is_row_within ct_is_row_within), sl_is_row_within⟩)
    (c_is_row_within : PySem.W.codeIn K cd_is_row_within "is_row_within" = true)
    (k_is_row_within : PySem.W.keepIn K (.ref f_is_row_within) = true)
    (a_is_row : PySem.W.nsIn K mainGlobals "is_row" = some (some (.ref f_is_row)))
    (l_is_row : K.lookup f_is_row = some ⟨oc_is_row, od_is_row, .func (PySem.W.fnOf "is_row" "is_row" (defArgs s_is_row) (defBody s_is_row) (defScope s_is_row) .none kV_is_row dc_is_row pm_is_row an_is_row cd_is_row ct_is_row), sl_is_row⟩)
    (c_is_row : PySem.W.codeIn K cd_is_row "is_row" = true)
    (k_is_row : PySem.W.keepIn K (.ref f_is_row) = true)
    (a_look_at_row : PySem.W.nsIn K mainGlobals "look_at_row" = some (some (.ref f_look_at_row)))
    (l_look_at_row : K.lookup f_look_at_row = some ⟨oc_look_at_row, od_look_at_row, .func (PySem.W.fnOf "look_at_row" "look_at_row" (defArgs s_look_at_row) (defBody s_look_at_row) (defScope s_look_at_row) .none kV_look_at_row dc_look_at_row pm_look_at_row an_look_at_row cd_look_at_row ct_look_at_row), sl_look_at_row⟩)
    (c_look_at_row : PySem.W.codeIn K cd_look_at_row "look_at_row" = true)
    (k_look_at_row : PySem.W.keepIn K (.ref f_look_at_row) = true)
    (a_Full___init__ : PySem.W.findIn K (.ref C_Full) "__init__" = some (some (.ref f_Full___init__)))
    (l_Full___init__ : K.lookup f_Full___init__ = some ⟨oc_Full___init__, od_Full___init__, .func (PySem.W.fnOf "__init__" "Full.__init__" (defArgs s_Full___init__) (defBody s_Full___init__) (defScope s_Full___init__) .none kV_Full___init__ dc_Full___init__ pm_Full___init__ an_Full___init__ cd_Full___init__ ct_Full___init__), sl_Full___init__⟩)
    (c_Full___init__ : PySem.W.codeIn K cd_Full___init__ "Full.__init__" = true)
    (k_Full___init__ : PySem.W.keepIn K (.ref f_Full___init__) = true)
    (u_Full___init__ : PySem.W.typeIn K (.ref f_Full___init__) = some (.type "function"))
    (fn_Full___init__ : PySem.W.isFn K (.ref f_Full___init__) = true)
    (a_contrary_sign : PySem.W.nsIn K mainGlobals "contrary_sign" = some (some (.ref f_contrary_sign)))
    (l_contrary_sign : K.lookup f_contrary_sign = some ⟨oc_contrary_sign, od_contrary_sign, .func (PySem.W.fnOf "contrary_sign" "contrary_sign" (defArgs s_contrary_sign) (defBody s_contrary_sign) (defScope s_contrary_sign) .none kV_contrary_sign dc_contrary_sign pm_contrary_sign an_contrary_sign cd_contrary_sign ct_contrary_sign), sl_contrary_sign⟩)
    (c_contrary_sign : PySem.W.codeIn K cd_contrary_sign "contrary_sign" = true)
    (k_contrary_sign : PySem.W.keepIn K (.ref f_contrary_sign) = true)
    (a_made_plain : PySem.W.nsIn K mainGlobals "made_plain" = some (some (.ref f_made_plain)))
    (l_made_plain : K.lookup f_made_plain = some ⟨oc_made_plain, od_made_plain, .func (PySem.W.fnOf "made_plain" "made_plain" (defArgs s_made_plain) (defBody s_made_plain) (defScope s_made_plain) .none kV_made_plain dc_made_plain pm_made_plain an_made_plain cd_made_plain ct_made_plain), sl_made_plain⟩)
    (c_made_plain : PySem.W.codeIn K cd_made_plain "made_plain" = true)
    (k_made_plain : PySem.W.keepIn K (.ref f_made_plain) = true)
    (a_Log_look_at_room : PySem.W.findIn K (.ref C_Log) "look_at_room" = some (some (.ref f_Log_look_at_room)))
    (l_Log_look_at_room : K.lookup f_Log_look_at_room = some ⟨oc_Log_look_at_room, od_Log_look_at_room, .func (PySem.W.fnOf "look_at_room" "Log.look_at_room" (defArgs s_Log_look_at_room) (defBody s_Log_look_at_room) (defScope s_Log_look_at_room) .none kV_Log_look_at_room dc_Log_look_at_room pm_Log_look_at_room an_Log_look_at_room cd_Log_look_at_room ct_Log_look_at_room), sl_Log_look_at_room⟩)
    (c_Log_look_at_room : PySem.W.codeIn K cd_Log_look_at_room "Log.look_at_room" = true)
    (k_Log_look_at_room : PySem.W.keepIn K (.ref f_Log_look_at_room) = true)
    (u_Log_look_at_room : PySem.W.typeIn K (.ref f_Log_look_at_room) = some (.type "function"))
    (fn_Log_look_at_room : PySem.W.isFn K (.ref f_Log_look_at_room) = true)
    (a_Log_put : PySem.W.findIn K (.ref C_Log) "put" = some (some (.ref f_Log_put)))
    (l_Log_put : K.lookup f_Log_put = some ⟨oc_Log_put, od_Log_put, .func (PySem.W.fnOf "put" "Log.put" (defArgs s_Log_put) (defBody s_Log_put) (defScope s_Log_put) .none kV_Log_put dc_Log_put pm_Log_put an_Log_put cd_Log_put ct_Log_put), sl_Log_put⟩)
    (c_Log_put : PySem.W.codeIn K cd_Log_put "Log.put" = true)
    (k_Log_put : PySem.W.keepIn K (.ref f_Log_put) = true)
    (u_Log_put : PySem.W.typeIn K (.ref f_Log_put) = some (.type "function"))
    (fn_Log_put : PySem.W.isFn K (.ref f_Log_put) = true)
    (a_Log_do : PySem.W.findIn K (.ref C_Log) "do" = some (some (.ref f_Log_do)))
    (l_Log_do : K.lookup f_Log_do = some ⟨oc_Log_do, od_Log_do, .func (PySem.W.fnOf "do" "Log.do" (defArgs s_Log_do) (defBody s_Log_do) (defScope s_Log_do) .none kV_Log_do dc_Log_do pm_Log_do an_Log_do cd_Log_do ct_Log_do), sl_Log_do⟩)
    (c_Log_do : PySem.W.codeIn K cd_Log_do "Log.do" = true)
    (k_Log_do : PySem.W.keepIn K (.ref f_Log_do) = true)
    (u_Log_do : PySem.W.typeIn K (.ref f_Log_do) = some (.type "function"))
    (fn_Log_do : PySem.W.isFn K (.ref f_Log_do) = true)
    (a_Log_row : PySem.W.findIn K (.ref C_Log) "row" = some (some (.ref f_Log_row)))
    (l_Log_row : K.lookup f_Log_row = some ⟨oc_Log_row, od_Log_row, .func (PySem.W.fnOf "row" "Log.row" (defArgs s_Log_row) (defBody s_Log_row) (defScope s_Log_row) .none kV_Log_row dc_Log_row pm_Log_row an_Log_row cd_Log_row ct_Log_row), sl_Log_row⟩)
    (c_Log_row : PySem.W.codeIn K cd_Log_row "Log.row" = true)
    (k_Log_row : PySem.W.keepIn K (.ref f_Log_row) = true)
    (u_Log_row : PySem.W.typeIn K (.ref f_Log_row) = some (.type "function"))
    (fn_Log_row : PySem.W.isFn K (.ref f_Log_row) = true)
    (a_Log_standing : PySem.W.findIn K (.ref C_Log) "standing" = some (some (.ref f_Log_standing)))
    (l_Log_standing : K.lookup f_Log_standing = some ⟨oc_Log_standing, od_Log_standing, .func (PySem.W.fnOf "standing" "Log.standing" (defArgs s_Log_standing) (defBody s_Log_standing) (defScope s_Log_standing) .none kV_Log_standing dc_Log_standing pm_Log_standing an_Log_standing cd_Log_standing ct_Log_standing), sl_Log_standing⟩)
    (c_Log_standing : PySem.W.codeIn K cd_Log_standing "Log.standing" = true)
    (k_Log_standing : PySem.W.keepIn K (.ref f_Log_standing) = true)
    (u_Log_standing : PySem.W.typeIn K (.ref f_Log_standing) = some (.type "function"))
    (fn_Log_standing : PySem.W.isFn K (.ref f_Log_standing) = true)
    (a_Log_marks : PySem.W.findIn K (.ref C_Log) "marks" = some (some (.ref f_Log_marks)))
    (l_Log_marks : K.lookup f_Log_marks = some ⟨oc_Log_marks, od_Log_marks, .func (PySem.W.fnOf "marks" "Log.marks" (defArgs s_Log_marks) (defBody s_Log_marks) (defScope s_Log_marks) .none kV_Log_marks dc_Log_marks pm_Log_marks an_Log_marks cd_Log_marks ct_Log_marks), sl_Log_marks⟩)
    (c_Log_marks : PySem.W.codeIn K cd_Log_marks "Log.marks" = true)
    (k_Log_marks : PySem.W.keepIn K (.ref f_Log_marks) = true)
    (u_Log_marks : PySem.W.typeIn K (.ref f_Log_marks) = some (.type "function"))
    (fn_Log_marks : PySem.W.isFn K (.ref f_Log_marks) = true)
    (a_Log___len__ : PySem.W.findIn K (.ref C_Log) "__len__" = some (some (.ref f_Log___len__)))
    (l_Log___len__ : K.lookup f_Log___len__ = some ⟨oc_Log___len__, od_Log___len__, .func (PySem.W.fnOf "__len__" "Log.__len__" (defArgs s_Log___len__) (defBody s_Log___len__) (defScope s_Log___len__) .none kV_Log___len__ dc_Log___len__ pm_Log___len__ an_Log___len__ cd_Log___len__ ct_Log___len__), sl_Log___len__⟩)
    (c_Log___len__ : PySem.W.codeIn K cd_Log___len__ "Log.__len__" = true)
    (k_Log___len__ : PySem.W.keepIn K (.ref f_Log___len__) = true)
    (u_Log___len__ : PySem.W.typeIn K (.ref f_Log___len__) = some (.type "function"))
    (fn_Log___len__ : PySem.W.isFn K (.ref f_Log___len__) = true)
    (a_is_plain_row : PySem.W.nsIn K mainGlobals "is_plain_row" = some (some (.ref f_is_plain_row)))
    (l_is_plain_row : K.lookup f_is_plain_row = some ⟨oc_is_plain_row, od_is_plain_row, .func (PySem.W.fnOf "is_plain_row" "is_plain_row" (defArgs s_is_plain_row) (defBody s_is_plain_row) (defScope s_is_plain_row) .none kV_is_plain_row dc_is_plain_row pm_is_plain_row an_is_plain_row cd_is_plain_row ct_is_plain_row), sl_is_plain_row⟩)
    (c_is_plain_row : PySem.W.codeIn K cd_is_plain_row "is_plain_row" = true)
    (k_is_plain_row : PySem.W.keepIn K (.ref f_is_plain_row) = true)
    (a_first_wrong : PySem.W.nsIn K mainGlobals "first_wrong" = some (some (.ref f_first_wrong)))
    (l_first_wrong : K.lookup f_first_wrong = some ⟨oc_first_wrong, od_first_wrong, .func (PySem.W.fnOf "first_wrong" "first_wrong" (defArgs s_first_wrong) (defBody s_first_wrong) (defScope s_first_wrong) .none kV_first_wrong dc_first_wrong pm_first_wrong an_first_wrong cd_first_wrong ct_first_wrong), sl_first_wrong⟩)
    (c_first_wrong : PySem.W.codeIn K cd_first_wrong "first_wrong" = true)
    (k_first_wrong : PySem.W.keepIn K (.ref f_first_wrong) = true)
    (a_rank : PySem.W.nsIn K mainGlobals "rank" = some (some (.ref f_rank)))
    (l_rank : K.lookup f_rank = some ⟨oc_rank, od_rank, .func (PySem.W.fnOf "rank" "rank" (defArgs s_rank) (defBody s_rank) (defScope s_rank) .none kV_rank dc_rank pm_rank an_rank cd_rank ct_rank), sl_rank⟩)
    (c_rank : PySem.W.codeIn K cd_rank "rank" = true)
    (k_rank : PySem.W.keepIn K (.ref f_rank) = true)
    (a_Walk___init__ : PySem.W.findIn K (.ref C_Walk) "__init__" = some (some (.ref f_Walk___init__)))
    (l_Walk___init__ : K.lookup f_Walk___init__ = some ⟨oc_Walk___init__, od_Walk___init__, .func (PySem.W.fnOf "__init__" "Walk.__init__" (defArgs s_Walk___init__) (defBody s_Walk___init__) (defScope s_Walk___init__) (.ref T_Walk___init__) kV_Walk___init__ dc_Walk___init__ pm_Walk___init__ an_Walk___init__ cd_Walk___init__ ct_Walk___init__), sl_Walk___init__⟩)
    (t_Walk___init__ : K.lookup T_Walk___init__ = some ⟨tc_Walk___init__, tdd_Walk___init__, .seq #[.none, .str "" td1_Walk___init__] tn_Walk___init__, ts_Walk___init__⟩)
    (c_Walk___init__ : PySem.W.codeIn K cd_Walk___init__ "Walk.__init__" = true)
    (k_Walk___init__ : PySem.W.keepIn K (.ref f_Walk___init__) = true)
    (u_Walk___init__ : PySem.W.typeIn K (.ref f_Walk___init__) = some (.type "function"))
    (fn_Walk___init__ : PySem.W.isFn K (.ref f_Walk___init__) = true)
    (a_Log_walk : PySem.W.findIn K (.ref C_Log) "walk" = some (some (.ref f_Log_walk)))
    (l_Log_walk : K.lookup f_Log_walk = some ⟨oc_Log_walk, od_Log_walk, .func (PySem.W.fnOf "walk" "Log.walk" (defArgs s_Log_walk) (defBody s_Log_walk) (defScope s_Log_walk) .none kV_Log_walk dc_Log_walk pm_Log_walk an_Log_walk cd_Log_walk ct_Log_walk), sl_Log_walk⟩)
    (c_Log_walk : PySem.W.codeIn K cd_Log_walk "Log.walk" = true)
    (k_Log_walk : PySem.W.keepIn K (.ref f_Log_walk) = true)
    (u_Log_walk : PySem.W.typeIn K (.ref f_Log_walk) = some (.type "function"))
    (fn_Log_walk : PySem.W.isFn K (.ref f_Log_walk) = true)
    (a_named : PySem.W.nsIn K mainGlobals "named" = some (some (.ref f_named)))
    (l_named : K.lookup f_named = some ⟨oc_named, od_named, .func (PySem.W.fnOf "named" "named" (defArgs s_named) (defBody s_named) (defScope s_named) .none kV_named dc_named pm_named an_named cd_named ct_named), sl_named⟩)
    (c_named : PySem.W.codeIn K cd_named "named" = true)
    (k_named : PySem.W.keepIn K (.ref f_named) = true)
    (a_Walk___str__ : PySem.W.findIn K (.ref C_Walk) "__str__" = some (some (.ref f_Walk___str__)))
    (l_Walk___str__ : K.lookup f_Walk___str__ = some ⟨oc_Walk___str__, od_Walk___str__, .func (PySem.W.fnOf "__str__" "Walk.__str__" (defArgs s_Walk___str__) (defBody s_Walk___str__) (defScope s_Walk___str__) .none kV_Walk___str__ dc_Walk___str__ pm_Walk___str__ an_Walk___str__ cd_Walk___str__ ct_Walk___str__), sl_Walk___str__⟩)
    (c_Walk___str__ : PySem.W.codeIn K cd_Walk___str__ "Walk.__str__" = true)
    (k_Walk___str__ : PySem.W.keepIn K (.ref f_Walk___str__) = true)
    (u_Walk___str__ : PySem.W.typeIn K (.ref f_Walk___str__) = some (.type "function"))
    (fn_Walk___str__ : PySem.W.isFn K (.ref f_Walk___str__) = true)
    (a_Walk_end : PySem.W.findIn K (.ref C_Walk) "end" = some (some (.ref f_Walk_end)))
    (l_Walk_end : K.lookup f_Walk_end = some ⟨oc_Walk_end, od_Walk_end, .func (PySem.W.fnOf "end" "Walk.end" (defArgs s_Walk_end) (defBody s_Walk_end) (defScope s_Walk_end) .none kV_Walk_end dc_Walk_end pm_Walk_end an_Walk_end cd_Walk_end ct_Walk_end), sl_Walk_end⟩)
    (c_Walk_end : PySem.W.codeIn K cd_Walk_end "Walk.end" = true)
    (k_Walk_end : PySem.W.keepIn K (.ref f_Walk_end) = true)
    (u_Walk_end : PySem.W.typeIn K (.ref f_Walk_end) = some (.type "function"))
    (fn_Walk_end : PySem.W.isFn K (.ref f_Walk_end) = true)
    (a_Walk_places : PySem.W.findIn K (.ref C_Walk) "places" = some (some (.ref f_Walk_places)))
    (l_Walk_places : K.lookup f_Walk_places = some ⟨oc_Walk_places, od_Walk_places, .func (PySem.W.fnOf "places" "Walk.places" (defArgs s_Walk_places) (defBody s_Walk_places) (defScope s_Walk_places) .none kV_Walk_places dc_Walk_places pm_Walk_places an_Walk_places cd_Walk_places ct_Walk_places), sl_Walk_places⟩)
    (c_Walk_places : PySem.W.codeIn K cd_Walk_places "Walk.places" = true)
    (k_Walk_places : PySem.W.keepIn K (.ref f_Walk_places) = true)
    (u_Walk_places : PySem.W.typeIn K (.ref f_Walk_places) = some (.type "function"))
    (fn_Walk_places : PySem.W.isFn K (.ref f_Walk_places) = true)
    (a_Rounds___init__ : PySem.W.findIn K (.ref C_Rounds) "__init__" = some (some (.ref f_Rounds___init__)))
    (l_Rounds___init__ : K.lookup f_Rounds___init__ = some ⟨oc_Rounds___init__, od_Rounds___init__, .func (PySem.W.fnOf "__init__" "Rounds.__init__" (defArgs s_Rounds___init__) (defBody s_Rounds___init__) (defScope s_Rounds___init__) .none kV_Rounds___init__ dc_Rounds___init__ pm_Rounds___init__ an_Rounds___init__ cd_Rounds___init__ ct_Rounds___init__), sl_Rounds___init__⟩)
    (c_Rounds___init__ : PySem.W.codeIn K cd_Rounds___init__ "Rounds.__init__" = true)
    (k_Rounds___init__ : PySem.W.keepIn K (.ref f_Rounds___init__) = true)
    (u_Rounds___init__ : PySem.W.typeIn K (.ref f_Rounds___init__) = some (.type "function"))
    (fn_Rounds___init__ : PySem.W.isFn K (.ref f_Rounds___init__) = true)
    (a_Rounds_rest_many : PySem.W.findIn K (.ref C_Rounds) "rest_many" = some (some (.ref f_Rounds_rest_many)))
    (l_Rounds_rest_many : K.lookup f_Rounds_rest_many = some ⟨oc_Rounds_rest_many, od_Rounds_rest_many, .func (PySem.W.fnOf "rest_many" "Rounds.rest_many" (defArgs s_Rounds_rest_many) (defBody s_Rounds_rest_many) (defScope s_Rounds_rest_many) .none kV_Rounds_rest_many dc_Rounds_rest_many pm_Rounds_rest_many an_Rounds_rest_many cd_Rounds_rest_many ct_Rounds_rest_many), sl_Rounds_rest_many⟩)
    (c_Rounds_rest_many : PySem.W.codeIn K cd_Rounds_rest_many "Rounds.rest_many" = true)
    (k_Rounds_rest_many : PySem.W.keepIn K (.ref f_Rounds_rest_many) = true)
    (u_Rounds_rest_many : PySem.W.typeIn K (.ref f_Rounds_rest_many) = some (.type "function"))
    (fn_Rounds_rest_many : PySem.W.isFn K (.ref f_Rounds_rest_many) = true)
    (a_is_whole : PySem.W.nsIn K mainGlobals "is_whole" = some (some (.ref f_is_whole)))
    (l_is_whole : K.lookup f_is_whole = some ⟨oc_is_whole, od_is_whole, .func (PySem.W.fnOf "is_whole" "is_whole" (defArgs s_is_whole) (defBody s_is_whole) (defScope s_is_whole) .none kV_is_whole dc_is_whole pm_is_whole an_is_whole cd_is_whole ct_is_whole), sl_is_whole⟩)
    (c_is_whole : PySem.W.codeIn K cd_is_whole "is_whole" = true)
    (k_is_whole : PySem.W.keepIn K (.ref f_is_whole) = true)
    (a_Walk___len__ : PySem.W.findIn K (.ref C_Walk) "__len__" = some (some (.ref f_Walk___len__)))
    (l_Walk___len__ : K.lookup f_Walk___len__ = some ⟨oc_Walk___len__, od_Walk___len__, .func (PySem.W.fnOf "__len__" "Walk.__len__" (defArgs s_Walk___len__) (defBody s_Walk___len__) (defScope s_Walk___len__) .none kV_Walk___len__ dc_Walk___len__ pm_Walk___len__ an_Walk___len__ cd_Walk___len__ ct_Walk___len__), sl_Walk___len__⟩)
    (c_Walk___len__ : PySem.W.codeIn K cd_Walk___len__ "Walk.__len__" = true)
    (k_Walk___len__ : PySem.W.keepIn K (.ref f_Walk___len__) = true)
    (u_Walk___len__ : PySem.W.typeIn K (.ref f_Walk___len__) = some (.type "function"))
    (fn_Walk___len__ : PySem.W.isFn K (.ref f_Walk___len__) = true)
    (a_signs_many : PySem.W.nsIn K mainGlobals "signs_many" = some (some (.ref f_signs_many)))
    (l_signs_many : K.lookup f_signs_many = some ⟨oc_signs_many, od_signs_many, .func (PySem.W.fnOf "signs_many" "signs_many" (defArgs s_signs_many) (defBody s_signs_many) (defScope s_signs_many) .none kV_signs_many dc_signs_many pm_signs_many an_signs_many cd_signs_many ct_signs_many), sl_signs_many⟩)
    (c_signs_many : PySem.W.codeIn K cd_signs_many "signs_many" = true)
    (k_signs_many : PySem.W.keepIn K (.ref f_signs_many) = true)
    (a_Rounds_home : PySem.W.findIn K (.ref C_Rounds) "home" = some (some (.ref f_Rounds_home)))
    (l_Rounds_home : K.lookup f_Rounds_home = some ⟨oc_Rounds_home, od_Rounds_home, .func (PySem.W.fnOf "home" "Rounds.home" (defArgs s_Rounds_home) (defBody s_Rounds_home) (defScope s_Rounds_home) .none kV_Rounds_home dc_Rounds_home pm_Rounds_home an_Rounds_home cd_Rounds_home ct_Rounds_home), sl_Rounds_home⟩)
    (c_Rounds_home : PySem.W.codeIn K cd_Rounds_home "Rounds.home" = true)
    (k_Rounds_home : PySem.W.keepIn K (.ref f_Rounds_home) = true)
    (u_Rounds_home : PySem.W.typeIn K (.ref f_Rounds_home) = some (.type "function"))
    (fn_Rounds_home : PySem.W.isFn K (.ref f_Rounds_home) = true)
    (a_Rounds_choices : PySem.W.findIn K (.ref C_Rounds) "choices" = some (some (.ref f_Rounds_choices)))
    (l_Rounds_choices : K.lookup f_Rounds_choices = some ⟨oc_Rounds_choices, od_Rounds_choices, .func (PySem.W.fnOf "choices" "Rounds.choices" (defArgs s_Rounds_choices) (defBody s_Rounds_choices) (defScope s_Rounds_choices) .none kV_Rounds_choices dc_Rounds_choices pm_Rounds_choices an_Rounds_choices cd_Rounds_choices ct_Rounds_choices), sl_Rounds_choices⟩)
    (c_Rounds_choices : PySem.W.codeIn K cd_Rounds_choices "Rounds.choices" = true)
    (k_Rounds_choices : PySem.W.keepIn K (.ref f_Rounds_choices) = true)
    (u_Rounds_choices : PySem.W.typeIn K (.ref f_Rounds_choices) = some (.type "function"))
    (fn_Rounds_choices : PySem.W.isFn K (.ref f_Rounds_choices) = true)
    (a_Rounds_go_on : PySem.W.findIn K (.ref C_Rounds) "go_on" = some (some (.ref f_Rounds_go_on)))
    (l_Rounds_go_on : K.lookup f_Rounds_go_on = some ⟨oc_Rounds_go_on, od_Rounds_go_on, .func (PySem.W.fnOf "go_on" "Rounds.go_on" (defArgs s_Rounds_go_on) (defBody s_Rounds_go_on) (defScope s_Rounds_go_on) .none kV_Rounds_go_on dc_Rounds_go_on pm_Rounds_go_on an_Rounds_go_on cd_Rounds_go_on ct_Rounds_go_on), sl_Rounds_go_on⟩)
    (c_Rounds_go_on : PySem.W.codeIn K cd_Rounds_go_on "Rounds.go_on" = true)
    (k_Rounds_go_on : PySem.W.keepIn K (.ref f_Rounds_go_on) = true)
    (u_Rounds_go_on : PySem.W.typeIn K (.ref f_Rounds_go_on) = some (.type "function"))
    (fn_Rounds_go_on : PySem.W.isFn K (.ref f_Rounds_go_on) = true)
    (a_shortest_at : PySem.W.nsIn K mainGlobals "shortest_at" = some (some (.ref f_shortest_at)))
    (l_shortest_at : K.lookup f_shortest_at = some ⟨oc_shortest_at, od_shortest_at, .func (PySem.W.fnOf "shortest_at" "shortest_at" (defArgs s_shortest_at) (defBody s_shortest_at) (defScope s_shortest_at) (.ref T_shortest_at) kV_shortest_at dc_shortest_at pm_shortest_at an_shortest_at cd_shortest_at ct_shortest_at), sl_shortest_at⟩)
    (t_shortest_at : K.lookup T_shortest_at = some ⟨tc_shortest_at, tdd_shortest_at, .seq #[.int 0 td0_shortest_at] tn_shortest_at, ts_shortest_at⟩)
    (c_shortest_at : PySem.W.codeIn K cd_shortest_at "shortest_at" = true)
    (k_shortest_at : PySem.W.keepIn K (.ref f_shortest_at) = true)
    (a_Log_short : PySem.W.findIn K (.ref C_Log) "short" = some (some (.ref f_Log_short)))
    (l_Log_short : K.lookup f_Log_short = some ⟨oc_Log_short, od_Log_short, .func (PySem.W.fnOf "short" "Log.short" (defArgs s_Log_short) (defBody s_Log_short) (defScope s_Log_short) .none kV_Log_short dc_Log_short pm_Log_short an_Log_short cd_Log_short ct_Log_short), sl_Log_short⟩)
    (c_Log_short : PySem.W.codeIn K cd_Log_short "Log.short" = true)
    (k_Log_short : PySem.W.keepIn K (.ref f_Log_short) = true)
    (u_Log_short : PySem.W.typeIn K (.ref f_Log_short) = some (.type "function"))
    (fn_Log_short : PySem.W.isFn K (.ref f_Log_short) = true)
    (a_law_seen : PySem.W.nsIn K mainGlobals "_law_seen" = some (some (.ref f_law_seen)))
    (l_law_seen : K.lookup f_law_seen = some ⟨oc_law_seen, od_law_seen, .func (PySem.W.fnOf "_law_seen" "_law_seen" (defArgs s_law_seen) (defBody s_law_seen) (defScope s_law_seen) .none kV_law_seen dc_law_seen pm_law_seen an_law_seen cd_law_seen ct_law_seen), sl_law_seen⟩)
    (c_law_seen : PySem.W.codeIn K cd_law_seen "_law_seen" = true)
    (k_law_seen : PySem.W.keepIn K (.ref f_law_seen) = true)
    (a_NoBack___init__ : PySem.W.findIn K (.ref C_NoBack) "__init__" = some (some (.ref f_NoBack___init__)))
    (l_NoBack___init__ : K.lookup f_NoBack___init__ = some ⟨oc_NoBack___init__, od_NoBack___init__, .func (PySem.W.fnOf "__init__" "NoBack.__init__" (defArgs s_NoBack___init__) (defBody s_NoBack___init__) (defScope s_NoBack___init__) .none kV_NoBack___init__ dc_NoBack___init__ pm_NoBack___init__ an_NoBack___init__ cd_NoBack___init__ ct_NoBack___init__), sl_NoBack___init__⟩)
    (c_NoBack___init__ : PySem.W.codeIn K cd_NoBack___init__ "NoBack.__init__" = true)
    (k_NoBack___init__ : PySem.W.keepIn K (.ref f_NoBack___init__) = true)
    (u_NoBack___init__ : PySem.W.typeIn K (.ref f_NoBack___init__) = some (.type "function"))
    (fn_NoBack___init__ : PySem.W.isFn K (.ref f_NoBack___init__) = true)
    (a_turned : PySem.W.nsIn K mainGlobals "turned" = some (some (.ref f_turned)))
    (l_turned : K.lookup f_turned = some ⟨oc_turned, od_turned, .func (PySem.W.fnOf "turned" "turned" (defArgs s_turned) (defBody s_turned) (defScope s_turned) .none kV_turned dc_turned pm_turned an_turned cd_turned ct_turned), sl_turned⟩)
    (c_turned : PySem.W.codeIn K cd_turned "turned" = true)
    (k_turned : PySem.W.keepIn K (.ref f_turned) = true)
    (a_Log_back : PySem.W.findIn K (.ref C_Log) "back" = some (some (.ref f_Log_back)))
    (l_Log_back : K.lookup f_Log_back = some ⟨oc_Log_back, od_Log_back, .func (PySem.W.fnOf "back" "Log.back" (defArgs s_Log_back) (defBody s_Log_back) (defScope s_Log_back) (.ref T_Log_back) kV_Log_back dc_Log_back pm_Log_back an_Log_back cd_Log_back ct_Log_back), sl_Log_back⟩)
    (t_Log_back : K.lookup T_Log_back = some ⟨tc_Log_back, tdd_Log_back, .seq #[.int 1 td0_Log_back] tn_Log_back, ts_Log_back⟩)
    (c_Log_back : PySem.W.codeIn K cd_Log_back "Log.back" = true)
    (k_Log_back : PySem.W.keepIn K (.ref f_Log_back) = true)
    (u_Log_back : PySem.W.typeIn K (.ref f_Log_back) = some (.type "function"))
    (fn_Log_back : PySem.W.isFn K (.ref f_Log_back) = true)
    (a_Log_back_to : PySem.W.findIn K (.ref C_Log) "back_to" = some (some (.ref f_Log_back_to)))
    (l_Log_back_to : K.lookup f_Log_back_to = some ⟨oc_Log_back_to, od_Log_back_to, .func (PySem.W.fnOf "back_to" "Log.back_to" (defArgs s_Log_back_to) (defBody s_Log_back_to) (defScope s_Log_back_to) .none kV_Log_back_to dc_Log_back_to pm_Log_back_to an_Log_back_to cd_Log_back_to ct_Log_back_to), sl_Log_back_to⟩)
    (c_Log_back_to : PySem.W.codeIn K cd_Log_back_to "Log.back_to" = true)
    (k_Log_back_to : PySem.W.keepIn K (.ref f_Log_back_to) = true)
    (u_Log_back_to : PySem.W.typeIn K (.ref f_Log_back_to) = some (.type "function"))
    (fn_Log_back_to : PySem.W.isFn K (.ref f_Log_back_to) = true)
    (a_law_told : PySem.W.nsIn K mainGlobals "_law_told" = some (some (.ref f_law_told)))
    (l_law_told : K.lookup f_law_told = some ⟨oc_law_told, od_law_told, .func (PySem.W.fnOf "_law_told" "_law_told" (defArgs s_law_told) (defBody s_law_told) (defScope s_law_told) .none kV_law_told dc_law_told pm_law_told an_law_told cd_law_told ct_law_told), sl_law_told⟩)
    (c_law_told : PySem.W.codeIn K cd_law_told "_law_told" = true)
    (k_law_told : PySem.W.keepIn K (.ref f_law_told) = true)
    (a_law : PySem.W.nsIn K mainGlobals "law" = some (some (.ref f_law)))
    (l_law : K.lookup f_law = some ⟨oc_law, od_law, .func (PySem.W.fnOf "law" "law" (defArgs s_law) (defBody s_law) (defScope s_law) .none kV_law dc_law pm_law an_law cd_law ct_law), sl_law⟩)
    (c_law : PySem.W.codeIn K cd_law "law" = true)
    (k_law : PySem.W.keepIn K (.ref f_law) = true) :
    ∃ fd : FuncData, (∀ (s : Shared) (v : Value), BindsTo s fd ⟨[v], []⟩ [("_law_script", v)]) ∧ ∀ base : Heap, K.In base → base.Ns mainGlobals mg → FnOk l.prog w K mg base CX0 10 fa fd ["_law_script"] (sp_law K) := by
  have e := hfa.symm.trans (PySem.W.mg_of X G a_law)
  cases e
  have T : Txt K mg C_Full C_Log C_NoBack C_NoMark C_NoRow C_Rounds C_Walk := ⟨PySem.W.mg_none_of X G z_ArithmeticError, PySem.W.mg_none_of X G z_KeyError, PySem.W.mg_none_of X G z_OverflowError, PySem.W.mg_none_of X G z_all, PySem.W.mg_none_of X G z_bool, PySem.W.mg_none_of X G z_dict, PySem.W.mg_none_of X G z_divmod, PySem.W.mg_none_of X G z_enumerate, PySem.W.mg_none_of X G z_int, PySem.W.mg_none_of X G z_isinstance, PySem.W.mg_none_of X G z_len, PySem.W.mg_none_of X G z_list, PySem.W.mg_none_of X G z_max, PySem.W.mg_none_of X G z_min, PySem.W.mg_none_of X G z_range, PySem.W.mg_none_of X G z_sorted, PySem.W.mg_none_of X G z_str, PySem.W.mg_none_of X G z_tuple, ⟨_, PySem.W.mg_of X G n_LETTERS, ⟨_, rfl⟩⟩, ⟨_, PySem.W.mg_of X G n_MOST_LONG, ⟨_, rfl⟩⟩, ⟨_, PySem.W.mg_of X G n_MOST_PLACES, ⟨_, rfl⟩⟩, ⟨_, PySem.W.mg_of X G n_MOST_SIGNS, ⟨_, rfl⟩⟩, ⟨_, PySem.W.mg_of X G n_SIGNS, ⟨_, rfl⟩⟩, w_ArithmeticError, w_KeyError, w_OverflowError, y_Full_size, y_Log_own_end, y_Log_own_known, y_Log_own_marks, y_Log_own_open, y_Log_own_text, y_NoBack_many, y_NoMark_name, y_Rounds_own_end, y_Rounds_own_here, y_Rounds_own_left, y_Walk_own_end, y_Walk_own_places, ⟨PySem.W.mg_of X G aC_Full, ⟨PySem.XB0.XB.of PySem.F.excBase_OverflowError, PySem.F.store_OverflowError, xC_Full, oC_Full, hd_Full, sa_Full, bC_Full, tC_Full, kC_Full⟩, iC_Full, sC_Full, ⟨hg_Full, hk_Full, bC_Full, hd_Full, ha_Full, hn, ht, hm_Full⟩, ⟨hg_Full, hk_Full, bC_Full, hd_Full⟩⟩, ⟨PySem.W.mg_of X G aC_NoBack, ⟨PySem.XB0.XB.of PySem.F.excBase_ArithmeticError, PySem.F.store_ArithmeticError, xC_NoBack, oC_NoBack, hd_NoBack, sa_NoBack, bC_NoBack, tC_NoBack, kC_NoBack⟩, iC_NoBack, sC_NoBack, ⟨hg_NoBack, hk_NoBack, bC_NoBack, hd_NoBack, ha_NoBack, hn, ht, hm_NoBack⟩, ⟨hg_NoBack, hk_NoBack, bC_NoBack, hd_NoBack⟩⟩, ⟨PySem.W.mg_of X G aC_NoMark, ⟨PySem.XB0.xb_KeyError, PySem.XB0.st_KeyError, xC_NoMark, oC_NoMark, hd_NoMark, sa_NoMark, bC_NoMark, tC_NoMark, kC_NoMark⟩, iC_NoMark, sC_NoMark, ⟨hg_NoMark, hk_NoMark, bC_NoMark, hd_NoMark, ha_NoMark, hn, ht, hm_NoMark⟩, ⟨hg_NoMark, hk_NoMark, bC_NoMark, hd_NoMark⟩⟩, ⟨PySem.W.mg_of X G aC_NoRow, xC_NoRow, kC_NoRow, bC_NoRow, tC_NoRow, iC_NoRow, sC_NoRow, ⟨hg_NoRow, hk_NoRow, bC_NoRow, hd_NoRow, ha_NoRow, hn, ht, hm_NoRow⟩⟩, ⟨PySem.W.mg_of X G aC_Log, ⟨pg_Log, hd_Log, po_Log, sa_Log⟩, mk_Log, kC_Log⟩, ⟨PySem.W.mg_of X G aC_Rounds, ⟨pg_Rounds, hd_Rounds, po_Rounds, sa_Rounds⟩, mk_Rounds, kC_Rounds⟩, ⟨PySem.W.mg_of X G aC_Walk, ⟨pg_Walk, hd_Walk, po_Walk, sa_Walk⟩, mk_Walk, kC_Walk⟩, f_b3, f_m4, f_w1, f_w2, f_w3, f_w4, f_ob_Walk, f_ne_Walk, f_oi, f_ot, f_l1, f_ob_Log, f_ne_Log, f_lo, f_lt, f_sub_Walk_Log, f_ll, f_fo⟩
  have F_law_pool := fun_mk (st := s_law_pool) l_law_pool c_law_pool k_law_pool
  have b_law_pool := F_law_pool.binds (ps := ["_law_script", "_law_k"]) fun _ _ _ _ _ _ us hl => match us, hl with | [_, _], _ => rfl
  have F_law_take := fun_mk (st := s_law_take) l_law_take c_law_take k_law_take
  have b_law_take := F_law_take.binds (ps := ["_law_pool_here", "_law_many"]) fun _ _ _ _ _ _ us hl => match us, hl with | [_, _], _ => rfl
  have F_Log___init__ := fun_mk (st := s_Log___init__) l_Log___init__ c_Log___init__ k_Log___init__
  have b_Log___init__ := F_Log___init__.binds (ps := ["self"]) fun _ _ _ _ _ _ us hl => match us, hl with | [_], _ => rfl
  have F_is_name := fun_mk (st := s_is_name) l_is_name c_is_name k_is_name
  have b_is_name := F_is_name.binds (ps := ["thing"]) fun _ _ _ _ _ _ us hl => match us, hl with | [_], _ => rfl
  have F_NoMark___init__ := fun_mk (st := s_NoMark___init__) l_NoMark___init__ c_NoMark___init__ k_NoMark___init__
  have b_NoMark___init__ := F_NoMark___init__.binds (ps := ["self", "name"]) fun _ _ _ _ _ _ us hl => match us, hl with | [_, _], _ => rfl
  have F_Log_mark := fun_mk (st := s_Log_mark) l_Log_mark c_Log_mark k_Log_mark
  have b_Log_mark := F_Log_mark.binds (ps := ["self", "name"]) fun _ _ _ _ _ _ us hl => match us, hl with | [_, _], _ => rfl
  have F_is_row_within := fun_mk (st := s_is_row_within) l_is_row_within c_is_row_within k_is_row_within
  have b_is_row_within := F_is_row_within.binds (ps := ["thing", "most"]) fun _ _ _ _ _ _ us hl => match us, hl with | [_, _], _ => rfl
  have F_is_row := fun_mk (st := s_is_row) l_is_row c_is_row k_is_row
  have b_is_row := F_is_row.binds (ps := ["thing"]) fun _ _ _ _ _ _ us hl => match us, hl with | [_], _ => rfl
  have F_look_at_row := fun_mk (st := s_look_at_row) l_look_at_row c_look_at_row k_look_at_row
  have b_look_at_row := F_look_at_row.binds (ps := ["thing"]) fun _ _ _ _ _ _ us hl => match us, hl with | [_], _ => rfl
  have F_Full___init__ := fun_mk (st := s_Full___init__) l_Full___init__ c_Full___init__ k_Full___init__
  have b_Full___init__ := F_Full___init__.binds (ps := ["self", "size"]) fun _ _ _ _ _ _ us hl => match us, hl with | [_, _], _ => rfl
  have F_contrary_sign := fun_mk (st := s_contrary_sign) l_contrary_sign c_contrary_sign k_contrary_sign
  have b_contrary_sign := F_contrary_sign.binds (ps := ["sign"]) fun _ _ _ _ _ _ us hl => match us, hl with | [_], _ => rfl
  have F_made_plain := fun_mk (st := s_made_plain) l_made_plain c_made_plain k_made_plain
  have b_made_plain := F_made_plain.binds (ps := ["text"]) fun _ _ _ _ _ _ us hl => match us, hl with | [_], _ => rfl
  have F_Log_look_at_room := fun_mk (st := s_Log_look_at_room) l_Log_look_at_room c_Log_look_at_room k_Log_look_at_room
  have b_Log_look_at_room := F_Log_look_at_room.binds (ps := ["self", "text"]) fun _ _ _ _ _ _ us hl => match us, hl with | [_, _], _ => rfl
  have F_Log_put := fun_mk (st := s_Log_put) l_Log_put c_Log_put k_Log_put
  have b_Log_put := F_Log_put.binds (ps := ["self", "text"]) fun _ _ _ _ _ _ us hl => match us, hl with | [_, _], _ => rfl
  have F_Log_do := fun_mk (st := s_Log_do) l_Log_do c_Log_do k_Log_do
  have b_Log_do := F_Log_do.binds (ps := ["self", "row"]) fun _ _ _ _ _ _ us hl => match us, hl with | [_, _], _ => rfl
  have F_Log_row := fun_mk (st := s_Log_row) l_Log_row c_Log_row k_Log_row
  have b_Log_row := F_Log_row.binds (ps := ["self"]) fun _ _ _ _ _ _ us hl => match us, hl with | [_], _ => rfl
  have F_Log_standing := fun_mk (st := s_Log_standing) l_Log_standing c_Log_standing k_Log_standing
  have b_Log_standing := F_Log_standing.binds (ps := ["self"]) fun _ _ _ _ _ _ us hl => match us, hl with | [_], _ => rfl
  have F_Log_marks := fun_mk (st := s_Log_marks) l_Log_marks c_Log_marks k_Log_marks
  have b_Log_marks := F_Log_marks.binds (ps := ["self"]) fun _ _ _ _ _ _ us hl => match us, hl with | [_], _ => rfl
  have F_Log___len__ := fun_mk (st := s_Log___len__) l_Log___len__ c_Log___len__ k_Log___len__
  have b_Log___len__ := F_Log___len__.binds (ps := ["self"]) fun _ _ _ _ _ _ us hl => match us, hl with | [_], _ => rfl
  have F_is_plain_row := fun_mk (st := s_is_plain_row) l_is_plain_row c_is_plain_row k_is_plain_row
  have b_is_plain_row := F_is_plain_row.binds (ps := ["thing"]) fun _ _ _ _ _ _ us hl => match us, hl with | [_], _ => rfl
  have F_first_wrong := fun_mk (st := s_first_wrong) l_first_wrong c_first_wrong k_first_wrong
  have b_first_wrong := F_first_wrong.binds (ps := ["places"]) fun _ _ _ _ _ _ us hl => match us, hl with | [_], _ => rfl
  have F_rank := fun_mk (st := s_rank) l_rank c_rank k_rank
  have b_rank := F_rank.binds (ps := ["text"]) fun _ _ _ _ _ _ us hl => match us, hl with | [_], _ => rfl
  have F_Walk___init__ := funD_mk (st := s_Walk___init__) (its := [.none, .str "" td1_Walk___init__]) (dvs := [.non, .str ""]) l_Walk___init__ c_Walk___init__ k_Walk___init__ t_Walk___init__ rfl (.cons rfl (.cons ⟨_, rfl⟩ .nil)) (by simp)
  obtain ⟨ds_Walk___init__, v_Walk___init__, b_Walk___init__⟩ := FunD.binds1 F_Walk___init__ (ps := ["self", "places", "end"]) 3 2 (by simp) rfl fun _ _ _ _ _ _ _ us its hu hi => match us, hu, its, hi with | [_, _, _], _, [_, _], _ => ⟨_, rfl, rfl⟩
  have F_Log_walk := fun_mk (st := s_Log_walk) l_Log_walk c_Log_walk k_Log_walk
  have b_Log_walk := F_Log_walk.binds (ps := ["self"]) fun _ _ _ _ _ _ us hl => match us, hl with | [_], _ => rfl
  have F_named := fun_mk (st := s_named) l_named c_named k_named
  have b_named := F_named.binds (ps := ["place"]) fun _ _ _ _ _ _ us hl => match us, hl with | [_], _ => rfl
  have F_Walk___str__ := fun_mk (st := s_Walk___str__) l_Walk___str__ c_Walk___str__ k_Walk___str__
  have b_Walk___str__ := F_Walk___str__.binds (ps := ["self"]) fun _ _ _ _ _ _ us hl => match us, hl with | [_], _ => rfl
  have F_Walk_end := fun_mk (st := s_Walk_end) l_Walk_end c_Walk_end k_Walk_end
  have b_Walk_end := F_Walk_end.binds (ps := ["self"]) fun _ _ _ _ _ _ us hl => match us, hl with | [_], _ => rfl
  have F_Walk_places := fun_mk (st := s_Walk_places) l_Walk_places c_Walk_places k_Walk_places
  have b_Walk_places := F_Walk_places.binds (ps := ["self"]) fun _ _ _ _ _ _ us hl => match us, hl with | [_], _ => rfl
  have F_Rounds___init__ := fun_mk (st := s_Rounds___init__) l_Rounds___init__ c_Rounds___init__ k_Rounds___init__
  have b_Rounds___init__ := F_Rounds___init__.binds (ps := ["self", "walk"]) fun _ _ _ _ _ _ us hl => match us, hl with | [_, _], _ => rfl
  have F_Rounds_rest_many := fun_mk (st := s_Rounds_rest_many) l_Rounds_rest_many c_Rounds_rest_many k_Rounds_rest_many
  have b_Rounds_rest_many := F_Rounds_rest_many.binds (ps := ["self"]) fun _ _ _ _ _ _ us hl => match us, hl with | [_], _ => rfl
  have F_is_whole := fun_mk (st := s_is_whole) l_is_whole c_is_whole k_is_whole
  have b_is_whole := F_is_whole.binds (ps := ["thing"]) fun _ _ _ _ _ _ us hl => match us, hl with | [_], _ => rfl
  have F_Walk___len__ := fun_mk (st := s_Walk___len__) l_Walk___len__ c_Walk___len__ k_Walk___len__
  have b_Walk___len__ := F_Walk___len__.binds (ps := ["self"]) fun _ _ _ _ _ _ us hl => match us, hl with | [_], _ => rfl
  have F_signs_many := fun_mk (st := s_signs_many) l_signs_many c_signs_many k_signs_many
  have b_signs_many := F_signs_many.binds (ps := ["walk"]) fun _ _ _ _ _ _ us hl => match us, hl with | [_], _ => rfl
  have F_Rounds_home := fun_mk (st := s_Rounds_home) l_Rounds_home c_Rounds_home k_Rounds_home
  have b_Rounds_home := F_Rounds_home.binds (ps := ["self"]) fun _ _ _ _ _ _ us hl => match us, hl with | [_], _ => rfl
  have F_Rounds_choices := fun_mk (st := s_Rounds_choices) l_Rounds_choices c_Rounds_choices k_Rounds_choices
  have b_Rounds_choices := F_Rounds_choices.binds (ps := ["self"]) fun _ _ _ _ _ _ us hl => match us, hl with | [_], _ => rfl
  have F_Rounds_go_on := fun_mk (st := s_Rounds_go_on) l_Rounds_go_on c_Rounds_go_on k_Rounds_go_on
  have b_Rounds_go_on := F_Rounds_go_on.binds (ps := ["self", "sign"]) fun _ _ _ _ _ _ us hl => match us, hl with | [_, _], _ => rfl
  have F_shortest_at := funD_mk (st := s_shortest_at) (its := [.int 0 td0_shortest_at]) (dvs := [.int 0]) l_shortest_at c_shortest_at k_shortest_at t_shortest_at rfl (.cons ⟨_, rfl⟩ .nil) (by simp)
  obtain ⟨ds_shortest_at_d1, v_shortest_at_d1, b_shortest_at_d1⟩ := FunD.binds1 F_shortest_at (ps := ["walk", "number"]) 1 0 (by simp) rfl fun _ _ _ _ _ _ _ us its hu hi => match us, hu, its, hi with | [_], _, [_], _ => ⟨_, rfl, rfl⟩
  have F_Log_short := fun_mk (st := s_Log_short) l_Log_short c_Log_short k_Log_short
  have b_Log_short := F_Log_short.binds (ps := ["self"]) fun _ _ _ _ _ _ us hl => match us, hl with | [_], _ => rfl
  have F_law_seen := fun_mk (st := s_law_seen) l_law_seen c_law_seen k_law_seen
  have b_law_seen := F_law_seen.binds (ps := ["_law_log"]) fun _ _ _ _ _ _ us hl => match us, hl with | [_], _ => rfl
  have F_NoBack___init__ := fun_mk (st := s_NoBack___init__) l_NoBack___init__ c_NoBack___init__ k_NoBack___init__
  have b_NoBack___init__ := F_NoBack___init__.binds (ps := ["self", "many"]) fun _ _ _ _ _ _ us hl => match us, hl with | [_, _], _ => rfl
  have F_turned := fun_mk (st := s_turned) l_turned c_turned k_turned
  have b_turned := F_turned.binds (ps := ["text"]) fun _ _ _ _ _ _ us hl => match us, hl with | [_], _ => rfl
  have F_Log_back := funD_mk (st := s_Log_back) (its := [.int 1 td0_Log_back]) (dvs := [.int 1]) l_Log_back c_Log_back k_Log_back t_Log_back rfl (.cons ⟨_, rfl⟩ .nil) (by simp)
  obtain ⟨ds_Log_back, v_Log_back, b_Log_back⟩ := FunD.binds1 F_Log_back (ps := ["self", "many"]) 2 1 (by simp) rfl fun _ _ _ _ _ _ _ us its hu hi => match us, hu, its, hi with | [_, _], _, [_], _ => ⟨_, rfl, rfl⟩
  have F_Log_back_to := fun_mk (st := s_Log_back_to) l_Log_back_to c_Log_back_to k_Log_back_to
  have b_Log_back_to := F_Log_back_to.binds (ps := ["self", "name"]) fun _ _ _ _ _ _ us hl => match us, hl with | [_, _], _ => rfl
  have F_law_told := fun_mk (st := s_law_told) l_law_told c_law_told k_law_told
  have b_law_told := F_law_told.binds (ps := ["_law_log", "_law_door", "_law_thing"]) fun _ _ _ _ _ _ us hl => match us, hl with | [_, _, _], _ => rfl
  have F_law := fun_mk (st := s_law) l_law c_law k_law
  refine ⟨PySem.W.fnOf "law" "law" (defArgs s_law) (defBody s_law) (defScope s_law) .none kV_law dc_law pm_law an_law cd_law ct_law, fun s v => .of_eq rfl, fun base _ _ => ?_⟩
  have N_law_pool : KN l.prog w K mg base CX0 1 ["_law_script", "_law_k"] (sp_law_pool K) "_law_pool" [] := ⟨_, _, [], PySem.W.mg_of X G a_law_pool, k_law_pool, .nil, b_law_pool, ok_law_pool F_law_pool T⟩
  have N_law_take : KN l.prog w K mg base CX0 1 ["_law_pool_here", "_law_many"] (sp_law_take) "_law_take" [] := ⟨_, _, [], PySem.W.mg_of X G a_law_take, k_law_take, .nil, b_law_take, ok_law_take F_law_take T⟩
  have N_Log___init__ : KM l.prog w K mg base CX0 1 ["self"] (sp_Log___init__ C_Log) C_Log "__init__" [] := ⟨_, _, [], a_Log___init__, u_Log___init__, fn_Log___init__, k_Log___init__, .nil, b_Log___init__, ok_Log___init__ F_Log___init__ T⟩
  have N_is_name : KN l.prog w K mg base CX0 1 ["thing"] (sp_is_name) "is_name" [] := ⟨_, _, [], PySem.W.mg_of X G a_is_name, k_is_name, .nil, b_is_name, ok_is_name F_is_name T⟩
  have N_NoMark___init__ : KM l.prog w K mg base CX0 1 ["self", "name"] (sp_NoMark___init__ C_NoMark) C_NoMark "__init__" [] := ⟨_, _, [], a_NoMark___init__, u_NoMark___init__, fn_NoMark___init__, k_NoMark___init__, .nil, b_NoMark___init__, ok_NoMark___init__ F_NoMark___init__ T⟩
  have N_Log_mark : KM l.prog w K mg base (L2.CX l.prog w) 3 ["self", "name"] (sp_Log_mark C_Log C_NoMark) C_Log "mark" [] := ⟨_, _, [], a_Log_mark, u_Log_mark, fn_Log_mark, k_Log_mark, .nil, b_Log_mark, ok_Log_mark F_Log_mark T N_is_name N_NoMark___init__⟩
  have N_is_row_within : KN l.prog w K mg base CX0 1 ["thing", "most"] (sp_is_row_within) "is_row_within" [] := ⟨_, _, [], PySem.W.mg_of X G a_is_row_within, k_is_row_within, .nil, b_is_row_within, ok_is_row_within F_is_row_within T⟩
  have N_is_row : KN l.prog w K mg base CX0 2 ["thing"] (sp_is_row) "is_row" [] := ⟨_, _, [], PySem.W.mg_of X G a_is_row, k_is_row, .nil, b_is_row, ok_is_row F_is_row T N_is_row_within⟩
  have N_look_at_row : KN l.prog w K mg base (L2.CX l.prog w) 3 ["thing"] (sp_look_at_row C_NoRow) "look_at_row" [] := ⟨_, _, [], PySem.W.mg_of X G a_look_at_row, k_look_at_row, .nil, b_look_at_row, ok_look_at_row F_look_at_row T N_is_row⟩
  have N_Full___init__ : KM l.prog w K mg base CX0 1 ["self", "size"] (sp_Full___init__ C_Full) C_Full "__init__" [] := ⟨_, _, [], a_Full___init__, u_Full___init__, fn_Full___init__, k_Full___init__, .nil, b_Full___init__, ok_Full___init__ F_Full___init__ T⟩
  have N_contrary_sign : KN l.prog w K mg base CX0 1 ["sign"] (sp_contrary_sign) "contrary_sign" [] := ⟨_, _, [], PySem.W.mg_of X G a_contrary_sign, k_contrary_sign, .nil, b_contrary_sign, ok_contrary_sign F_contrary_sign T⟩
  have N_made_plain : KN l.prog w K mg base CX0 2 ["text"] (sp_made_plain) "made_plain" [] := ⟨_, _, [], PySem.W.mg_of X G a_made_plain, k_made_plain, .nil, b_made_plain, ok_made_plain F_made_plain T N_contrary_sign⟩
  have N_Log_look_at_room : KM l.prog w K mg base (L2.CX l.prog w) 3 ["self", "text"] (sp_Log_look_at_room C_Log C_Full) C_Log "look_at_room" [] := ⟨_, _, [], a_Log_look_at_room, u_Log_look_at_room, fn_Log_look_at_room, k_Log_look_at_room, .nil, b_Log_look_at_room, ok_Log_look_at_room F_Log_look_at_room T N_Full___init__ N_made_plain⟩
  have N_Log_put : KM l.prog w K mg base (L2.CX l.prog w) 4 ["self", "text"] (sp_Log_put C_Log C_Full) C_Log "put" [] := ⟨_, _, [], a_Log_put, u_Log_put, fn_Log_put, k_Log_put, .nil, b_Log_put, ok_Log_put F_Log_put T N_Log_look_at_room N_made_plain⟩
  have N_Log_do : KM l.prog w K mg base (L2.CX l.prog w) 5 ["self", "row"] (sp_Log_do C_Log C_Full C_NoRow) C_Log "do" [] := ⟨_, _, [], a_Log_do, u_Log_do, fn_Log_do, k_Log_do, .nil, b_Log_do, ok_Log_do F_Log_do T N_look_at_row N_Log_put⟩
  have N_Log_row : KM l.prog w K mg base CX0 1 ["self"] (sp_Log_row C_Log) C_Log "row" [] := ⟨_, _, [], a_Log_row, u_Log_row, fn_Log_row, k_Log_row, .nil, b_Log_row, ok_Log_row F_Log_row T⟩
  have N_Log_standing : KM l.prog w K mg base CX0 1 ["self"] (sp_Log_standing C_Log) C_Log "standing" [] := ⟨_, _, [], a_Log_standing, u_Log_standing, fn_Log_standing, k_Log_standing, .nil, b_Log_standing, ok_Log_standing F_Log_standing T⟩
  have N_Log_marks : KM l.prog w K mg base CX0 1 ["self"] (sp_Log_marks C_Log) C_Log "marks" [] := ⟨_, _, [], a_Log_marks, u_Log_marks, fn_Log_marks, k_Log_marks, .nil, b_Log_marks, ok_Log_marks F_Log_marks T⟩
  have N_Log___len__ : KM l.prog w K mg base CX0 1 ["self"] (sp_Log___len__ C_Log) C_Log "__len__" [] := ⟨_, _, [], a_Log___len__, u_Log___len__, fn_Log___len__, k_Log___len__, .nil, b_Log___len__, ok_Log___len__ F_Log___len__ T⟩
  have N_is_plain_row : KN l.prog w K mg base CX0 3 ["thing"] (sp_is_plain_row) "is_plain_row" [] := ⟨_, _, [], PySem.W.mg_of X G a_is_plain_row, k_is_plain_row, .nil, b_is_plain_row, ok_is_plain_row F_is_plain_row T N_is_row N_made_plain⟩
  have N_first_wrong : KN l.prog w K mg base CX0 4 ["places"] (sp_first_wrong K) "first_wrong" [] := ⟨_, _, [], PySem.W.mg_of X G a_first_wrong, k_first_wrong, .nil, b_first_wrong, ok_first_wrong F_first_wrong T N_is_plain_row⟩
  have N_rank : KN l.prog w K mg base CX0 1 ["text"] (sp_rank) "rank" [] := ⟨_, _, [], PySem.W.mg_of X G a_rank, k_rank, .nil, b_rank, ok_rank F_rank T⟩
  have N_Walk___init__ : KM l.prog w K mg base CX0 5 ["self", "places", "end"] (sp_Walk___init__ K C_Walk) C_Walk "__init__" [] := ⟨_, _, _, a_Walk___init__, u_Walk___init__, fn_Walk___init__, k_Walk___init__, v_Walk___init__, b_Walk___init__, ok_Walk___init__ F_Walk___init__ T N_first_wrong N_rank⟩
  have N_Log_walk : KM l.prog w K mg base CX0 7 ["self"] (sp_Log_walk K C_Log C_Walk) C_Log "walk" [] := ⟨_, _, [], a_Log_walk, u_Log_walk, fn_Log_walk, k_Log_walk, .nil, b_Log_walk, ok_Log_walk F_Log_walk T N_Walk___init__⟩
  have N_named : KN l.prog w K mg base CX0 1 ["place"] (sp_named K) "named" [] := ⟨_, _, [], PySem.W.mg_of X G a_named, k_named, .nil, b_named, ok_named F_named T⟩
  have N_Walk___str__ : KM l.prog w K mg base CX0 2 ["self"] (sp_Walk___str__ K C_Walk) C_Walk "__str__" [] := ⟨_, _, [], a_Walk___str__, u_Walk___str__, fn_Walk___str__, k_Walk___str__, .nil, b_Walk___str__, ok_Walk___str__ F_Walk___str__ T N_named⟩
  have N_Walk_end : KM l.prog w K mg base CX0 1 ["self"] (sp_Walk_end C_Walk) C_Walk "end" [] := ⟨_, _, [], a_Walk_end, u_Walk_end, fn_Walk_end, k_Walk_end, .nil, b_Walk_end, ok_Walk_end F_Walk_end T⟩
  have N_Walk_places : KM l.prog w K mg base CX0 1 ["self"] (sp_Walk_places C_Walk) C_Walk "places" [] := ⟨_, _, [], a_Walk_places, u_Walk_places, fn_Walk_places, k_Walk_places, .nil, b_Walk_places, ok_Walk_places F_Walk_places T⟩
  have N_Rounds___init__ : KM l.prog w K mg base CX0 4 ["self", "walk"] (sp_Rounds___init__ K C_Rounds C_Walk) C_Rounds "__init__" [] := ⟨_, _, [], a_Rounds___init__, u_Rounds___init__, fn_Rounds___init__, k_Rounds___init__, .nil, b_Rounds___init__, ok_Rounds___init__ F_Rounds___init__ T N_Walk_end N_Walk_places N_rank⟩
  have N_Rounds_rest_many : KM l.prog w K mg base CX0 1 ["self"] (sp_Rounds_rest_many K C_Rounds) C_Rounds "rest_many" [] := ⟨_, _, [], a_Rounds_rest_many, u_Rounds_rest_many, fn_Rounds_rest_many, k_Rounds_rest_many, .nil, b_Rounds_rest_many, ok_Rounds_rest_many F_Rounds_rest_many T⟩
  have N_is_whole : KN l.prog w K mg base CX0 1 ["thing"] (sp_is_whole) "is_whole" [] := ⟨_, _, [], PySem.W.mg_of X G a_is_whole, k_is_whole, .nil, b_is_whole, ok_is_whole F_is_whole T⟩
  have N_Walk___len__ : KM l.prog w K mg base CX0 1 ["self"] (sp_Walk___len__ C_Walk) C_Walk "__len__" [] := ⟨_, _, [], a_Walk___len__, u_Walk___len__, fn_Walk___len__, k_Walk___len__, .nil, b_Walk___len__, ok_Walk___len__ F_Walk___len__ T⟩
  have N_signs_many : KN l.prog w K mg base CX0 4 ["walk"] (sp_signs_many C_Walk) "signs_many" [] := ⟨_, _, [], PySem.W.mg_of X G a_signs_many, k_signs_many, .nil, b_signs_many, ok_signs_many F_signs_many T N_Walk___len__ N_Walk_end⟩
  have N_Rounds_home : KM l.prog w K mg base CX0 2 ["self"] (sp_Rounds_home C_Rounds) C_Rounds "home" [] := ⟨_, _, [], a_Rounds_home, u_Rounds_home, fn_Rounds_home, k_Rounds_home, .nil, b_Rounds_home, ok_Rounds_home F_Rounds_home T N_contrary_sign⟩
  have N_Rounds_choices : KM l.prog w K mg base CX0 3 ["self"] (sp_Rounds_choices C_Rounds) C_Rounds "choices" [] := ⟨_, _, [], a_Rounds_choices, u_Rounds_choices, fn_Rounds_choices, k_Rounds_choices, .nil, b_Rounds_choices, ok_Rounds_choices F_Rounds_choices T N_Rounds_home⟩
  have N_Rounds_go_on : KMR l.prog w K mg base CX0 3 ["self", "sign"] (sp_Rounds_go_on C_Rounds) C_Rounds "go_on" [] := ⟨_, _, [], a_Rounds_go_on, u_Rounds_go_on, fn_Rounds_go_on, k_Rounds_go_on, .nil, b_Rounds_go_on, ok_Rounds_go_on F_Rounds_go_on T N_made_plain⟩
  have N_shortest_at_d1 : KN l.prog w K mg base CX0 6 ["walk", "number"] (sp_shortest_at K C_Rounds C_Walk) "shortest_at" [.int 0] := ⟨_, _, _, PySem.W.mg_of X G a_shortest_at, k_shortest_at, v_shortest_at_d1, b_shortest_at_d1, ok_shortest_at F_shortest_at T N_Rounds___init__ N_Rounds_rest_many N_is_whole N_signs_many N_Rounds_choices N_Rounds_go_on⟩
  have N_Log_short : KM l.prog w K mg base CX0 8 ["self"] (sp_Log_short K C_Log C_Walk C_Rounds) C_Log "short" [] := ⟨_, _, [], a_Log_short, u_Log_short, fn_Log_short, k_Log_short, .nil, b_Log_short, ok_Log_short F_Log_short T N_shortest_at_d1 N_Log_walk⟩
  have N_law_seen : KN l.prog w K mg base CX0 9 ["_law_log"] (sp_law_seen K C_Log C_Walk C_Rounds) "_law_seen" [] := ⟨_, _, [], PySem.W.mg_of X G a_law_seen, k_law_seen, .nil, b_law_seen, ok_law_seen F_law_seen T N_Log_row N_Log_standing N_Log_marks N_Log___len__ N_Log_walk N_Walk___str__ N_Log_short⟩
  have N_NoBack___init__ : KM l.prog w K mg base CX0 1 ["self", "many"] (sp_NoBack___init__ C_NoBack) C_NoBack "__init__" [] := ⟨_, _, [], a_NoBack___init__, u_NoBack___init__, fn_NoBack___init__, k_NoBack___init__, .nil, b_NoBack___init__, ok_NoBack___init__ F_NoBack___init__ T⟩
  have N_turned : KN l.prog w K mg base CX0 2 ["text"] (sp_turned) "turned" [] := ⟨_, _, [], PySem.W.mg_of X G a_turned, k_turned, .nil, b_turned, ok_turned F_turned T N_contrary_sign⟩
  have N_Log_back : KM l.prog w K mg base (L2.CX l.prog w) 5 ["self", "many"] (sp_Log_back C_Log C_Full C_NoBack) C_Log "back" [] := ⟨_, _, _, a_Log_back, u_Log_back, fn_Log_back, k_Log_back, v_Log_back, b_Log_back, ok_Log_back F_Log_back T N_is_whole N_NoBack___init__ N_Log_put N_turned⟩
  have N_Log_back_to : KM l.prog w K mg base (L2.CX l.prog w) 6 ["self", "name"] (sp_Log_back_to C_Log C_Full C_NoBack C_NoMark) C_Log "back_to" [] := ⟨_, _, [], a_Log_back_to, u_Log_back_to, fn_Log_back_to, k_Log_back_to, .nil, b_Log_back_to, ok_Log_back_to F_Log_back_to T N_is_name N_NoMark___init__ N_Log_back⟩
  have N_law_told : KN l.prog w K mg base CX0 7 ["_law_log", "_law_door", "_law_thing"] (sp_law_told K C_Log C_NoRow C_Full C_NoBack C_NoMark) "_law_told" [] := ⟨_, _, [], PySem.W.mg_of X G a_law_told, k_law_told, .nil, b_law_told, ok_law_told F_law_told T N_Log_do N_Log_back N_Log_back_to⟩
  exact ok_law F_law T N_law_pool N_law_take N_Log___init__ N_Log_mark N_Log_do N_law_seen N_law_told
theorem walk {l : PySem.W.OpenLaw} {q : Program} {loose : List Str} {XP : (Str → Option Value) → Heap → Prop} {YP : World → Heap → Prop} {d : DefRec} {K : Params → PySem.W.Frag} (hn : l.most = some 63) (hdf : d.params.defaults = [])
    (hY : ∀ (w : World) (h : Heap), YP w h → (K w.params).In h)
    (F : ∀ (w : World) (mg : Str → Option Value) (fa : Addr) (h : Heap), (K w.params).In h → h.Ns mainGlobals mg → mg d.name = some (.ref fa) →
      ∃ fd : FuncData, (∀ (s : Shared) (u : Value), BindsTo s fd ⟨[u], []⟩ [("_law_script", u)]) ∧ ∀ base : Heap, (K w.params).In base → base.Ns mainGlobals mg → FnOk l.prog w (K w.params) mg base CX0 10 fa fd ["_law_script"] (sp_law (K w.params))) :
    PySem.W.WalkO q loose XP YP l.row.toRowW d [] (fun f vs => PySem.call f vs) :=
  L2.walk_of (n := 63) (k := 10) (x := "_law_script") (CX := fun _ => CX0) (sp := fun w => sp_law (K w.params)) hn (by decide) hdf ⟨rfl, by decide, by decide⟩ hY F (fun _ _ a ns hl _ hS => ⟨a, ns, rfl, hS, hl, fun _ => rfl⟩) fun _ _ _ _ _ z => z
end Toy

open PySem PySem.W PyProof.Rows in
set_option maxRecDepth 100000 in
set_option maxHeartbeats 0 in
theorem PySem.Challenge.cw_undotrees_k69_logs_full_holds : PySem.Challenge.rw_undotrees_k69_logs_full.Holds := by
  w_on; o_law; k_head; (case hw => w_witness2)
  k_fill
  refine Toy.walk (l := PySem.Challenge.rw_undotrees_k69_logs_full) rfl rfl (fun w h Y => PySem.W.kIn_of Y) ?F
  case F =>
    intro w mg fa h KX G hmg
    refine' Toy.all_mk KX G hmg ?z_ArithmeticError ?z_KeyError ?z_OverflowError ?z_all ?z_bool ?z_dict ?z_divmod ?z_enumerate ?z_int ?z_isinstance ?z_len ?z_list ?z_max ?z_min ?z_range ?z_sorted ?z_str ?z_tuple ?n_LETTERS ?n_MOST_LONG ?n_MOST_PLACES ?n_MOST_SIGNS ?n_SIGNS ?aC_Full ?xC_Full ?kC_Full ?bC_Full ?tC_Full ?iC_Full ?sC_Full ?hg_Full ?hk_Full ?hd_Full ?ha_Full ?hm_Full ?oC_Full ?sa_Full ?aC_NoBack ?xC_NoBack ?kC_NoBack ?bC_NoBack ?tC_NoBack ?iC_NoBack ?sC_NoBack ?hg_NoBack ?hk_NoBack ?hd_NoBack ?ha_NoBack ?hm_NoBack ?oC_NoBack ?sa_NoBack ?aC_NoMark ?xC_NoMark ?kC_NoMark ?bC_NoMark ?tC_NoMark ?iC_NoMark ?sC_NoMark ?hg_NoMark ?hk_NoMark ?hd_NoMark ?ha_NoMark ?hm_NoMark ?oC_NoMark ?sa_NoMark ?aC_NoRow ?xC_NoRow ?kC_NoRow ?bC_NoRow ?tC_NoRow ?iC_NoRow ?sC_NoRow ?hg_NoRow ?hk_NoRow ?hd_NoRow ?ha_NoRow ?hm_NoRow ?hn ?ht ?w_ArithmeticError ?w_KeyError ?w_OverflowError ?aC_Log ?pg_Log ?hd_Log ?po_Log ?sa_Log ?mk_Log ?kC_Log ?aC_Rounds ?pg_Rounds ?hd_Rounds ?po_Rounds ?sa_Rounds ?mk_Rounds ?kC_Rounds ?aC_Walk ?pg_Walk ?hd_Walk ?po_Walk ?sa_Walk ?mk_Walk ?kC_Walk ?y_Full_size ?y_Log_own_end ?y_Log_own_known ?y_Log_own_marks ?y_Log_own_open ?y_Log_own_text ?y_NoBack_many ?y_NoMark_name ?y_Rounds_own_end ?y_Rounds_own_here ?y_Rounds_own_left ?y_Walk_own_end ?y_Walk_own_places ?f_b3 ?f_m4 ?f_w1 ?f_w2 ?f_w3 ?f_w4 ?f_ob_Walk ?f_ne_Walk ?f_oi ?f_ot ?f_l1 ?f_ob_Log ?f_ne_Log ?f_lo ?f_lt ?f_sub_Walk_Log ?f_ll ?f_fo ?a_law_pool ?l_law_pool ?c_law_pool ?k_law_pool ?a_law_take ?l_law_take ?c_law_take ?k_law_take ?a_Log___init__ ?l_Log___init__ ?c_Log___init__ ?k_Log___init__ ?u_Log___init__ ?fn_Log___init__ ?a_is_name ?l_is_name ?c_is_name ?k_is_name ?a_NoMark___init__ ?l_NoMark___init__ ?c_NoMark___init__ ?k_NoMark___init__ ?u_NoMark___init__ ?fn_NoMark___init__ ?a_Log_mark ?l_Log_mark ?c_Log_mark ?k_Log_mark ?u_Log_mark ?fn_Log_mark ?a_is_row_within ?l_is_row_within ?c_is_row_within ?k_is_row_within ?a_is_row ?l_is_row ?c_is_row ?k_is_row ?a_look_at_row ?l_look_at_row ?c_look_at_row ?k_look_at_row ?a_Full___init__ ?l_Full___init__ ?c_Full___init__ ?k_Full___init__ ?u_Full___init__ ?fn_Full___init__ ?a_contrary_sign ?l_contrary_sign ?c_contrary_sign ?k_contrary_sign ?a_made_plain ?l_made_plain ?c_made_plain ?k_made_plain ?a_Log_look_at_room ?l_Log_look_at_room ?c_Log_look_at_room ?k_Log_look_at_room ?u_Log_look_at_room ?fn_Log_look_at_room ?a_Log_put ?l_Log_put ?c_Log_put ?k_Log_put ?u_Log_put ?fn_Log_put ?a_Log_do ?l_Log_do ?c_Log_do ?k_Log_do ?u_Log_do ?fn_Log_do ?a_Log_row ?l_Log_row ?c_Log_row ?k_Log_row ?u_Log_row ?fn_Log_row ?a_Log_standing ?l_Log_standing ?c_Log_standing ?k_Log_standing ?u_Log_standing ?fn_Log_standing ?a_Log_marks ?l_Log_marks ?c_Log_marks ?k_Log_marks ?u_Log_marks ?fn_Log_marks ?a_Log___len__ ?l_Log___len__ ?c_Log___len__ ?k_Log___len__ ?u_Log___len__ ?fn_Log___len__ ?a_is_plain_row ?l_is_plain_row ?c_is_plain_row ?k_is_plain_row ?a_first_wrong ?l_first_wrong ?c_first_wrong ?k_first_wrong ?a_rank ?l_rank ?c_rank ?k_rank ?a_Walk___init__ ?l_Walk___init__ ?t_Walk___init__ ?c_Walk___init__ ?k_Walk___init__ ?u_Walk___init__ ?fn_Walk___init__ ?a_Log_walk ?l_Log_walk ?c_Log_walk ?k_Log_walk ?u_Log_walk ?fn_Log_walk ?a_named ?l_named ?c_named ?k_named ?a_Walk___str__ ?l_Walk___str__ ?c_Walk___str__ ?k_Walk___str__ ?u_Walk___str__ ?fn_Walk___str__ ?a_Walk_end ?l_Walk_end ?c_Walk_end ?k_Walk_end ?u_Walk_end ?fn_Walk_end ?a_Walk_places ?l_Walk_places ?c_Walk_places ?k_Walk_places ?u_Walk_places ?fn_Walk_places ?a_Rounds___init__ ?l_Rounds___init__ ?c_Rounds___init__ ?k_Rounds___init__ ?u_Rounds___init__ ?fn_Rounds___init__ ?a_Rounds_rest_many ?l_Rounds_rest_many ?c_Rounds_rest_many ?k_Rounds_rest_many ?u_Rounds_rest_many ?fn_Rounds_rest_many ?a_is_whole ?l_is_whole ?c_is_whole ?k_is_whole ?a_Walk___len__ ?l_Walk___len__ ?c_Walk___len__ ?k_Walk___len__ ?u_Walk___len__ ?fn_Walk___len__ ?a_signs_many ?l_signs_many ?c_signs_many ?k_signs_many ?a_Rounds_home ?l_Rounds_home ?c_Rounds_home ?k_Rounds_home ?u_Rounds_home ?fn_Rounds_home ?a_Rounds_choices ?l_Rounds_choices ?c_Rounds_choices ?k_Rounds_choices ?u_Rounds_choices ?fn_Rounds_choices ?a_Rounds_go_on ?l_Rounds_go_on ?c_Rounds_go_on ?k_Rounds_go_on ?u_Rounds_go_on ?fn_Rounds_go_on ?a_shortest_at ?l_shortest_at ?t_shortest_at ?c_shortest_at ?k_shortest_at ?a_Log_short ?l_Log_short ?c_Log_short ?k_Log_short ?u_Log_short ?fn_Log_short ?a_law_seen ?l_law_seen ?c_law_seen ?k_law_seen ?a_NoBack___init__ ?l_NoBack___init__ ?c_NoBack___init__ ?k_NoBack___init__ ?u_NoBack___init__ ?fn_NoBack___init__ ?a_turned ?l_turned ?c_turned ?k_turned ?a_Log_back ?l_Log_back ?t_Log_back ?c_Log_back ?k_Log_back ?u_Log_back ?fn_Log_back ?a_Log_back_to ?l_Log_back_to ?c_Log_back_to ?k_Log_back_to ?u_Log_back_to ?fn_Log_back_to ?a_law_told ?l_law_told ?c_law_told ?k_law_told ?a_law ?l_law ?c_law ?k_law
    (case z_ArithmeticError => k_is)
    (case z_KeyError => k_is)
    (case z_OverflowError => k_is)
    (case z_all => k_is)
    (case z_bool => k_is)
    (case z_dict => k_is)
    (case z_divmod => k_is)
    (case z_enumerate => k_is)
    (case z_int => k_is)
    (case z_isinstance => k_is)
    (case z_len => k_is)
    (case z_list => k_is)
    (case z_max => k_is)
    (case z_min => k_is)
    (case z_range => k_is)
    (case z_sorted => k_is)
    (case z_str => k_is)
    (case z_tuple => k_is)
    (case n_LETTERS => k_is)
    (case n_MOST_LONG => k_is)
    (case n_MOST_PLACES => k_is)
    (case n_MOST_SIGNS => k_is)
    (case n_SIGNS => k_is)
    (case aC_Full => k_is)
    (case xC_Full => kx_is)
    (case kC_Full => k_is)
    (case bC_Full => k_is)
    (case tC_Full => k_is)
    (case iC_Full => k_is)
    (case sC_Full => first | rfl | k_is)
    (case hg_Full => k_is)
    (case hk_Full => k_is)
    (case hd_Full => k_is)
    (case ha_Full => k_is)
    (case hm_Full => k_is)
    (case oC_Full => kx_is)
    (case sa_Full => k_is)
    (case aC_NoBack => k_is)
    (case xC_NoBack => kx_is)
    (case kC_NoBack => k_is)
    (case bC_NoBack => k_is)
    (case tC_NoBack => k_is)
    (case iC_NoBack => k_is)
    (case sC_NoBack => first | rfl | k_is)
    (case hg_NoBack => k_is)
    (case hk_NoBack => k_is)
    (case hd_NoBack => k_is)
    (case ha_NoBack => k_is)
    (case hm_NoBack => k_is)
    (case oC_NoBack => kx_is)
    (case sa_NoBack => k_is)
    (case aC_NoMark => k_is)
    (case xC_NoMark => kx_is)
    (case kC_NoMark => k_is)
    (case bC_NoMark => k_is)
    (case tC_NoMark => k_is)
    (case iC_NoMark => k_is)
    (case sC_NoMark => first | rfl | k_is)
    (case hg_NoMark => k_is)
    (case hk_NoMark => k_is)
    (case hd_NoMark => k_is)
    (case ha_NoMark => k_is)
    (case hm_NoMark => k_is)
    (case oC_NoMark => kx_is)
    (case sa_NoMark => k_is)
    (case aC_NoRow => k_is)
    (case xC_NoRow => k_exc)
    (case kC_NoRow => k_is)
    (case bC_NoRow => k_is)
    (case tC_NoRow => k_is)
    (case iC_NoRow => k_is)
    (case sC_NoRow => first | rfl | k_is)
    (case hg_NoRow => k_is)
    (case hk_NoRow => k_is)
    (case hd_NoRow => k_is)
    (case ha_NoRow => k_is)
    (case hm_NoRow => k_is)
    (case hn => k_is)
    (case ht => k_is)
    (case w_ArithmeticError => k_is)
    (case w_KeyError => k_is)
    (case w_OverflowError => k_is)
    (case aC_Log => k_is)
    (case pg_Log => k_is)
    (case hd_Log => k_is)
    (case po_Log => k_is)
    (case sa_Log => k_is)
    (case mk_Log => k_is)
    (case kC_Log => k_is)
    (case aC_Rounds => k_is)
    (case pg_Rounds => k_is)
    (case hd_Rounds => k_is)
    (case po_Rounds => k_is)
    (case sa_Rounds => k_is)
    (case mk_Rounds => k_is)
    (case kC_Rounds => k_is)
    (case aC_Walk => k_is)
    (case pg_Walk => k_is)
    (case hd_Walk => k_is)
    (case po_Walk => k_is)
    (case sa_Walk => k_is)
    (case mk_Walk => k_is)
    (case kC_Walk => k_is)
    (case y_Full_size => k_is)
    (case y_Log_own_end => k_is)
    (case y_Log_own_known => k_is)
    (case y_Log_own_marks => k_is)
    (case y_Log_own_open => k_is)
    (case y_Log_own_text => k_is)
    (case y_NoBack_many => k_is)
    (case y_NoMark_name => k_is)
    (case y_Rounds_own_end => k_is)
    (case y_Rounds_own_here => k_is)
    (case y_Rounds_own_left => k_is)
    (case y_Walk_own_end => k_is)
    (case y_Walk_own_places => k_is)
    (case f_b3 => k_is)
    (case f_m4 => k_is)
    (case f_w1 => k_is)
    (case f_w2 => k_is)
    (case f_w3 => k_is)
    (case f_w4 => k_is)
    (case f_ob_Walk => k_is)
    (case f_ne_Walk => k_is)
    (case f_oi => k_is)
    (case f_ot => k_is)
    (case f_l1 => k_is)
    (case f_ob_Log => k_is)
    (case f_ne_Log => k_is)
    (case f_lo => k_is)
    (case f_lt => k_is)
    (case f_sub_Walk_Log => k_is)
    (case f_ll => k_is)
    (case f_fo => k_is)
    (case a_law_pool => k_is)
    (case l_law_pool => k_is)
    (case c_law_pool => k_is)
    (case k_law_pool => k_is)
    (case a_law_take => k_is)
    (case l_law_take => k_is)
    (case c_law_take => k_is)
    (case k_law_take => k_is)
    (case a_Log___init__ => k_is)
    (case l_Log___init__ => k_is)
    (case c_Log___init__ => k_is)
    (case k_Log___init__ => k_is)
    (case u_Log___init__ => k_is)
    (case fn_Log___init__ => k_is)
    (case a_is_name => k_is)
    (case l_is_name => k_is)
    (case c_is_name => k_is)
    (case k_is_name => k_is)
    (case a_NoMark___init__ => k_is)
    (case l_NoMark___init__ => k_is)
    (case c_NoMark___init__ => k_is)
    (case k_NoMark___init__ => k_is)
    (case u_NoMark___init__ => k_is)
    (case fn_NoMark___init__ => k_is)
    (case a_Log_mark => k_is)
    (case l_Log_mark => k_is)
    (case c_Log_mark => k_is)
    (case k_Log_mark => k_is)
    (case u_Log_mark => k_is)
    (case fn_Log_mark => k_is)
    (case a_is_row_within => k_is)
    (case l_is_row_within => k_is)
    (case c_is_row_within => k_is)
    (case k_is_row_within => k_is)
    (case a_is_row => k_is)
    (case l_is_row => k_is)
    (case c_is_row => k_is)
    (case k_is_row => k_is)
    (case a_look_at_row => k_is)
    (case l_look_at_row => k_is)
    (case c_look_at_row => k_is)
    (case k_look_at_row => k_is)
    (case a_Full___init__ => k_is)
    (case l_Full___init__ => k_is)
    (case c_Full___init__ => k_is)
    (case k_Full___init__ => k_is)
    (case u_Full___init__ => k_is)
    (case fn_Full___init__ => k_is)
    (case a_contrary_sign => k_is)
    (case l_contrary_sign => k_is)
    (case c_contrary_sign => k_is)
    (case k_contrary_sign => k_is)
    (case a_made_plain => k_is)
    (case l_made_plain => k_is)
    (case c_made_plain => k_is)
    (case k_made_plain => k_is)
    (case a_Log_look_at_room => k_is)
    (case l_Log_look_at_room => k_is)
    (case c_Log_look_at_room => k_is)
    (case k_Log_look_at_room => k_is)
    (case u_Log_look_at_room => k_is)
    (case fn_Log_look_at_room => k_is)
    (case a_Log_put => k_is)
    (case l_Log_put => k_is)
    (case c_Log_put => k_is)
    (case k_Log_put => k_is)
    (case u_Log_put => k_is)
    (case fn_Log_put => k_is)
    (case a_Log_do => k_is)
    (case l_Log_do => k_is)
    (case c_Log_do => k_is)
    (case k_Log_do => k_is)
    (case u_Log_do => k_is)
    (case fn_Log_do => k_is)
    (case a_Log_row => k_is)
    (case l_Log_row => k_is)
    (case c_Log_row => k_is)
    (case k_Log_row => k_is)
    (case u_Log_row => k_is)
    (case fn_Log_row => k_is)
    (case a_Log_standing => k_is)
    (case l_Log_standing => k_is)
    (case c_Log_standing => k_is)
    (case k_Log_standing => k_is)
    (case u_Log_standing => k_is)
    (case fn_Log_standing => k_is)
    (case a_Log_marks => k_is)
    (case l_Log_marks => k_is)
    (case c_Log_marks => k_is)
    (case k_Log_marks => k_is)
    (case u_Log_marks => k_is)
    (case fn_Log_marks => k_is)
    (case a_Log___len__ => k_is)
    (case l_Log___len__ => k_is)
    (case c_Log___len__ => k_is)
    (case k_Log___len__ => k_is)
    (case u_Log___len__ => k_is)
    (case fn_Log___len__ => k_is)
    (case a_is_plain_row => k_is)
    (case l_is_plain_row => k_is)
    (case c_is_plain_row => k_is)
    (case k_is_plain_row => k_is)
    (case a_first_wrong => k_is)
    (case l_first_wrong => k_is)
    (case c_first_wrong => k_is)
    (case k_first_wrong => k_is)
    (case a_rank => k_is)
    (case l_rank => k_is)
    (case c_rank => k_is)
    (case k_rank => k_is)
    (case a_Walk___init__ => k_is)
    (case l_Walk___init__ => k_is)
    (case t_Walk___init__ => k_is)
    (case c_Walk___init__ => k_is)
    (case k_Walk___init__ => k_is)
    (case u_Walk___init__ => k_is)
    (case fn_Walk___init__ => k_is)
    (case a_Log_walk => k_is)
    (case l_Log_walk => k_is)
    (case c_Log_walk => k_is)
    (case k_Log_walk => k_is)
    (case u_Log_walk => k_is)
    (case fn_Log_walk => k_is)
    (case a_named => k_is)
    (case l_named => k_is)
    (case c_named => k_is)
    (case k_named => k_is)
    (case a_Walk___str__ => k_is)
    (case l_Walk___str__ => k_is)
    (case c_Walk___str__ => k_is)
    (case k_Walk___str__ => k_is)
    (case u_Walk___str__ => k_is)
    (case fn_Walk___str__ => k_is)
    (case a_Walk_end => k_is)
    (case l_Walk_end => k_is)
    (case c_Walk_end => k_is)
    (case k_Walk_end => k_is)
    (case u_Walk_end => k_is)
    (case fn_Walk_end => k_is)
    (case a_Walk_places => k_is)
    (case l_Walk_places => k_is)
    (case c_Walk_places => k_is)
    (case k_Walk_places => k_is)
    (case u_Walk_places => k_is)
    (case fn_Walk_places => k_is)
    (case a_Rounds___init__ => k_is)
    (case l_Rounds___init__ => k_is)
    (case c_Rounds___init__ => k_is)
    (case k_Rounds___init__ => k_is)
    (case u_Rounds___init__ => k_is)
    (case fn_Rounds___init__ => k_is)
    (case a_Rounds_rest_many => k_is)
    (case l_Rounds_rest_many => k_is)
    (case c_Rounds_rest_many => k_is)
    (case k_Rounds_rest_many => k_is)
    (case u_Rounds_rest_many => k_is)
    (case fn_Rounds_rest_many => k_is)
    (case a_is_whole => k_is)
    (case l_is_whole => k_is)
    (case c_is_whole => k_is)
    (case k_is_whole => k_is)
    (case a_Walk___len__ => k_is)
    (case l_Walk___len__ => k_is)
    (case c_Walk___len__ => k_is)
    (case k_Walk___len__ => k_is)
    (case u_Walk___len__ => k_is)
    (case fn_Walk___len__ => k_is)
    (case a_signs_many => k_is)
    (case l_signs_many => k_is)
    (case c_signs_many => k_is)
    (case k_signs_many => k_is)
    (case a_Rounds_home => k_is)
    (case l_Rounds_home => k_is)
    (case c_Rounds_home => k_is)
    (case k_Rounds_home => k_is)
    (case u_Rounds_home => k_is)
    (case fn_Rounds_home => k_is)
    (case a_Rounds_choices => k_is)
    (case l_Rounds_choices => k_is)
    (case c_Rounds_choices => k_is)
    (case k_Rounds_choices => k_is)
    (case u_Rounds_choices => k_is)
    (case fn_Rounds_choices => k_is)
    (case a_Rounds_go_on => k_is)
    (case l_Rounds_go_on => k_is)
    (case c_Rounds_go_on => k_is)
    (case k_Rounds_go_on => k_is)
    (case u_Rounds_go_on => k_is)
    (case fn_Rounds_go_on => k_is)
    (case a_shortest_at => k_is)
    (case l_shortest_at => k_is)
    (case t_shortest_at => k_is)
    (case c_shortest_at => k_is)
    (case k_shortest_at => k_is)
    (case a_Log_short => k_is)
    (case l_Log_short => k_is)
    (case c_Log_short => k_is)
    (case k_Log_short => k_is)
    (case u_Log_short => k_is)
    (case fn_Log_short => k_is)
    (case a_law_seen => k_is)
    (case l_law_seen => k_is)
    (case c_law_seen => k_is)
    (case k_law_seen => k_is)
    (case a_NoBack___init__ => k_is)
    (case l_NoBack___init__ => k_is)
    (case c_NoBack___init__ => k_is)
    (case k_NoBack___init__ => k_is)
    (case u_NoBack___init__ => k_is)
    (case fn_NoBack___init__ => k_is)
    (case a_turned => k_is)
    (case l_turned => k_is)
    (case c_turned => k_is)
    (case k_turned => k_is)
    (case a_Log_back => k_is)
    (case l_Log_back => k_is)
    (case t_Log_back => k_is)
    (case c_Log_back => k_is)
    (case k_Log_back => k_is)
    (case u_Log_back => k_is)
    (case fn_Log_back => k_is)
    (case a_Log_back_to => k_is)
    (case l_Log_back_to => k_is)
    (case c_Log_back_to => k_is)
    (case k_Log_back_to => k_is)
    (case u_Log_back_to => k_is)
    (case fn_Log_back_to => k_is)
    (case a_law_told => k_is)
    (case l_law_told => k_is)
    (case c_law_told => k_is)
    (case k_law_told => k_is)
    (case a_law => k_is)
    (case l_law => k_is)
    (case c_law => k_is)
    (case k_law => k_is)

