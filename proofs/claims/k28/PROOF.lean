import PyProof.Rows.All
import Wide.All
import OpenK.AllK
import Wide.FinOn
import HandS.ForMost
import HandS.Walk
import HandS.StrMore
import HandS.Replace
import HandS.IsInst
import HandS.Style
import HandS.Steps
import HandS.Evl
import HandS.Wide
import HandS.Defaults
import HandS.SortKw
import HandS.Codes
import HandS.More
import HandS.TryOnly
import KE.DataCmp
import KE.GoesZip
import KE.GoesMore
import KE.GoesEnum
import KE.SortKeyHeap
import KE.KRevSl
import HandS.ForExc
import HandS.ExcIs
import HandS.TryMany
import HandS.ExcInit
import HandS.ExcField
import KE.KExcInit
import KE.KExcLine
import KE.KExcIs
import PyProof.ListStr
import PyProof.StrBlock2
import HandS.OwnEq
import OpenK.AllK
import HandS.Strs
import HandS.Set
import KE.SortData
import PyProof.CallType
import PyProof.Rows.Range3
import Wide.Seal
import PyProof.Rules
import PyProof.Tail
import HandS.Zip
import PyProof.ListRange
import PyProof.InstEq
import HandS.Flow
import HandS.WordsDict
import HandS.FStr
import KE.KCallOwn
import HandS.DeepEq
import PyProof.NeKinds
import HandS.Dict
import HandS.Ends
import PyProof.ReprRoads
import PyProof.CallFns
import PyProof.ReprBulk
import HandS.WrittenGet
import HandS.CallLocal
import HandS.Deep
import HandS.TupMul
import PyProof.MinMaxWalk
import PyProof.WalkInts
import PyProof.SeqI3
import HandS.List
import HandS.TupLe
import PySem.Challenge.RW_undotrees_k28_whole_a_chain_or_a_world
set_option Elab.async false
set_option linter.all false
set_option maxRecDepth 100000
set_option maxHeartbeats 4000000

namespace RowM
/-- the twelve signs, in their order -/
def sgns : List Nat := [97, 65, 98, 66, 99, 67, 100, 68, 101, 69, 102, 70]
def con (c : Nat) : Nat := if 97 ≤ c then c - 32 else c + 32
def ix (c : Nat) : Nat := sgns.idxOf c
def lo (c : Nat) : Nat := if 97 ≤ c then c else c + 32
def up (c : Nat) : Nat := if 97 ≤ c then c - 32 else c
abbrev Row (l : List Nat) : Prop := ∀ c ∈ l, c ∈ sgns
theorem con_mem {c : Nat} (h : c ∈ sgns) : con c ∈ sgns := by
  have : ∀ c ∈ sgns, con c ∈ sgns := by decide
  exact this c h
theorem con_con {c : Nat} (h : c ∈ sgns) : con (con c) = c := by
  have : ∀ c ∈ sgns, con (con c) = c := by decide
  exact this c h
theorem con_ne {c : Nat} (h : c ∈ sgns) : con c ≠ c := by
  have : ∀ c ∈ sgns, con c ≠ c := by decide
  exact this c h
theorem con_inj {a b : Nat} (ha : a ∈ sgns) (hb : b ∈ sgns) (h : con a = con b) : a = b := by
  rw [← con_con ha, h, con_con hb]
/-! ### stacks: the plain row, its last sign first -/
def push (st : List Nat) (c : Nat) : List Nat := match st with
  | [] => [c]
  | d :: r => if d = con c then r else c :: d :: r
theorem push_cons (d c : Nat) (r : List Nat) : push (d :: r) c = if d = con c then r else c :: d :: r := rfl
def act (w st : List Nat) : List Nat := w.foldl push st
def plain (w : List Nat) : List Nat := (act w []).reverse
def turn (w : List Nat) : List Nat := (w.reverse).map con
/-- no sign next to its contrary -/
def Red : List Nat → Prop
  | [] => True
  | [_] => True
  | a :: b :: r => b ≠ con a ∧ Red (b :: r)
theorem Red.tail {a : Nat} {r : List Nat} (h : Red (a :: r)) : Red r := by
  cases r with
  | nil => trivial
  | cons b r => exact h.2
theorem Row.tail {a : Nat} {r : List Nat} (h : Row (a :: r)) : Row r := fun c hc => h c (List.mem_cons_of_mem _ hc)
theorem Row.head {a : Nat} {r : List Nat} (h : Row (a :: r)) : a ∈ sgns := h a List.mem_cons_self
theorem push_row {st : List Nat} {c : Nat} (h : Row st) (hc : c ∈ sgns) : Row (push st c) := by
  cases st with
  | nil => intro d hd; simp [push] at hd; rw [hd]; exact hc
  | cons d r =>
    rw [push_cons]
    by_cases q : d = con c
    · rw [if_pos q]
      exact Row.tail h
    · rw [if_neg q]
      intro e he
      rcases List.mem_cons.mp he with rfl | he
      · exact hc
      · exact h e he
theorem push_red {st : List Nat} {c : Nat} (h : Red st) : Red (push st c) := by
  cases st with
  | nil => simp [push, Red]
  | cons d r =>
    rw [push_cons]
    by_cases q : d = con c
    · rw [if_pos q]
      exact h.tail
    · rw [if_neg q]
      exact ⟨q, h⟩
theorem push_push {st : List Nat} {c : Nat} (h : Red st) (hc : c ∈ sgns) : push (push st c) (con c) = st := by
  cases st with
  | nil => simp [push, con_con hc]
  | cons d r =>
    by_cases e : d = con c
    · simp only [push, if_pos e]
      cases r with
      | nil => simp [e]
      | cons b r =>
        have hb : b ≠ c := by
          intro q
          have := h.1
          rw [e, con_con hc] at this
          exact this q
        simp only [con_con hc, if_neg hb, e]
    · simp only [push, if_neg e, con_con hc, if_pos]
theorem push_push' {st : List Nat} {c : Nat} (h : Red st) (hc : c ∈ sgns) : push (push st (con c)) c = st := by
  have := push_push (c := con c) h (con_mem hc)
  rw [con_con hc] at this
  exact this
theorem act_append (u v st : List Nat) : act (u ++ v) st = act v (act u st) := by simp [act, List.foldl_append]
theorem act_cons (a : Nat) (w st : List Nat) : act (a :: w) st = act w (push st a) := rfl
theorem act_row : ∀ (w st : List Nat), Row w → Row st → Row (act w st)
  | [], _, _, h => h
  | a :: w, st, hw, h => act_row w (push st a) (Row.tail hw) (push_row h (Row.head hw))
theorem act_red : ∀ (w st : List Nat), Red st → Red (act w st)
  | [], _, h => h
  | a :: w, st, h => act_red w (push st a) (push_red h)
theorem turn_cons (a : Nat) (w : List Nat) : turn (a :: w) = turn w ++ [con a] := by simp [turn]
theorem turn_append (u v : List Nat) : turn (u ++ v) = turn v ++ turn u := by simp [turn]
theorem turn_row {w : List Nat} (h : Row w) : Row (turn w) := by
  intro c hc
  simp only [turn, List.mem_map, List.mem_reverse] at hc
  obtain ⟨d, hd, rfl⟩ := hc
  exact con_mem (h d hd)
theorem turn_turn {w : List Nat} (h : Row w) : turn (turn w) = w := by
  unfold turn
  rw [← List.map_reverse, List.reverse_reverse, List.map_map]
  conv => rhs; rw [← List.map_id w]
  exact List.map_congr_left fun c hc => con_con (h c hc)
theorem turn_length (w : List Nat) : (turn w).length = w.length := by simp [turn]
theorem act_turn : ∀ {w st : List Nat}, Row w → Red st → act (turn w) (act w st) = st
  | [], _, _, _ => rfl
  | a :: w, st, hw, h => by
    rw [turn_cons, act_append]
    have e : act (a :: w) st = act w (push st a) := rfl
    rw [e, act_turn (Row.tail hw) (push_red h)]
    exact push_push h (Row.head hw)
theorem act_turn' {w st : List Nat} (hw : Row w) (h : Red st) : act w (act (turn w) st) = st := by
  have := act_turn (turn_row hw) h
  rw [turn_turn hw] at this
  exact this
/-- an unplain pair goes -/
theorem act_pair {c : Nat} {u v st : List Nat} (hc : c ∈ sgns) (h : Red st) : act (u ++ c :: con c :: v) st = act (u ++ v) st := by
  rw [act_append, act_append]
  show act v (push (push (act u st) c) (con c)) = _
  rw [push_push (act_red _ _ h) hc]
theorem act_pair' {c : Nat} {u v st : List Nat} (hc : c ∈ sgns) (h : Red st) : act (u ++ con c :: c :: v) st = act (u ++ v) st := by
  have := act_pair (c := con c) (u := u) (v := v) (con_mem hc) h
  rw [con_con hc] at this
  exact this
theorem Red.snoc_iff : ∀ {l : List Nat} {a b : Nat}, Red (l ++ [a, b]) ↔ Red (l ++ [a]) ∧ b ≠ con a
  | [], a, b => by simp [Red]
  | [x], a, b => by simp [Red, and_assoc]
  | x :: y :: l, a, b => by
    have := Red.snoc_iff (l := y :: l) (a := a) (b := b)
    simp only [List.cons_append] at this ⊢
    simp only [Red]
    constructor
    · rintro ⟨h1, h2⟩
      exact ⟨⟨h1, (this.mp h2).1⟩, (this.mp h2).2⟩
    · rintro ⟨⟨h1, h2⟩, h3⟩
      exact ⟨h1, this.mpr ⟨h2, h3⟩⟩
/-- a plain row as a stack: the same read backwards -/
theorem red_reverse : ∀ {l : List Nat}, Row l → (Red l ↔ Red l.reverse)
  | [], _ => by simp [Red]
  | [a], _ => by simp [Red]
  | a :: b :: r, h => by
    have ih := red_reverse (l := b :: r) (Row.tail h)
    rw [List.reverse_cons, List.reverse_cons, List.append_assoc]
    show Red (a :: b :: r) ↔ Red (r.reverse ++ [b, a])
    rw [Red.snoc_iff]
    rw [List.reverse_cons] at ih
    rw [← ih]
    show (b ≠ con a ∧ Red (b :: r)) ↔ _
    constructor
    · rintro ⟨h1, h2⟩
      refine ⟨h2, fun e => h1 ?_⟩
      rw [e, con_con (Row.head (Row.tail h))]
    · rintro ⟨h1, h2⟩
      refine ⟨fun e => h2 ?_, h1⟩
      rw [e, con_con (Row.head h)]
theorem red_drop : ∀ {l m : List Nat}, Red (l ++ m) → Red m
  | [], _, h => h
  | _ :: l, m, h => red_drop (l := l) (Red.tail h)
theorem act_of_red : ∀ {p st : List Nat}, Red (p.reverse ++ st) → act p st = p.reverse ++ st
  | [], _, _ => by simp [act]
  | a :: p, st, h => by
    have e : (a :: p).reverse ++ st = p.reverse ++ (a :: st) := by simp
    rw [e] at h ⊢
    show act p (push st a) = _
    have hp : push st a = a :: st := by
      cases st with
      | nil => rfl
      | cons d r =>
        have hr : Red (a :: d :: r) := red_drop h
        rw [push_cons, if_neg hr.1]
    rw [hp]
    exact act_of_red h
theorem plain_row {w : List Nat} (h : Row w) : Row (plain w) := fun c hc => act_row _ _ h (fun _ q => (by cases q)) c (List.mem_reverse.mp hc)
theorem plain_red {w : List Nat} (h : Row w) : Red (plain w) := by
  unfold plain
  exact (red_reverse (act_row _ _ h fun _ q => (by cases q))).mp (act_red w _ (by trivial))
theorem plain_of_red {w : List Nat} (h : Row w) (r : Red w) : plain w = w := by
  unfold plain
  rw [act_of_red (by rw [List.append_nil]; exact (red_reverse h).mp r), List.append_nil, List.reverse_reverse]
theorem plain_plain {w : List Nat} (h : Row w) : plain (plain w) = plain w := plain_of_red (plain_row h) (plain_red h)
theorem plain_pair {c : Nat} {u v : List Nat} (hc : c ∈ sgns) : plain (u ++ c :: con c :: v) = plain (u ++ v) := by
  unfold plain
  rw [act_pair hc (by trivial)]
theorem push_plain {w : List Nat} {c : Nat} : act (w ++ [c]) [] = push (act w []) c := by rw [act_append]; rfl
/-- a row and it made plain act alike on plain stacks -/
theorem act_plain_aux : ∀ {w : List Nat}, Row w → ∀ {st : List Nat}, Red st → Row st → act (plain w) st = act w st := by
  intro w
  generalize hn : w.length = n
  induction n generalizing w with
  | zero =>
    intro h st _ _
    have : w = [] := List.eq_nil_of_length_eq_zero hn
    subst this
    rfl
  | succ n ih =>
    intro h st hr hs
    obtain ⟨u, c, rfl⟩ : ∃ u c, w = u ++ [c] := ⟨w.dropLast, w.getLast (by intro e; simp [e] at hn), (List.dropLast_concat_getLast _).symm⟩
    have hu : Row u := fun d hd => h d (List.mem_append_left _ hd)
    have hc : c ∈ sgns := h c (by simp)
    have hl : u.length = n := by simp at hn; exact hn
    have e := ih hl hu hr hs
    rw [act_append]
    show act (plain (u ++ [c])) st = push (act u st) c
    rw [← e]
    unfold plain
    rw [push_plain]
    cases hst : act u [] with
    | nil => simp [push, act]
    | cons d r =>
      by_cases q : d = con c
      · simp only [push, if_pos q]
        have e2 : (d :: r).reverse = r.reverse ++ [d] := by simp
        rw [e2, act_append]
        show _ = push (push (act r.reverse st) d) c
        rw [q, push_push' (act_red _ _ hr) hc]
      · simp only [push, if_neg q]
        have e2 : (c :: d :: r).reverse = (d :: r).reverse ++ [c] := by simp
        rw [e2, act_append]
        rfl
theorem act_plain {w st : List Nat} (h : Row w) (hr : Red st) (hs : Row st) : act (plain w) st = act w st := act_plain_aux h hr hs
theorem nil_row : Row [] := fun _ q => (by cases q)
theorem plain_turn {w : List Nat} (h : Row w) : plain (turn w) = turn (plain w) := by
  have hp := plain_row h
  have rp : Red (turn (plain w)) := by
    unfold turn
    have : ∀ l : List Nat, Row l → Red l → Red (l.map con) := by
      intro l
      induction l with
      | nil => intros; trivial
      | cons a l ih =>
        cases l with
        | nil => intros; trivial
        | cons b l =>
          intro hl hr
          refine ⟨fun e => hr.1 ?_, ih (Row.tail hl) hr.2⟩
          have := con_inj (Row.head (Row.tail hl)) (con_mem (Row.head hl)) e
          exact this
    exact this _ (fun c hc => hp c (List.mem_reverse.mp hc)) ((red_reverse hp).mp (plain_red h))
  have e : act (turn w) [] = act (turn (plain w)) [] := by
    have h1 : act w (act (turn w) []) = [] := act_turn' h (by trivial)
    have r1 : Red (act (turn w) []) := act_red _ _ (by trivial)
    have w1 : Row (act (turn w) []) := act_row _ _ (turn_row h) nil_row
    rw [← act_plain h r1 w1] at h1
    have h2 := act_turn (w := plain w) (st := act (turn w) []) hp r1
    rw [h1] at h2
    exact h2.symm
  have e2 : plain (turn w) = plain (turn (plain w)) := by unfold plain at *; rw [e]
  rw [e2, plain_of_red (turn_row hp) rp]
theorem plain_there_back {u : List Nat} (h : Row u) : plain (u ++ turn u) = [] := by
  unfold plain
  rw [act_append, act_turn h (by trivial)]
  rfl
theorem push_length (st : List Nat) (c : Nat) : (push st c).length ≤ st.length + 1 := by
  cases st with
  | nil => simp [push]
  | cons d r =>
    rw [push_cons]
    by_cases q : d = con c
    · rw [if_pos q]; simp; omega
    · rw [if_neg q]; simp
theorem act_length : ∀ (w st : List Nat), (act w st).length ≤ st.length + w.length
  | [], st => by simp [act]
  | a :: w, st => by
    have := act_length w (push st a)
    have h2 := push_length st a
    show (act w (push st a)).length ≤ _
    simp only [List.length_cons]
    omega
theorem plain_length (w : List Nat) : (plain w).length ≤ w.length := by
  unfold plain
  rw [List.length_reverse]
  simpa using act_length w []
/-! ### the order of rows -/
def lexI : List Nat → List Nat → Bool
  | a :: l, b :: m => if a = b then lexI l m else decide (a < b)
  | _, _ => false
def aheadL : List Nat → List Nat → Bool
  | a :: l, b :: m => if a = b then aheadL l m else if lo a ≠ lo b then decide (lo a < lo b) else decide (97 ≤ a)
  | _, _ => false
def before (l m : List Nat) : Bool := if l.length = m.length then lexI (l.map ix) (m.map ix) else decide (l.length < m.length)
theorem ix_inj {a b : Nat} (ha : a ∈ sgns) (hb : b ∈ sgns) : ix a = ix b ↔ a = b := by
  have : ∀ a ∈ sgns, ∀ b ∈ sgns, (ix a = ix b ↔ a = b) := by decide
  exact this a ha b hb
theorem ix_lt {a b : Nat} (ha : a ∈ sgns) (hb : b ∈ sgns) (h : a ≠ b) : decide (ix a < ix b) = (if lo a ≠ lo b then decide (lo a < lo b) else decide (97 ≤ a)) := by
  have : ∀ a ∈ sgns, ∀ b ∈ sgns, a ≠ b → decide (ix a < ix b) = (if lo a ≠ lo b then decide (lo a < lo b) else decide (97 ≤ a)) := by decide
  exact this a ha b hb h
theorem ahead_lex : ∀ {l m : List Nat}, Row l → Row m → aheadL l m = lexI (l.map ix) (m.map ix)
  | [], _, _, _ => by simp [aheadL, lexI]
  | a :: l, [], _, _ => by simp [aheadL, lexI]
  | a :: l, b :: m, hl, hm => by
    have ih := ahead_lex (Row.tail hl) (Row.tail hm)
    simp only [aheadL, List.map_cons, lexI, ix_inj (Row.head hl) (Row.head hm)]
    by_cases e : a = b
    · rw [if_pos e, if_pos e, ih]
    · rw [if_neg e, if_neg e, ix_lt (Row.head hl) (Row.head hm) e]
theorem lexI_trans : ∀ {l m n : List Nat}, l.length = m.length → m.length = n.length → lexI l m = true → lexI m n = true → lexI l n = true
  | [], _, _, _, _, h, _ => by simp [lexI] at h
  | a :: l, [], _, h, _, _, _ => by simp at h
  | a :: l, b :: m, [], _, h, _, _ => by simp at h
  | a :: l, b :: m, c :: n, h1, h2, h3, h4 => by
    simp only [lexI] at h3 h4 ⊢
    have e1 : l.length = m.length := by simpa using h1
    have e2 : m.length = n.length := by simpa using h2
    by_cases p : a = b
    · subst p
      rw [if_pos rfl] at h3
      by_cases q : a = c
      · subst q
        rw [if_pos rfl] at h4 ⊢
        exact lexI_trans e1 e2 h3 h4
      · rw [if_neg q] at h4 ⊢
        exact h4
    · rw [if_neg p] at h3
      have h3' := of_decide_eq_true h3
      by_cases q : b = c
      · subst q
        rw [if_neg p]
        exact h3
      · rw [if_neg q] at h4
        have h4' := of_decide_eq_true h4
        have : a ≠ c := by omega
        rw [if_neg this]
        exact decide_eq_true (by omega)
theorem before_trans {l m n : List Nat} (h1 : before l m = true) (h2 : before m n = true) : before l n = true := by
  unfold before at *
  by_cases e1 : l.length = m.length
  · rw [if_pos e1] at h1
    by_cases e2 : m.length = n.length
    · rw [if_pos e2] at h2
      rw [if_pos (e1.trans e2)]
      exact lexI_trans (by simpa using e1) (by simpa using e2) h1 h2
    · rw [if_neg e2] at h2
      have := of_decide_eq_true h2
      rw [if_neg (by omega)]
      exact decide_eq_true (by omega)
  · rw [if_neg e1] at h1
    have h1' := of_decide_eq_true h1
    by_cases e2 : m.length = n.length
    · rw [if_neg (by omega)]
      exact decide_eq_true (by omega)
    · rw [if_neg e2] at h2
      have := of_decide_eq_true h2
      rw [if_neg (by omega)]
      exact decide_eq_true (by omega)
end RowM

namespace WalkM
open RowM
/-! ### places: a plain row goes on by a sign -/
def on (p : List Nat) (c : Nat) : List Nat := if p.getLast? = some (con c) then p.dropLast else p ++ [c]
theorem on_push (st : List Nat) (c : Nat) : on st.reverse c = (push st c).reverse := by
  cases st with
  | nil => simp [on, push]
  | cons d r =>
    unfold on
    rw [push_cons, List.getLast?_reverse, List.head?_cons]
    by_cases q : d = con c
    · rw [if_pos q, if_pos (by rw [q])]
      simp
    · rw [if_neg q, if_neg (by intro h; injection h with h; exact q h)]
      simp
theorem plain_snoc (w : List Nat) (c : Nat) : plain (w ++ [c]) = on (plain w) c := by
  unfold plain
  rw [act_append, on_push]
  rfl
theorem plain_nil : plain [] = [] := rfl
theorem foldl_on : ∀ (w p : List Nat), w.foldl on p = (act w p.reverse).reverse
  | [], p => by simp [act]
  | c :: w, p => by
    rw [List.foldl_cons, foldl_on w (on p c)]
    have e : (on p c).reverse = push p.reverse c := by
      have := on_push p.reverse c
      rw [List.reverse_reverse] at this
      rw [this, List.reverse_reverse]
    rw [e]
    rfl
theorem plain_fold (w : List Nat) : w.foldl on [] = plain w := foldl_on w []
/-- a plain row -/
def PRow (p : List Nat) : Prop := Row p ∧ Red p
theorem prow_plain {w : List Nat} (h : Row w) : PRow (plain w) := ⟨plain_row h, plain_red h⟩
theorem prow_nil : PRow [] := ⟨nil_row, trivial⟩
theorem plain_prow {p : List Nat} (h : PRow p) : plain p = p := plain_of_red h.1 h.2
theorem prow_iff {p : List Nat} (h : Row p) : plain p = p ↔ PRow p := ⟨fun e => e ▸ prow_plain h, plain_prow⟩
theorem prow_on {p : List Nat} {c : Nat} (h : PRow p) (hc : c ∈ sgns) : PRow (on p c) := by
  have e : on p c = plain (p ++ [c]) := by rw [plain_snoc, plain_prow h]
  rw [e]
  refine prow_plain fun d hd => ?_
  rcases List.mem_append.mp hd with q | q
  · exact h.1 d q
  · rw [List.mem_singleton.mp q]; exact hc
theorem on_plain {p : List Nat} (c : Nat) (h : PRow p) : plain (p ++ [c]) = on p c := by rw [plain_snoc, plain_prow h]
theorem red_init : ∀ {l m : List Nat}, Red (l ++ m) → Red l
  | [], _, _ => trivial
  | [_], _, _ => trivial
  | a :: b :: l, m, h => ⟨h.1, red_init (l := b :: l) (m := m) h.2⟩
theorem prow_drop {p : List Nat} (h : PRow p) : PRow p.dropLast := by
  refine ⟨fun c hc => h.1 c (List.dropLast_subset p hc), ?_⟩
  by_cases e : p = []
  · subst e; trivial
  · have := List.dropLast_concat_getLast e
    exact red_init (m := [p.getLast e]) (by rw [this]; exact h.2)
theorem on_length (p : List Nat) (c : Nat) : (on p c).length ≤ p.length + 1 := by
  unfold on
  split <;> simp
  omega
/-! ### the places of a row, in the order in which they come -/
def addK (ks : List (List Nat)) (p : List Nat) : List (List Nat) := if p ∈ ks then ks else ks ++ [p]
theorem mem_addK {ks : List (List Nat)} {p q : List Nat} : q ∈ addK ks p ↔ q ∈ ks ∨ q = p := by
  unfold addK
  split
  · rename_i h
    exact ⟨.inl, fun z => z.elim id fun e => e ▸ h⟩
  · simp
theorem addK_nodup {ks : List (List Nat)} {p : List Nat} (h : ks.Nodup) : (addK ks p).Nodup := by
  unfold addK
  split
  · exact h
  · rename_i q
    refine List.nodup_append.mpr ⟨h, by simp, ?_⟩
    intro a ha b hb e
    rw [List.mem_singleton.mp hb] at e
    exact q (e ▸ ha)
theorem addK_length (ks : List (List Nat)) (p : List Nat) : (addK ks p).length ≤ ks.length + 1 := by
  unfold addK
  split <;> simp
def goSt (l : List Nat) : List Nat × List (List Nat) := l.foldl (fun st c => (on st.1 c, addK st.2 (on st.1 c))) ([], [[]])
def gone (l : List Nat) : List (List Nat) := (goSt l).2
theorem goSt_snoc (l : List Nat) (c : Nat) : goSt (l ++ [c]) = (on (goSt l).1 c, addK (goSt l).2 (on (goSt l).1 c)) := by
  unfold goSt
  rw [List.foldl_append]
  rfl
theorem snoc_ind {P : List Nat → Prop} (h0 : P []) (h1 : ∀ l c, P l → P (l ++ [c])) (l : List Nat) : P l := by
  have : ∀ m : List Nat, P m.reverse := by
    intro m
    induction m with
    | nil => exact h0
    | cons a m ih => rw [List.reverse_cons]; exact h1 _ _ ih
  have q := this l.reverse
  rwa [List.reverse_reverse] at q
theorem goSt_fst (l : List Nat) : (goSt l).1 = plain l := by
  refine snoc_ind (P := fun l => (goSt l).1 = plain l) rfl (fun l c ih => ?_) l
  rw [goSt_snoc, plain_snoc, ih]
theorem gone_snoc (l : List Nat) (c : Nat) : gone (l ++ [c]) = addK (gone l) (on (plain l) c) := by
  unfold gone
  rw [goSt_snoc, goSt_fst]
theorem gone_nil : gone [] = [[]] := rfl
/-- a tree: plain rows, each once, with each also the one without its last sign -/
structure Tree (ts : List (List Nat)) : Prop where
  nd : ts.Nodup
  pr : ∀ p ∈ ts, PRow p
  cl : ∀ p ∈ ts, p ≠ [] → p.dropLast ∈ ts
theorem end_gone (l : List Nat) : plain l ∈ gone l := by
  refine snoc_ind (P := fun l => plain l ∈ gone l) (by simp [gone_nil, plain_nil]) (fun l c _ => ?_) l
  rw [gone_snoc, plain_snoc]
  exact mem_addK.mpr (.inr rfl)
theorem on_mem {ts : List (List Nat)} {p : List Nat} {c : Nat} (t : Tree ts) (hp : p ∈ ts) (ne : on p c ≠ p ++ [c]) : on p c ∈ ts := by
  unfold on at ne ⊢
  split
  · rename_i q
    exact t.cl p hp fun e => by rw [e] at q; cases q
  · rename_i q
    rw [if_neg q] at ne
    exact absurd rfl ne
theorem on_drop {p : List Nat} {c : Nat} (e : on p c = p ++ [c]) : (on p c).dropLast = p := by rw [e]; simp
theorem tree_gone {l : List Nat} (h : Row l) : Tree (gone l) := by
  refine snoc_ind (P := fun l => Row l → Tree (gone l)) (fun _ => ⟨by simp [gone_nil], fun p hp => ?_, fun p hp ne => ?_⟩) (fun l c ih h => ?_) l h
  · rw [gone_nil] at hp; rw [List.mem_singleton.mp hp]; exact prow_nil
  · rw [gone_nil] at hp; exact absurd (List.mem_singleton.mp hp) ne
  · have hl : Row l := fun d hd => h d (List.mem_append_left _ hd)
    have hc : c ∈ sgns := h c (by simp)
    have t := ih hl
    rw [gone_snoc]
    refine ⟨addK_nodup t.nd, fun p hp => ?_, fun p hp ne => ?_⟩
    · rcases mem_addK.mp hp with q | q
      · exact t.pr p q
      · rw [q]; exact prow_on (prow_plain hl) hc
    · rcases mem_addK.mp hp with q | q
      · exact mem_addK.mpr (.inl (t.cl p q ne))
      · by_cases e : on (plain l) c = plain l ++ [c]
        · rw [q, on_drop e]
          exact mem_addK.mpr (.inl (end_gone l))
        · have := on_mem t (end_gone l) e
          rw [q] at ne ⊢
          exact mem_addK.mpr (.inl (t.cl _ this ne))
theorem gone_length (l : List Nat) : (gone l).length ≤ l.length + 1 := by
  refine snoc_ind (P := fun l => (gone l).length ≤ l.length + 1) (by simp [gone_nil]) (fun l c ih => ?_) l
  rw [gone_snoc, List.length_append]
  have := addK_length (gone l) (on (plain l) c)
  simp only [List.length_singleton]
  omega
theorem gone_pos (l : List Nat) : 1 ≤ (gone l).length := by
  have := List.length_pos_of_mem (end_gone l)
  omega
theorem gone_small (l : List Nat) : ∀ p ∈ gone l, p.length ≤ l.length := by
  refine snoc_ind (P := fun l => ∀ p ∈ gone l, p.length ≤ l.length) (fun p hp => ?_) (fun l c ih p hp => ?_) l
  · rw [gone_nil] at hp; rw [List.mem_singleton.mp hp]; simp
  · rw [gone_snoc] at hp
    rw [List.length_append, List.length_singleton]
    rcases mem_addK.mp hp with q | q
    · have := ih p q; omega
    · have h1 := on_length (plain l) c
      have h2 := plain_length l
      rw [q]; omega
theorem nil_gone (l : List Nat) : [] ∈ gone l := by
  refine snoc_ind (P := fun l => [] ∈ gone l) (by simp [gone_nil]) (fun l c ih => ?_) l
  rw [gone_snoc]
  exact mem_addK.mpr (.inl ih)
/-! ### the order of rows -/
def leR (a b : List Nat) : Bool := !before b a
theorem lexI_asymm : ∀ {l m : List Nat}, lexI l m = true → lexI m l = false
  | [], _, h => by simp [lexI] at h
  | _ :: _, [], h => by simp [lexI] at h
  | a :: l, b :: m, h => by
    simp only [lexI] at h ⊢
    by_cases e : a = b
    · subst e
      rw [if_pos rfl] at h ⊢
      exact lexI_asymm h
    · rw [if_neg e] at h
      have := of_decide_eq_true h
      rw [if_neg (fun z => e z.symm)]
      exact decide_eq_false (by omega)
theorem lexI_eq : ∀ {l m : List Nat}, l.length = m.length → lexI l m = false → lexI m l = false → l = m
  | [], [], _, _, _ => rfl
  | [], _ :: _, h, _, _ => by simp at h
  | _ :: _, [], h, _, _ => by simp at h
  | a :: l, b :: m, h, h1, h2 => by
    simp only [lexI] at h1 h2
    by_cases e : a = b
    · subst e
      rw [if_pos rfl] at h1 h2
      rw [lexI_eq (by simpa using h) h1 h2]
    · rw [if_neg e] at h1
      rw [if_neg (fun z => e z.symm)] at h2
      have := of_decide_eq_false h1
      have := of_decide_eq_false h2
      omega
theorem before_asymm {l m : List Nat} (h : before l m = true) : before m l = false := by
  unfold before at *
  by_cases e : l.length = m.length
  · rw [if_pos e] at h
    rw [if_pos e.symm]
    exact lexI_asymm h
  · rw [if_neg e] at h
    rw [if_neg (fun z => e z.symm)]
    have := of_decide_eq_true h
    exact decide_eq_false (by omega)
theorem map_ix_inj : ∀ {l m : List Nat}, Row l → Row m → l.map ix = m.map ix → l = m
  | [], [], _, _, _ => rfl
  | [], _ :: _, _, _, h => by simp at h
  | _ :: _, [], _, _, h => by simp at h
  | a :: l, b :: m, h1, h2, h => by
    simp only [List.map_cons, List.cons.injEq] at h
    rw [(ix_inj (Row.head h1) (Row.head h2)).mp h.1, map_ix_inj (Row.tail h1) (Row.tail h2) h.2]
theorem before_eq {l m : List Nat} (hl : Row l) (hm : Row m) (h1 : before l m = false) (h2 : before m l = false) : l = m := by
  unfold before at *
  by_cases e : l.length = m.length
  · rw [if_pos e] at h1
    rw [if_pos e.symm] at h2
    exact map_ix_inj hl hm (lexI_eq (by simp [e]) h1 h2)
  · rw [if_neg e] at h1
    rw [if_neg (fun z => e z.symm)] at h2
    have := of_decide_eq_false h1
    have := of_decide_eq_false h2
    omega
theorem lexI_cotrans : ∀ {l m n : List Nat}, l.length = m.length → m.length = n.length → lexI l n = true → lexI l m = true ∨ lexI m n = true
  | [], _, _, _, _, h => by simp [lexI] at h
  | a :: l, [], _, h, _, _ => by simp at h
  | a :: l, b :: m, [], _, h, _ => by simp at h
  | a :: l, b :: m, c :: n, h1, h2, h => by
    simp only [lexI] at h ⊢
    by_cases e1 : a = b
    · subst e1
      by_cases e2 : a = c
      · subst e2
        rw [if_pos rfl] at h ⊢
        rw [if_pos rfl]
        exact lexI_cotrans (by simpa using h1) (by simpa using h2) h
      · rw [if_neg e2] at h ⊢
        exact .inr h
    · by_cases e2 : b = c
      · subst e2
        rw [if_neg e1] at h ⊢
        exact .inl h
      · by_cases e3 : a = c
        · subst e3
          rw [if_neg e1, if_neg e2]
          by_cases q : a < b
          · exact .inl (decide_eq_true q)
          · exact .inr (decide_eq_true (by omega))
        · rw [if_neg e3] at h
          rw [if_neg e1, if_neg e2]
          have := of_decide_eq_true h
          by_cases q : a < b
          · exact .inl (decide_eq_true q)
          · exact .inr (decide_eq_true (by omega))
theorem before_cotrans {l m n : List Nat} (h : before l n = true) : before l m = true ∨ before m n = true := by
  unfold before at *
  by_cases e1 : l.length = m.length
  · by_cases e2 : m.length = n.length
    · rw [if_pos (e1.trans e2)] at h
      rw [if_pos e1, if_pos e2]
      exact lexI_cotrans (by simp [e1]) (by simp [e2]) h
    · rw [if_neg (by omega)] at h
      have := of_decide_eq_true h
      rw [if_neg e2]
      exact .inr (decide_eq_true (by omega))
  · rw [if_neg e1]
    by_cases q : l.length < m.length
    · exact .inl (decide_eq_true q)
    · refine .inr ?_
      by_cases e2 : m.length = n.length
      · rw [if_neg (by omega)] at h
        have := of_decide_eq_true h
        omega
      · rw [if_neg e2]
        by_cases e3 : l.length = n.length
        · exact decide_eq_true (by omega)
        · rw [if_neg e3] at h
          have := of_decide_eq_true h
          exact decide_eq_true (by omega)
theorem leR_trans (a b c : List Nat) (h1 : leR a b = true) (h2 : leR b c = true) : leR a c = true := by
  unfold leR at *
  simp only [Bool.not_eq_true'] at *
  cases h : before c a with
  | false => rfl
  | true =>
    rcases before_cotrans (m := b) h with q | q
    · rw [q] at h2; cases h2
    · rw [q] at h1; cases h1
theorem leR_total (a b : List Nat) : (leR a b || leR b a) = true := by
  unfold leR
  cases h : before b a with
  | false => rfl
  | true => rw [before_asymm h]; rfl
def srt (ts : List (List Nat)) : List (List Nat) := ts.mergeSort leR
theorem srt_perm (ts : List (List Nat)) : (srt ts).Perm ts := List.mergeSort_perm _ _
theorem srt_mem {ts : List (List Nat)} {p : List Nat} : p ∈ srt ts ↔ p ∈ ts := (srt_perm ts).mem_iff
theorem srt_length (ts : List (List Nat)) : (srt ts).length = ts.length := (srt_perm ts).length_eq
theorem srt_pairwise (ts : List (List Nat)) : (srt ts).Pairwise (fun a b => leR a b = true) := List.pairwise_mergeSort (by exact leR_trans) (by exact leR_total) ts
theorem srt_nodup {ts : List (List Nat)} (h : ts.Nodup) : (srt ts).Nodup := (srt_perm ts).nodup_iff.mpr h
theorem srt_tree {ts : List (List Nat)} (t : Tree ts) : Tree (srt ts) := ⟨srt_nodup t.nd, fun p hp => t.pr p (srt_mem.mp hp), fun p hp ne => srt_mem.mpr (t.cl p (srt_mem.mp hp) ne)⟩
/-- one set of rows has one order -/
theorem srt_uniq {ts us : List (List Nat)} (h : ts.Perm us) (hr : ∀ p ∈ ts, Row p) : srt ts = srt us := by
  refine List.Perm.eq_of_pairwise (le := fun a b => leR a b = true) (fun a b ha hb h1 h2 => ?_) (srt_pairwise ts) (srt_pairwise us) ((srt_perm ts).trans (h.trans (srt_perm us).symm))
  have ra := hr a (srt_mem.mp ha)
  have rb := hr b (h.symm.mem_iff.mp (srt_mem.mp hb))
  unfold leR at h1 h2
  simp only [Bool.not_eq_true'] at h1 h2
  exact before_eq ra rb h2 h1
end WalkM

namespace L2
open PySem PySem.Spec PyProof.Rows
/-! ### rules beside the layer's own -/
section
variable {X : Cx}
/-- a constant of the module -/
theorem pe_globC {x : Str} {v : V} {pos : Pos} (h : ∃ u, X.mg x = some u ∧ RelV v u) (hg : Gl X x := by rfl) (hd : (x == ("__debug__" : Str)) = false := by decide) : PE X (.Name x pos) (tC v) := by
  obtain ⟨u, hm, r⟩ := h
  exact pe_glob hg hm r hd
/-- data that are alike: < -/
def rLtD (K : PySem.W.Frag) : R2 := fun x y H Q => ∃ d e, Dp K H x d ∧ Dp K H y e ∧ PySem.W.alike d e = true ∧ d ≠ .none ∧ min d.depth e.depth ≤ 60 ∧ Q (.bl (PySem.W.dataLt d e)) H
theorem op_ltD (hu : X.A.units + 64 < cLine) : OpR X (compareOp .Lt) (rLtD X.K) := by
  intro pins s σ H x y v u Q I rx ry h
  obtain ⟨d, e, hd, he, al, hn, hz, q⟩ := h
  obtain ⟨as, r1⟩ := Dp.reads I d x v hd rx
  obtain ⟨bs, r2⟩ := Dp.reads I e y u he ry
  exact PySem.W.lt_data r1 r2 al hn (by omega) ⟨.bl _, H, I, rfl, q⟩
/-- text[::-1] -/
def tRevS (te : TE) : TE := fun σ H Q => te σ H fun x H1 => ∃ z : Str, x = .str z ∧ z.length ≤ sizeLine ∧ Q (.str ⟨z.cps.toList.reverse.toArray⟩) H1
theorem pick_rev (z : Str) : ((Builtin.Str.strSliceIndices none none (-1) z.length).filterMap (z.cps[·]?)).toArray = z.cps.toList.reverse.toArray := by
  rw [PyProof.Rows.picked_rev]
  congr 1
  rw [PyProof.Rows.filterMap_get _ _ (fun i hi => by
    simp only [List.mem_map, List.mem_range] at hi
    obtain ⟨k, hk, rfl⟩ := hi
    have : z.length = z.cps.size := rfl
    omega)]
  apply List.ext_getElem
  · simp [Str.length]
  · intro i h1 h2
    simp only [List.length_map, List.length_range, Str.length] at h1
    simp only [List.map_map, List.getElem_map, List.getElem_range, List.getElem_reverse, Function.comp, Str.length, Array.length_toList]
    rw [Array.getD_eq_getD_getElem?]
    rw [Array.getElem?_eq_getElem (by omega)]
    simp
theorem pe_revS {e : Expr} {te : TE} {k : Nat} {p1 p2 p3 pos : Pos} (he : PE X e te) : PE X (.Subscript e (.Slice none none (some (.UnaryOp .USub (.Constant (.int 1) k p1) p2)) p3) pos) (tRevS te) := by
  refine ⟨fun pins s σ H Q I h => ?_⟩
  refine Subscript_ (thn (he.run pins s σ H _ I h) fun v s1 ⟨x, H1, I1, r1, q1⟩ => ?_)
  obtain ⟨z, ex, hz, q⟩ := q1
  subst ex
  obtain ⟨t, rfl⟩ := r1
  have hst : PO X (some (.UnaryOp .USub (.Constant (.int 1) k p1) p2)) (tPart (tUn (rU fun i => .int (-i)) (tC (.int 1)))) := po_some (pe_un un_neg pe_int)
  refine wpAny_Slice (thn (po_none.run pins s1 σ H1 (fun o H2 => o = none ∧ H2 = H1) I1 ⟨rfl, rfl⟩) fun vl s2 ⟨l, H2, I2, pl, el, e2⟩ => ?_)
  subst el e2
  refine thn (po_none.run pins s2 σ H2 (fun o H3 => o = none ∧ H3 = H2) I2 ⟨rfl, rfl⟩) fun vu s3 ⟨u, H3, I3, pu, eu, e3⟩ => ?_
  subst eu e3
  refine thn (hst.run pins s3 σ H3 (fun o H4 => o = some (-1) ∧ H4 = H3) I3 ⟨1, rfl, -1, rfl, rfl, rfl⟩) fun vs s4 ⟨o, H4, I4, ps, eo, e4⟩ => ?_
  subst eo e4
  obtain ⟨l1, rfl, hl1⟩ := IsPart.raw pl
  obtain ⟨u1, rfl, hu1⟩ := IsPart.raw pu
  obtain ⟨w1, rfl, hw1⟩ := IsPart.raw ps
  have I5 : Inv X pins σ H4 { s4 with heap := s4.heap.push { cls := .type "slice", data := .fields #[partValue l1, partValue u1, partValue w1] } } := I4.kept (t' := s4.toks) fun b ob q => Heap.get?_push_of_some _ q
  show wpAny (model X.prog X.w) X.A (subscriptTail e (.Slice none none (some (.UnaryOp .USub (.Constant (.int 1) k p1) p2)) p3) (.str z t) (.ref s4.heap.objs.size)) (EP X pins σ Q) X.xe { s4 with heap := s4.heap.push { cls := .type "slice", data := .fields #[partValue l1, partValue u1, partValue w1] } }
  refine tail_any (ops := [.str z t, .ref s4.heap.objs.size]) (typeIs_str _ _ _) F.slot_str_getitem.lookup ?_ (by with_unfolding_all rfl)
  refine wpAny_getItem_str_slice (l := l1) (u := u1) (st := w1) ⟨_, Heap.get?_push_size _ rfl, rfl, rfl⟩ (by rw [hw1]; rfl) ?_
  have hl : (⟨z.cps.toList.reverse.toArray⟩ : Str).length ≤ sizeLine := by
    show z.cps.toList.reverse.toArray.size ≤ sizeLine
    simpa [Str.length] using hz
  show Made.post (if ((w1.map (·.1)).getD 1 == 1 && (Builtin.Str.strSliceIndices (l1.map (·.1)) (u1.map (·.1)) ((w1.map (·.1)).getD 1) z.length).length == z.length) = true then Made.val (.str z t)
    else Made.str ⟨((Builtin.Str.strSliceIndices (l1.map (·.1)) (u1.map (·.1)) ((w1.map (·.1)).getD 1) z.length).filterMap (z.cps[·]?)).toArray⟩) (EP X pins σ Q) _
  rw [hl1, hu1, hw1]
  show Made.post (if ((-1 : Int) == 1 && (Builtin.Str.strSliceIndices none none (-1) z.length).length == z.length) = true then Made.val (.str z t)
    else Made.str ⟨((Builtin.Str.strSliceIndices none none (-1) z.length).filterMap (z.cps[·]?)).toArray⟩) (EP X pins σ Q) _
  rw [if_neg (by simp), pick_rev]
  exact ⟨hl, .str _, H4, I5.tok _, ⟨_, rfl⟩, q⟩
end
end L2

namespace L2
open PySem PySem.Spec PyProof.Rows
/-! ### zip of two texts -/
def Itzs (x y : Str) : It :=
  ⟨fun i _ => i < x.cps.size ∧ i < y.cps.size,
    fun i H v H' => ∃ T c d, v = .ref T ∧ H T = none ∧ H' = upd H T (.tup [.str ⟨#[c]⟩, .str ⟨#[d]⟩]) ∧ x.cps[i]? = some c ∧ y.cps[i]? = some d,
    fun i _ => (i ≤ x.cps.size ∧ i ≤ y.cps.size) ∧ (i = x.cps.size ∨ i = y.cps.size)⟩
theorem turn_zipS {P : Program} {w : World} {K : PySem.W.Frag} {elts : List Expr} {kk : Nat} {tpos : Pos} {z TI TO i1 i2 : Addr} (S : ZipSep2 z TI TO i1 i2 [i1] [i2]) (x y : Str) (t u : Tok) :
    Turn P w K (.Tuple elts kk tpos) (Itzs x y) [z, TI, TO, i1, i2] z
      (fun i h => IsZip h z TI TO .none ∧ IsTupOf2 h TI (.ref i1) (.ref i2) ∧ (∃ a b, IsTupOf2 h TO a b) ∧ h.IsStrIter i1 (strIterType x) x t i ∧ h.IsStrIter i2 (strIterType y) y u i) where
  mem := by simp
  obj := fun i h st c hc => by
    obtain ⟨hz, hTI, ⟨a, b, hTO⟩, ⟨o1, e1, _, d1⟩, ⟨o2, e2, _, d2⟩⟩ := st
    have e' : c = z ∨ c = TI ∨ c = TO ∨ c = i1 ∨ c = i2 := by simpa using hc
    rcases e' with q | q | q | q | q
    · rw [q]; exact ⟨_, hz, fun v q => nomatch q⟩
    · rw [q]; exact ⟨_, hTI, fun v q => nomatch q⟩
    · rw [q]; exact ⟨_, hTO, fun v q => nomatch q⟩
    · rw [q]; exact ⟨o1, e1, fun v q => by rw [d1] at q; cases q⟩
    · rw [q]; exact ⟨o2, e2, fun v q => by rw [d2] at q; cases q⟩
  keep := fun i h h' st k => by
    obtain ⟨hz, hTI, ⟨a, b, hTO⟩, ⟨o1, e1, r1⟩, ⟨o2, e2, r2⟩⟩ := st
    exact ⟨k z (by simp) _ hz, k TI (by simp) _ hTI, ⟨a, b, k TO (by simp) _ hTO⟩, ⟨o1, k i1 (by simp) _ e1, r1⟩, ⟨o2, k i2 (by simp) _ e2, r2⟩⟩
  item := by
    intro X hP hw hK hc i pins s σ H E I hf st hg
    subst hP hw hK
    obtain ⟨hz, hTI, ⟨a0, b0, hTO⟩, h1, h2⟩ := st
    obtain ⟨g1, g2⟩ := hg
    have hh : X.A.in1.handled = none := I.ok.hd hc
    have hzl : z < s.heap.objs.size := Heap.lt_size hz
    refine wpAny_pyNext_zipD2_item S (Draws.text hh i1 x t) (Draws.text hh i2 y u) hz hTI hTO h1 h2 g1 g2 fun x1 x2 h' tk p1 p2 h1' TO' s1 s2 hT hsz hk => ?_
    obtain ⟨c, tc, hc1, rfl⟩ := p1
    obtain ⟨d, td, hd1, rfl⟩ := p2
    refine ⟨_, rfl, wpAny_letOwnedTupleGo_zip (s := { s with heap := h', toks := tk }) h1' fun h'' z'' sb => ?_⟩
    have hT2 : h''.get? s.heap.objs.size = some { cls := .type "tuple", data := .seq #[Value.str ⟨#[c]⟩ tc, Value.str ⟨#[d]⟩ td] } := (sb.2 _ (Nat.ne_of_gt hzl)).trans hT
    have new : ObjOk X.prog X.w (upd H s.heap.objs.size (.tup [.str ⟨#[c]⟩, .str ⟨#[d]⟩])) h'' s.heap.objs.size (.tup [.str ⟨#[c]⟩, .str ⟨#[d]⟩]) :=
      ⟨by show 2 ≤ sizeLine; decide, [Value.str ⟨#[c]⟩ tc, Value.str ⟨#[d]⟩ td], .cons ⟨tc, rfl⟩ (.cons ⟨td, rfl⟩ .nil), ⟨_, hT2, rfl, _, rfl⟩⟩
    have I1 : Inv X pins σ (upd H s.heap.objs.size (.tup [.str ⟨#[c]⟩, .str ⟨#[d]⟩])) { s with heap := h'', toks := tk } :=
      I.turnedNew (t' := tk) (ch := [z, TI, TO, i1, i2]) (fun c o hb q => (sb.2 c (fun q' => hb (by simp [q']))).trans (hk c o (fun q' => hb (by simp [q'])) (fun q' => hb (by simp [q'])) (fun q' => hb (by simp [q'])) (fun q' => hb (by simp [q'])) q)) hf (Nat.le_refl _) new
    have st1 : h''.IsStrIter i1 (strIterType x) x t (i + 1) := by
      obtain ⟨o, e, r⟩ := s1
      exact ⟨o, (sb.2 _ (fun q => S.zf1 (by rw [← q]; simp))).trans e, r⟩
    have st2 : h''.IsStrIter i2 (strIterType y) y u (i + 1) := by
      obtain ⟨o, e, r⟩ := s2
      exact ⟨o, (sb.2 _ (fun q => S.zf2 (by rw [← q]; simp))).trans e, r⟩
    refine ⟨.ref s.heap.objs.size, _, I1, rfl, ⟨_, c, d, rfl, I.hok.fresh (Nat.le_refl _), rfl, hc1, hd1⟩, ⟨z'', ?_, ⟨.str ⟨#[c]⟩ tc, .str ⟨#[d]⟩ td, ?_⟩, st1, st2⟩, fun b hbm => ?_⟩
    · exact (sb.2 _ S.TIz).trans (hk _ _ S.TIz S.TITO S.TIi1 S.TIi2 hTI)
    · exact (sb.2 _ S.TOz).trans TO'
    · have hlt : b < s.heap.objs.size := by
        have e' : b = z ∨ b = TI ∨ b = TO ∨ b = i1 ∨ b = i2 := by simpa using hbm
        rcases e' with q | q | q | q | q
        · rw [q]; exact hzl
        · rw [q]; exact Heap.lt_size hTI
        · rw [q]; exact Heap.lt_size hTO
        · rw [q]; obtain ⟨_, e1, _⟩ := h1; exact Heap.lt_size e1
        · rw [q]; obtain ⟨_, e2, _⟩ := h2; exact Heap.lt_size e2
      rw [upd_ne (Nat.ne_of_lt hlt)]
      exact (hf b hbm).1
  done := by
    intro X hP hw hK hc i pins s σ H E I hf st hg
    subst hP hw hK
    obtain ⟨hz, hTI, ⟨a0, b0, hTO⟩, h1, h2⟩ := st
    obtain ⟨⟨g1, g2⟩, g3⟩ := hg
    have hh : X.A.in1.handled = none := I.ok.hd hc
    exact wpAny_pyNext_zipD2_end S (Draws.text hh i1 x t) (Draws.text hh i2 y u) hz hTI hTO h1 h2 g1 g2 g3 fun h' tk hk => ⟨rfl, I.turnedL (t' := tk) (ch := [z, TI, TO, i1, i2]) (fun c o hb q =>
      hk c o (fun q' => hb (by simp [q'])) (fun q' => hb (by simp [q'])) (fun q' => hb (by simp [q'])) (fun q' => hb (by simp [q'])) q) hf⟩
  self := fun A i s Q E st h => wpAny_pyIter_zip st.1 h
def iZipS (ta : TA) : TI := fun σ H R => ta σ H fun vs H1 => ∃ x y, vs = [.str x, .str y] ∧ R (Itzs x y) H1
theorem pi_zipS {X : Cx} {e e2 : Expr} {ta : TA} {p pos tpos : Pos} {elts : List Expr} {kk : Nat} (hg : Gl X "zip") (hm : X.mg "zip" = none) (ha : PA X [e, e2] ta)
    (hs : starEach [e, e2] X.env = (false, eval e X.env) :: starEach [e2] X.env := by rfl) (hpl : (backTo pos (starEach [e2] X.env)).any (·.1) = false := by rfl) :
    PI X (.Tuple elts kk tpos) (.Call (.Name "zip" p) [e, e2] [] pos) (iZipS ta) := by
  refine ⟨fun pins s σ H R I h => ?_⟩
  refine Call_ (ld_blt I hg hm PyProof.Rows.boot_zip (PyProof.Rows.callWith_type1 (thn (ha.run pos pins s σ H _ I h) fun us s1 ⟨vs, H1, I1, r1, q1⟩ => ?_) hs hpl))
  obtain ⟨x, y, ex, q⟩ := q1
  subst ex
  cases r1 with
  | cons r rr =>
    cases rr with
    | cons r' rr =>
      cases rr
      obtain ⟨t, rfl⟩ := r
      obtain ⟨u, rfl⟩ := r'
      refine zip_begins2 (begins_text x t) (begins_text y u) trivial trivial fun h' hz hTI hTO h1 h2 hsz hk => wpAny_pyIter_zip hz ?_
      have I2 : Inv X pins σ H1 { s1 with heap := h' } := I1.kept (t' := s1.toks) hk
      have S : ZipSep2 (s1.heap.objs.size + 4) (s1.heap.objs.size + 2) (s1.heap.objs.size + 3) s1.heap.objs.size (s1.heap.objs.size + 1) [s1.heap.objs.size] [s1.heap.objs.size + 1] :=
        zip_sep2 (fp1 := []) (fp2 := []) (fun b hb => by cases hb) (fun b hb => by cases hb)
      refine ⟨s1.heap.objs.size + 4, [s1.heap.objs.size + 4, s1.heap.objs.size + 2, s1.heap.objs.size + 3, s1.heap.objs.size, s1.heap.objs.size + 1], _, _, H1, rfl, I2, turn_zipS S x y t u, ⟨hz, hTI, ⟨_, _, hTO⟩, ⟨_, h1, rfl, rfl⟩, ⟨_, h2, rfl, rfl⟩⟩, fun c hcm => ?_, q⟩
      have e' : c = s1.heap.objs.size + 4 ∨ c = s1.heap.objs.size + 2 ∨ c = s1.heap.objs.size + 3 ∨ c = s1.heap.objs.size ∨ c = s1.heap.objs.size + 1 := by simpa using hcm
      have hle : s1.heap.objs.size ≤ c := by
        rcases e' with z | z | z | z | z
        · rw [z]; exact Nat.le_add_right _ _
        · rw [z]; exact Nat.le_add_right _ _
        · rw [z]; exact Nat.le_add_right _ _
        · rw [z]; exact Nat.le_refl _
        · rw [z]; exact Nat.le_add_right _ _
      exact I1.fpOk hle (I1.hok.fresh hle)
theorem walk_zipS {x y : Str} {n : Nat} (hn : n = min x.cps.size y.cps.size) : Walk (Itzs x y) n (fun _ => True) (fun i H v H' => ∃ T c d, v = .ref T ∧ H T = none ∧ H' = upd H T (.tup [.str ⟨#[c]⟩, .str ⟨#[d]⟩]) ∧ x.cps[i]? = some c ∧ y.cps[i]? = some d) := by
  subst hn
  exact ⟨fun _ _ hi _ => ⟨by omega, by omega⟩, fun _ _ => ⟨⟨by omega, by omega⟩, by omega⟩, fun _ _ _ _ _ _ y => y⟩
end L2

namespace L2
open PySem PySem.Spec PyProof.Rows
/-! ### rules whose readings name the written part, over any context that has it (a comprehension's block too) -/
section
variable {X : Cx} {K : PySem.W.Frag}
theorem ix_listK (h : X.K = K := by rfl) : IxR X (rIxL K) := h ▸ ix_list
theorem ix_tupK (h : X.K = K := by rfl) : IxR X (rIxT K) := h ▸ ix_tup
theorem sl_listK (h : X.K = K := by rfl) : SlR X (rSlL K) := h ▸ sl_list
theorem sl_tupK (h : X.K = K := by rfl) : SlR X (rSlT K) := h ▸ sl_tup
theorem op_inK (h : X.K = K := by rfl) : OpR X (compareOp .In) (rIn K false) := h ▸ op_in_seq
theorem op_notInK (h : X.K = K := by rfl) : OpR X (compareOp .NotIn) (rIn K true) := h ▸ op_notIn_seq
theorem op_eqDK (hu : X.A.units + 64 < cLine) (h : X.K = K := by rfl) : OpR X (compareOp .Eq) (rEqD K) := h ▸ op_eqD hu
theorem op_neDK (hu : X.A.units + 64 < cLine) (h : X.K = K := by rfl) : OpR X (compareOp .NotEq) (rNeD K) := h ▸ op_neD hu
theorem op_ltDK (hu : X.A.units + 64 < cLine) (h : X.K = K := by rfl) : OpR X (compareOp .Lt) (rLtD K) := h ▸ op_ltD hu
/-- len of a list or tuple -/
def rLenK (K : PySem.W.Frag) : List V → Hp → VK → Prop := fun xs H Q => ∃ p ys, xs = [.ref p] ∧ (SqL K H p ys ∨ SqT K H p ys) ∧ Q (.int ys.length) H
theorem call_lenK (h : X.K = K := by rfl) : CallR X (.builtin "len") (rLenK K) := h ▸ call_len_seq
def rListK (K : PySem.W.Frag) : List V → Hp → VK → Prop := fun xs H Q => ∃ p ys, xs = [.ref p] ∧ (SqL K H p ys ∨ SqT K H p ys) ∧ ∀ l, H l = none → Q (.ref l) (upd H l (.lst ys))
theorem call_listK (h : X.K = K := by rfl) : CallR X (.type "list") (rListK K) := h ▸ call_list_of
theorem cr_allK (hc : X.calm = true) (h : X.K = K := by rfl) : CallR X (.builtin "all") (rAll K) := h ▸ cr_all hc
theorem cr_anyK (hc : X.calm = true) (h : X.K = K := by rfl) : CallR X (.builtin "any") (rAny K) := h ▸ cr_any hc
theorem cr_sumK (hc : X.calm = true) (h : X.K = K := by rfl) : CallR X (.builtin "sum") (rSum K) := h ▸ cr_sum hc
theorem call_isiK1 (h : X.K = K := by rfl) : CallR X (.builtin "isinstance") (rIsi K) := h ▸ call_isi
theorem call_isiTK (h : X.K = K := by rfl) : CallR X (.builtin "isinstance") (rIsiT K) := h ▸ call_isiT
/-- sep.join(texts) -/
def rJoinK (K : PySem.W.Frag) : V → List V → Hp → VK → Prop := fun x xs H Q => ∃ a p, ∃ ys : List Str, x = .str a ∧ xs = [.ref p] ∧ (SqL K H p (ys.map V.str) ∨ SqT K H p (ys.map V.str)) ∧ (ys.map (·.length)).sum + ys.length * a.length ≤ 16777216 ∧ Q (.str (Txt.join a ys)) H
theorem mt_joinK (h : X.K = K := by rfl) : MtR X "str.join" (rJoinK K) := h ▸ mt_join
end
end L2

namespace L2
open PySem PySem.Spec PyProof.Rows
/-- a def with defaults that lets nothing out -/
theorem FunD.ok0 {P : Program} {w : World} {K : PySem.W.Frag} {mg : Str → Option Value} {base : Heap} {x qual : Str} {st : Stmt} {dvs : List V} {f : Addr} {fd : FuncData} {N ps : List Str} {k : Nat} {sp : Sp}
    (F : FunD K x qual (defArgs st) (defBody st) (defScope st) dvs [] f fd) (S : FnScope N ps (defScope st)) (len : ∀ vs H Q E, sp vs H Q E → vs.length = ps.length)
    (hbody : ∀ (cdv : Value) (A : Around) (outer : List Env) (s : Shared) (H : Hp) (vs : List V) (Q : VK) (E : XK), Room k (A.deeper (envOfC qual (defScope st) s.heap.objs.size f cdv)) → sp vs H Q E →
      ∃ t, PSs (cxOf CX0 P w K mg base N qual (defScope st) f cdv A outer s H E).nox (defBody st) t ∧ t { nx := fun _ H' => Q .non H', rt := Q } (start N vs) H) : FnOk P w K mg base CX0 (k + 1) f fd ps sp :=
  F.ok S len fun cdv A outer s H vs Q E hr hsp => by
    obtain ⟨t, h, q⟩ := hbody cdv A outer s H vs Q E hr hsp
    exact ⟨t, h.nox, q⟩
theorem funD_mk {K : PySem.W.Frag} {x qual : Str} {st : Stmt} {f T : Addr} {oc : Value} {od an : Option Addr} {osl : Array (Option Value)} {kV doc pm cdv ct : Value} {o : Obj} {its : List Value} {n : Nat} {dvs : List V}
    (l : K.lookup f = some ⟨oc, od, .func (PySem.W.fnOf x qual (defArgs st) (defBody st) (defScope st) (.ref T) kV doc pm an cdv ct), osl⟩)
    (c : PySem.W.codeIn K cdv qual = true) (k : PySem.W.keepIn K (.ref f) = true) (lT : K.lookup T = some o) (oT : o.data = .seq its.toArray n) (hv : Vals dvs its) (hd : dvs ≠ []) :
    FunD K x qual (defArgs st) (defBody st) (defScope st) dvs [] f (PySem.W.fnOf x qual (defArgs st) (defBody st) (defScope st) (.ref T) kV doc pm an cdv ct) :=
  ⟨⟨oc, od, .ref T, kV, doc, pm, an, cdv, ct, osl, rfl, l, c, .inr ⟨hd, T, o, its, n, rfl, lT, oT, hv⟩, .inl rfl⟩, k⟩
end L2

namespace L2
open PySem PySem.Spec PyProof.Rows
/-! ### a method called in a try's body; what is asked of an own class -/
section
variable {X : Cx} {CX : CXT} {k : Nat} {f C : Addr} {fd : FuncData} {ps : List Str} {sp : Sp} {dvs : List V} {ds : List Value} {E : St → XK} {o e : Expr} {es : List Expr} {ta : TE} {t : TA} {m : Str} {apos pos : Pos}
/-- o.m(e, ..) in a try's body -/
def tMethSD (C : Addr) (m : Str) (sp : Sp) (dvs : List V) (E : St → XK) (ta : TE) (t : TA) : TE := fun σ H Q => ta σ H fun x H1 => ∃ a dx fs, x = .ref a ∧ H1 a = some (.ins C dx fs) ∧ fs.lookup m = none ∧ t σ H1 fun vs H2 => sp (x :: (vs ++ dvs)) H2 Q (E σ)
theorem pe_methSD {pl : Sem Bool} (he : PE X o ta) (c : Cls X.K C) (hm : Meth X.K C m f) (F : FnOk X.prog X.w X.K X.mg X.base CX k f fd ps sp) (hr : Room k X.A) (hb : Binds X.K fd ps ds) (hd : Vals dvs ds) (hx : ∀ σ, PassesAt CX X σ (E σ)) (ha : PA X (e :: es) t)
    (hst : starEach (e :: es) X.env = (false, eval e X.env) :: starEach es X.env := by rfl) (hpl : (backTo pos (starEach es X.env)).any (·.1) = false := by rfl)
    (ht : eval (.Call (.Attribute o m apos) (e :: es) [] pos) X.env = (do
      let ov ← eval o X.env
      standAt apos.atName
      let (f, first) ← holding [ov] (getMethod ov m pl)
      callWith pos f first (backTo pos (starEach (e :: es) X.env)) (backToKw pos (keywordEach [] X.env))) := by rfl) :
    PE X (.Call (.Attribute o m apos) (e :: es) [] pos) (tMethSD C m sp dvs E ta t) := by
  refine ⟨fun pins s σ H Q I h => PySem.W.methodCall_KW (pl := pl) (thn (he.run pins s σ H _ I h) fun u s1 z => ?_) ht⟩
  obtain ⟨x, H1, J, rx, a, dx, fs, rfl, ea, l, q⟩ := z
  cases (show u = Value.ref a from rx)
  refine getmeth_ok J ea c hm l ?_
  refine PySem.W.callWith_K (first := [.ref a]) (h₀ := X.base) J.ok.mod.kin hm.kp (thn (ha.run pos pins s1 σ H1 _ J q) fun us s2 z => ?_) hst hpl
  obtain ⟨vs, H2, J2, r, q2⟩ := z
  have rr : Vals (V.ref a :: (vs ++ dvs)) (Value.ref a :: (us ++ ds)) := .cons rfl (r.append hd)
  refine ⟨J2.kIn, wpAny_call (codeAny_mono (F.run X.A X.stack s2 H2 ⟨.ref a :: us, []⟩ (.ref a :: (us ++ ds)) (.ref a :: (vs ++ dvs)) Q (E σ) hr J2.env0 (hb s2 (.ref a :: us) J2.kIn (rr.length.symm.trans (F.len _ _ _ _ q2))) rr q2) fun r s' z => ?_)⟩
  cases r with
  | error er => exact hx σ pins H2 s2 er s' J2 z
  | ok fl =>
    cases fl with
    | ret u => exact J2.after z
    | _ => exact False.elim z
end
/-- what the written part says of an own class -/
structure OwnK (K : PySem.W.Frag) (mg : Str → Option Value) (x : Str) (C : Addr) : Prop where
  gC : mg x = some (.ref C)
  cls : Cls K C
  made : PySem.W.makesIn K C = true
  kC : PySem.W.keepIn K (.ref C) = true
end L2

namespace Evl
open PySem L2
/-! ### what evaluates to what: texts -/
section
variable {K : PySem.W.Frag} {σ : L2.St} {H H' : Hp} {ta tb te tl : TE} {t : TT} {x y z v : V}
theorem ev_m0 {C : Str → Prop} {g : Str → V} {a : Str} (h : Ev te σ H (.str a)) (c : C a) : Ev (tM0 (fun x xs H Q => ∃ a, x = .str a ∧ xs = [] ∧ C a ∧ Q (g a) H) te) σ H (g a) := fun H1 e Q q =>
  h H1 e _ fun H2 e2 => ⟨⟨a, rfl⟩, a, rfl, rfl, c, q H2 e2⟩
theorem ev_m1 {g : Str → Str → V} {a b : Str} (h : Ev te σ H (.str a)) (h2 : Ev ta σ H (.str b)) : Ev (tM1 (fun x xs H Q => ∃ a b, x = .str a ∧ xs = [.str b] ∧ Q (g a b) H) te ta) σ H (g a b) := fun H1 e Q q =>
  h H1 e _ fun H2 e2 => ⟨⟨a, rfl⟩, h2 H2 (e.trans e2) _ fun H3 e3 => ⟨a, b, rfl, rfl, q H3 (e2.trans e3)⟩⟩
theorem ev_join {a : Str} {ys : List Str} (h : Ev te σ H (.str a)) (h2 : EvL tl σ H (ys.map V.str)) (hz : (ys.map (·.length)).sum + ys.length * a.length ≤ 16777216) :
    Ev (tM1 (rJoinK K) te tl) σ H (.str (Txt.join a ys)) := fun H1 e Q q =>
  h H1 e _ fun H2 e2 => ⟨⟨a, rfl⟩, h2 H2 (e.trans e2) _ fun p H3 _ e3 h3 => ⟨a, p, ys, rfl, rfl, .inl (sq_of h3), hz, q H3 (e2.trans e3)⟩⟩
theorem rv_addS {a b : Str} (h : a.length + b.length ≤ 100000) : RV (fun x y H Q => ∃ i j, x = .str i ∧ y = .str j ∧ i.length + j.length ≤ sizeLine ∧ Q (.str (i ++ j)) H) (.str a) (.str b) H (.str (a ++ b)) := fun H1 _ _ q => ⟨a, b, rfl, rfl, sz_of h, q H1 (Ex.refl H1)⟩
theorem rv_inS {c : Nat} {z : Str} : RV (fun x y H Q => ∃ (c : Nat) (z : Str), x = .str ⟨#[c]⟩ ∧ y = .str z ∧ Q (.bl (decide (c ∈ z.cps.toList))) H) (.str ⟨#[c]⟩) (.str z) H (.bl (decide (c ∈ z.cps.toList))) := fun H1 _ _ q => ⟨c, z, rfl, rfl, q H1 (Ex.refl H1)⟩
theorem rv_niS {c : Nat} {z : Str} : RV (fun x y H Q => ∃ (c : Nat) (z : Str), x = .str ⟨#[c]⟩ ∧ y = .str z ∧ Q (.bl (!decide (c ∈ z.cps.toList))) H) (.str ⟨#[c]⟩) (.str z) H (.bl (!decide (c ∈ z.cps.toList))) := fun H1 _ _ q => ⟨c, z, rfl, rfl, q H1 (Ex.refl H1)⟩
theorem rv_ltS {a b : Str} : RV (fun x y H Q => ∃ i j, x = .str i ∧ y = .str j ∧ Q (.bl (decide (i.cps.toList < j.cps.toList))) H) (.str a) (.str b) H (.bl (decide (a.cps.toList < b.cps.toList))) := fun H1 _ _ q => ⟨a, b, rfl, rfl, q H1 (Ex.refl H1)⟩
theorem ev_revS {a : Str} (h : Ev te σ H (.str a)) (hz : a.length ≤ 100000) : Ev (tRevS te) σ H (.str ⟨a.cps.toList.reverse.toArray⟩) := fun H1 e Q q => h H1 e _ fun H2 e2 => ⟨a, rfl, sz_of hz, q H2 e2⟩
theorem ev_slS {a : Str} {t1 t2 : TO} {lo hi : Option Int} (h : Ev te σ H (.str a)) (h1 : EvO t1 σ H lo) (h2 : EvO t2 σ H hi) (hz : a.length ≤ 100000) : Ev (tSl rSlS te t1 t2) σ H (.str (cutS a lo hi)) := fun H1 e Q q =>
  h H1 e _ fun H2 e2 => h1 H2 (e.trans e2) _ fun H3 e3 => h2 H3 ((e.trans e2).trans e3) _ fun H4 e4 => ⟨a, rfl, sz_of hz, q H4 ((e2.trans e3).trans e4)⟩
theorem ev_lenS {a : Str} (h : Ev te σ H (.str a)) (hz : a.length ≤ 100000) : Ev (tCB (fun xs H Q => ∃ z, xs = [.str z] ∧ z.length ≤ sizeLine ∧ Q (.int z.length) H) (tCons te tNil)) σ H (.int a.length) := fun H1 e Q q =>
  h H1 e _ fun H2 e2 => ⟨a, rfl, sz_of hz, q H2 e2⟩
theorem ev_intB {b : Bool} (h : Ev te σ H (.bl b)) : Ev (tCB (fun xs H Q => (∃ i, xs = [.int i] ∧ Q (.int i) H) ∨ ∃ k, xs = [.bl k] ∧ Q (.int (if k then 1 else 0)) H) (tCons te tNil)) σ H (.int (if b then 1 else 0)) := fun H1 e Q q =>
  h H1 e _ fun H2 e2 => .inr ⟨b, rfl, q H2 e2⟩
theorem ev_ixNew {xs : List V} {i : Int} (ha : EvL ta σ H xs) (hb : ∀ H1, Ex H H1 → Ev tb σ H1 (.int i)) (hi : atI xs i = some v) : Ev (tOp (rIxL K) ta tb) σ H v := ev_opL1 ha hb fun p H1 hp e => rv_ixL (sq_of hp) hi
theorem ev_isi {tc : TE} {c : V} {ty u : Value} {b : Bool} (h : Ev te σ H x) (h2 : Ev tc σ H c) (hc : ClsV c u) (hx : ∀ H1, Ex H H1 → TyX K H1 x ty) (hb : PySem.W.kitOne K ty u = some b) : Ev (tCB (rIsi K) (tCons te (tCons tc tNil))) σ H (.bl b) := fun H1 e Q q =>
  h H1 e _ fun H2 e2 => h2 H2 (e.trans e2) _ fun H3 e3 => ⟨x, c, ty, u, b, rfl, hc, hx H3 ((e.trans e2).trans e3), hb, q H3 (e2.trans e3)⟩
theorem ev_isiN {tc : TE} {c : V} {xs : List V} {ty u : Value} {b : Bool} (h : EvL te σ H xs) (h2 : ∀ H1, Ex H H1 → Ev tc σ H1 c) (hc : ClsV c u) (hx : ∀ p H1, H1 p = some (.lst xs) → TyX K H1 (.ref p) ty) (hb : PySem.W.kitOne K ty u = some b) : Ev (tCB (rIsi K) (tCons te (tCons tc tNil))) σ H (.bl b) := fun H1 e Q q =>
  h H1 e _ fun p H2 _ e2 hp => h2 H2 (e.trans e2) H2 (Ex.refl H2) _ fun H3 e3 => ⟨.ref p, c, ty, u, b, rfl, hc, hx p H3 (e3 _ _ hp), hb, q H3 (e2.trans e3)⟩
theorem ev_allN {bs : List Bool} (h : EvL te σ H (bs.map V.bl)) : Ev (tCB (rAll K) (tCons te tNil)) σ H (.bl (bs.all id)) := fun H1 e Q q =>
  h H1 e _ fun p H2 _ e2 hp => ⟨p, bs, rfl, sq_of hp, q H2 e2⟩
theorem ev_ifv {b : Bool} {v w : V} (h : EvT t σ H b) (h1 : b = true → Ev ta σ H v) (h2 : b = false → Ev tb σ H w) : Ev (tIf t ta tb) σ H (if b = true then v else w) := by
  refine ev_if h (fun e => ?_) (fun e => ?_)
  · rw [if_pos e]; exact h1 e
  · rw [if_neg (by rw [e]; decide)]; exact h2 e
theorem et_yes : EvT tYes σ H true := fun H1 _ _ q => q H1 (Ex.refl H1)
theorem given_all (n : Nat) (v : Nat → V) : given n (fun _ => true) v = (List.range n).map v := by
  unfold given
  congr 1
  exact List.filter_eq_self.mpr fun _ _ => rfl
theorem range_map {α : Type} (l : List α) (g : α → V) (d : α) : (List.range l.length).map (fun i => g (l.getD i d)) = l.map g := by
  apply List.ext_getElem
  · simp
  · intro i h1 h2
    simp at h1
    simp [List.getD, h1]
/-- [e for sign in text] -/
theorem el_lcS {s : Str} {j : Nat} {vs : List Nat} (f : Nat → Bool) (v : Nat → V) (h : Ev tl σ H (.str s)) (hz : s.length ≤ 40000) (hw : ∀ x, wipe ((wipe σ vs).set j (some x)) vs = wipe σ vs)
    (ht : ∀ (i c : Nat) H1, Ex H H1 → s.cps.toList[i]? = some c → EvT t ((wipe σ vs).set j (some (.str ⟨#[c]⟩))) H1 (f i))
    (he : ∀ (i c : Nat) H1, Ex H H1 → s.cps.toList[i]? = some c → f i = true → Ev te ((wipe σ vs).set j (some (.str ⟨#[c]⟩))) H1 (v i)) :
    EvL (tLc (iStr tl) (gName j) t te vs) σ H (given s.length f v) := fun H0 e Q q => h H0 e _ fun H1 e1 => ⟨s, rfl, fun Dl hD =>
  lc_it walk_str (Cw H1 f v Dl) ⟨hD, Ex.new hD, upd_same⟩ (fun _ _ _ _ => trivial) (fun i x H2 H' hi p hy => by
    obtain ⟨rfl, c, hc, rfl⟩ := hy
    have hc' : s.cps.toList[i]? = some c := by rw [Array.getElem?_toList]; exact hc
    exact ⟨hw _, cw_turn p (by have : s.length = s.cps.size := rfl; omega) (ht i c H1 (e.trans e1) hc') (fun hf => he i c H1 (e.trans e1) hc' hf)⟩)
    (fun H' p => q Dl H' (fresh_back e1 p.1) (e1.trans p.2.1) p.2.2)⟩
theorem el_mapS {s : Str} {j : Nat} {vs : List Nat} (g : Nat → V) (h : Ev tl σ H (.str s)) (hz : s.length ≤ 40000) (hw : ∀ x, wipe ((wipe σ vs).set j (some x)) vs = wipe σ vs)
    (he : ∀ (c : Nat) H1, Ex H H1 → c ∈ s.cps.toList → Ev te ((wipe σ vs).set j (some (.str ⟨#[c]⟩))) H1 (g c)) :
    EvL (tLc (iStr tl) (gName j) tYes te vs) σ H (s.cps.toList.map g) := by
  have := el_lcS (te := te) (t := tYes) (fun _ => true) (fun i => g (s.cps.toList.getD i 0)) h hz hw (fun _ _ _ _ _ => et_yes) (fun i c H1 e hc _ => by
    have : s.cps.toList.getD i 0 = c := by rw [List.getD_eq_getElem?_getD, hc]; rfl
    rw [this]
    exact he c H1 e (List.mem_of_getElem? hc))
  rw [given_all] at this
  have e2 : s.length = s.cps.toList.length := rfl
  rw [e2, range_map] at this
  exact this
end
end Evl

namespace L2
open PySem PySem.Spec PyProof.Rows
/-! ### sorted(list, key=f), f an own def whose keys read as data (lists too) -/
section
variable {X : Cx}
def rSortF (K : PySem.W.Frag) (f : Addr) (sp : Sp) (dvs : List V) : List V → List V → Hp → VK → Prop := fun vs zs H Q =>
  ∃ (p : Addr) (bs : List (V × PyData)), vs = [.ref p] ∧ zs = [.ref f] ∧ SqL K H p (bs.map (·.1)) ∧ PySem.W.AllAlike (bs.map (·.2)) ∧ PySem.W.Sortable (bs.map (·.2)) ∧ bs.length ≤ 100000 ∧ (∀ b ∈ bs, b.2.depth ≤ 50) ∧
    (∀ b ∈ bs, ∀ H1, Same H H1 → ∀ Q1 : VK, (∀ v H2, Same H1 H2 → (∀ H3, Same H2 H3 → Dp K H3 v b.2) → Q1 v H2) → sp (b.1 :: dvs) H1 Q1 fun _ _ _ => False) ∧
    ∀ q H2, Same H H2 → H q = none → H2 q = some (.lst ((bs.mergeSort (PySem.W.dataLe false (·.2))).map (·.1))) → Q (.ref q) H2
theorem each_ofF {R : Value → V × PyData → Prop} : ∀ {bs : List (V × PyData)} {us : List Value}, Vals (bs.map (·.1)) us → (∀ b ∈ bs, ∀ u, RelV b.1 u → R u b) → PySem.W.EachIs R us bs
  | [], _, r, _ => by cases r; exact .nil
  | b :: bs, _, r, h => by
    cases r with
    | cons a t => exact .cons (h b List.mem_cons_self _ a) (each_ofF t fun c hc => h c (List.mem_cons_of_mem _ hc))
theorem vals_eachF : ∀ {bs : List (V × PyData)} {us : List Value}, PySem.W.EachIs (fun u (b : V × PyData) => RelV b.1 u) us bs → Vals (bs.map (·.1)) us
  | _, _, .nil => .nil
  | _, _, .cons a t => .cons a (vals_eachF t)
/-- two new records of ours were changed, one of them is a list from now on -/
theorem Inv.two {pins : List (Addr × Obj)} {σ : St} {H : Hp} {s : Shared} {h' : Heap} {t' : Nat} {x a : Addr} {xs : List V} (I : Inv X pins σ H s) (k : ∀ b o, b ≠ x → b ≠ a → s.heap.get? b = some o → h'.get? b = some o)
    (hx : H x = none) (ha : H a = none) (lx : x ≠ X.env.locals) (la : a ≠ X.env.locals) (zx : X.s_0.heap.objs.size ≤ x) (za : X.s_0.heap.objs.size ≤ a) (cx : ∀ y c, X.env.cells.lookup y = some c → c ≠ x) (ca : ∀ y c, X.env.cells.lookup y = some c → c ≠ a)
    (px : ∀ p ∈ X.pn ++ pins, p.1 ≠ x) (pa : ∀ p ∈ X.pn ++ pins, p.1 ≠ a) (hne : x ≠ a) (new : ObjOk X.prog X.w (upd H a (.lst xs)) h' a (.lst xs)) : Inv X pins σ (upd H a (.lst xs)) { s with heap := h', toks := t' } := by
  have nx : ∀ b u, H b = some u → b ≠ x := fun b u e z => by rw [z, hx] at e; cases e
  have na : ∀ b u, H b = some u → b ≠ a := fun b u e z => by rw [z, ha] at e; cases e
  refine I.step (g' := s.gens) (d' := s.drawn) (ch := [x, a]) (fun b hb => ?_) (fun b o _ _ hc e _ => k b o (fun z => hc (by simp [z])) (fun z => hc (by simp [z])) e)
    (fun b o _ _ hc e _ => ⟨o.slots, k b o (fun z => hc (by simp [z])) (fun z => hc (by simp [z])) e⟩) (fun b o hc e n => by rw [upd_ne fun z => hc (by simp [z])]; exact n)
    (fun b o hc e => ⟨o, k b o (fun z => hc (by simp [z])) (fun z => hc (by simp [z])) e⟩) (fun b _ e => by rw [upd_ne (na b _ e)]; exact e) (fun b _ _ e => by rw [upd_ne (na b _ e)]; exact e)
    (fun b ps e => ⟨#[], by rw [upd_ne (na b _ e), e]; simp⟩) (fun m hm => ?_) (fun b u e => ?_) I.bare
  · rcases List.mem_cons.mp hb with rfl | hb
    · exact ⟨.inr zx, lx, cx, px⟩
    · rw [List.mem_singleton.mp hb]
      exact ⟨.inr za, la, ca, pa⟩
  · obtain ⟨o, es, ep, ho, r⟩ := hm
    exact ⟨o, es, ep, k _ o (Ne.symm lx) (Ne.symm la) ho, r⟩
  · by_cases q : b = a
    · subst q
      rw [upd_same] at e
      cases e
      exact new
    · rw [upd_ne q] at e
      refine (I.hok b u e).stay (fun c v hc g => ?_) (fun c g => by rw [upd_ne (na c _ g)]; exact g) fun c ys g => by rw [upd_ne (na c _ g)]; exact g
      refine k c v ?_ ?_ g
      · rcases hc with z | z
        · rw [z]; exact nx b u e
        · exact nx c _ z
      · rcases hc with z | z
        · rw [z]; exact q
        · exact na c _ z
/-- the keys, one by one -/
theorem keys_run {K : PySem.W.Frag} {k : Nat} {f : Addr} {fd : FuncData} {ps : List Str} {sp : Sp} {dvs : List V} {ds : List Value} {pins : List (Addr × Obj)} {σ : St} {H : Hp} {s : Shared} {bs : List (V × PyData)} {its : List Value} {x a : Addr} {e1 : Nat} {P : PySem.Fin → Shared → Prop} {E : Value → Shared → Prop}
    (F : FnOk X.prog X.w X.K X.mg X.base CX0 k f fd ps sp) (hr : Room (k + 2) X.A) (hb : Binds X.K fd ps ds) (hd : Vals dvs ds) (hK : X.K = K)
    (I : Inv X pins σ H s) (rv : Vals (bs.map (·.1)) its) (hx : H x = none) (ha : H a = none) (lx : x ≠ X.env.locals) (la : a ≠ X.env.locals) (zx : X.s_0.heap.objs.size ≤ x) (za : X.s_0.heap.objs.size ≤ a)
    (cx : ∀ y c, X.env.cells.lookup y = some c → c ≠ x) (ca : ∀ y c, X.env.cells.lookup y = some c → c ≠ a) (px : ∀ p ∈ X.pn ++ pins, p.1 ≠ x) (pa : ∀ p ∈ X.pn ++ pins, p.1 ≠ a) (fx : x ∉ X.fs) (fa : a ∉ X.fs) (hne : x ≠ a)
    (ox : s.heap.get? x = some (seqObj "list" #[] 0)) (oa : s.heap.get? a = some (seqObj "list" #[] e1)) (hz : bs.length ≤ 100000) (al : PySem.W.AllAlike (bs.map (·.2))) (so : PySem.W.Sortable (bs.map (·.2))) (dp : ∀ b ∈ bs, b.2.depth ≤ 50)
    (turn : ∀ b ∈ bs, ∀ H1, Same H H1 → ∀ Q1 : VK, (∀ v H2, Same H1 H2 → (∀ H3, Same H2 H3 → Dp K H3 v b.2) → Q1 v H2) → sp (b.1 :: dvs) H1 Q1 fun _ _ _ => False)
    (done : ∀ s' H' ys, Inv X pins σ (upd H' a (.lst ys)) s' → Same H H' → H' a = none → ys = (bs.mergeSort (PySem.W.dataLe false (·.2))).map (·.1) → P (.done (.ret .none)) s') :
    wpAny (model X.prog X.w) X.A.in1.in1 (PyProof.Rows.ksk_rest a (.ref f) false its.toArray e1 (.ref x)) P E s := by
  subst hK
  have hlen : its.length = bs.length := by rw [← rv.length, List.length_map]
  have big : (100000 : Nat) ≤ sizeLine := by decide
  unfold PyProof.Rows.ksk_rest
  refine wpAny_bind (wpAny_rule ?_)
  rw [List.forIn_toArray]
  refine wpAny_bind (PyProof.Rows.ksk_fold (fun i s' => ∃ H' us e, Inv X pins σ H' s' ∧ Same H H' ∧ H' x = none ∧ H' a = none ∧ s'.heap.get? x = some (seqObj "list" us e) ∧ s'.heap.get? a = some (seqObj "list" #[] e1) ∧
    PySem.W.EachIs (fun u (b : V × PyData) => ∃ v, RelV v u ∧ ∀ H3, Same H' H3 → Dp X.K H3 v b.2) us.toList (bs.take i)) its 0 s ⟨H, #[], 0, I, Same.refl H, hx, ha, ox, oa, by rw [List.take_zero]; exact .nil⟩ ?one ?all)
  case one =>
    rintro j u0 s1 hj ⟨H1, us, e, I1, s01, nx, na, g1, g2, hk⟩
    rw [Nat.zero_add] at hk ⊢
    have jl : j < bs.length := by have := (List.getElem?_eq_some_iff.mp hj).1; omega
    have bj : bs[j]? = some bs[j] := List.getElem?_eq_getElem jl
    have uz : us.size ≤ 100000 := by
      have := hk.length
      rw [Array.length_toList, List.length_take] at this
      omega
    have rj : RelV bs[j].1 u0 := by
      obtain ⟨u, hu, ru⟩ := rv.get (i := j) (x := bs[j].1) (by rw [List.getElem?_map, bj]; rfl)
      rw [hj] at hu
      cases hu
      exact ru
    have rr : Vals (bs[j].1 :: dvs) (u0 :: ds) := .cons rj hd
    refine wpAny_bind (wpAny_attempt ?_)
    refine wpAny_mono (Q := fun u s2 => ∃ v H2, Inv X pins σ H2 s2 ∧ RelV v u ∧ Same H1 H2 ∧ (∀ H3, Same H2 H3 → Dp X.K H3 v bs[j].2) ∧ H2 x = none ∧ H2 a = none ∧ s2.heap.get? x = some (seqObj "list" us e) ∧ s2.heap.get? a = some (seqObj "list" #[] e1)) (E := fun _ _ => False)
      (wpAny_call (codeAny_mono (F.run X.A.in1.in1 X.stack s1 H1 ⟨[u0], []⟩ (u0 :: ds) (bs[j].1 :: dvs) (fun v H2 => Same H1 H2 ∧ ∀ H3, Same H2 H3 → Dp X.K H3 v bs[j].2) (fun _ _ _ => False) hr.in1.in1 I1.env0.in1.in1
        (hb s1 [u0] I1.kIn (by rw [← F.len _ _ _ _ (turn _ (List.getElem_mem jl) H1 s01 (fun _ _ => True) fun _ _ _ _ => trivial)]; exact rr.length.symm)) rr (turn _ (List.getElem_mem jl) H1 s01 _ fun v H2 a b => ⟨a, b⟩)) fun r s2 hq => ?_)) (fun u s2 z => ?_) (fun _ _ z => z.elim)
    · cases r with
      | error er => exact hq.elim
      | ok fl =>
        cases fl with
        | ret u =>
          obtain ⟨v, H2, os, bare, un, hok, rv2, hs2, hd2⟩ := hq
          have nf : ∀ y, y ≠ X.env.locals → y ∉ X.fs → y ∉ frs X.stack := fun y ly fy z => by
            rcases List.mem_cons.mp (I1.stkSub y z) with q | q
            · exact ly q
            · exact fy q
          obtain ⟨hh, g, d, t, os'⟩ := s2
          obtain rfl : os' = s1.os := os
          exact ⟨v, H2, I1.call (h' := hh) (g' := g) (d' := d) (t' := t) (ch := []) un hok bare (fun b z => absurd z (by simp)), rv2, hs2, hd2, un.free x _ g1 nx (by simp), un.free a _ g2 na (by simp), un.keep x _ g1 nx (nf x lx fx) (by simp), un.keep a _ g2 na (nf a la fa) (by simp)⟩
        | next => exact hq.elim
        | brk => exact hq.elim
        | cont => exact hq.elim
    obtain ⟨v, H2, I2, rv2, s12, hd2, nx2, na2, g3, g4⟩ := z
    dsimp only
    have up := Heap.SameBut.update s2.heap x (Obj.mapSeq (·.push u))
    obtain ⟨c2, hc2⟩ : ∃ c2, (s2.heap.update x (Obj.mapSeq (·.push u))).get? x = some (seqObj "list" (us.push u) c2) := ⟨_, get?_update_seq g3 (·.push u)⟩
    refine wpAny_bind (listUpdate_at g3 rfl ?_ (by show us.size ≤ _; omega) (by show (us.push u).size ≤ _; rw [Array.size_push]; omega))
    refine wpAny_pure ⟨rfl, H2, us.push u, c2, I2.turned (fun b o hbx e => (up.2 b hbx).trans e) nx2 lx (.inr zx) cx px, Same.trans s01 s12, nx2, na2, hc2, (up.2 a hne.symm).trans g4, ?_⟩
    have et : bs.take (j + 1) = bs.take j ++ [bs[j]] := by rw [List.take_add_one, bj]; rfl
    rw [et, Array.toList_push]
    exact PySem.W.each_snoc (R := fun u (b : V × PyData) => ∃ v, RelV v u ∧ ∀ H3, Same H2 H3 → Dp X.K H3 v b.2) ⟨v, rv2, hd2⟩ (hk.mono fun u b ⟨w, rw', dw⟩ => ⟨w, rw', fun H3 s3 => dw H3 (Same.trans s12 s3)⟩)
  case all =>
    rintro s1 ⟨H1, us, e, I1, s01, nx, na, g1, g2, hk⟩
    rw [Nat.zero_add, List.take_of_length_le (by omega)] at hk
    have uz : us.size = bs.length := by
      have := hk.length
      rwa [Array.length_toList] at this
    refine wpAny_bind (listItems_at g1 rfl ?_)
    have hk2 : PySem.W.EachIs (fun u (b : V × PyData) => ∃ as, Reads s1.heap u b.2 as) us.toList bs := hk.mono fun u b ⟨v, ru, dv⟩ => Dp.reads I1 b.2 v u (dv H1 (Same.refl H1)) ru
    have hk3 : PySem.W.EachIs (fun u d => ∃ as, Reads s1.heap u d as) us.toList (bs.map (·.2)) := PySem.W.each_map (R := fun u d => ∃ as, Reads s1.heap u d as) (fun b : V × PyData => b.2) hk2
    have S := PySem.W.SortsAt.data (prog := X.prog) (w := X.w) (A := X.A.in1.in1) (s := s1) hk3 al so (fun d hd' => by
      obtain ⟨b, hb', rfl⟩ := List.mem_map.mp hd'
      have h1 := dp b hb'
      have h2 := hr.un
      show X.A.units + 1 + 1 + b.2.depth < cLine
      omega)
    refine PySem.W.keyH_end (κ := PySem.W.dataKind s1.heap (bs.map (·.2))) (h₁ := s1.heap.hide x) (s := s1) (fun b o _ q => Heap.of_hide q) (Heap.hide_self _ _) g1 g2 hne S (by rw [uz, hlen]) (by rw [hlen]; omega) fun h' tk c kp ga => ?_
    have hko : PySem.W.KeyedOut false (bs.map (·.2)) its (PySem.W.sortVals (PySem.W.dataKind s1.heap (bs.map (·.2))) false us.toList its) := ⟨s1.heap, us.toList, al, rfl, hk3⟩
    have ho := PySem.W.keyedOut_each (R := fun u (b : V × PyData) => RelV b.1 u) (fun b : V × PyData => b.2) hko (each_ofF rv fun b _ u ru => ru)
    have rv2 := vals_eachF ho
    refine done _ H1 _ (I1.two (fun b o n1 n2 q => kp b o n2 ((Heap.hide_ne _ n1).trans q)) nx na lx la zx za cx ca px pa hne ?_) s01 na rfl
    exact ⟨by rw [List.length_map, List.length_mergeSort]; omega, _, c, rv2, ga⟩
theorem call_sortF {K : PySem.W.Frag} {k : Nat} {f : Addr} {fd : FuncData} {ps : List Str} {sp : Sp} {dvs : List V} {ds : List Value} (F : FnOk X.prog X.w X.K X.mg X.base CX0 k f fd ps sp) (hr : Room (k + 2) X.A) (hb : Binds X.K fd ps ds) (hd : Vals dvs ds) (hK : X.K = K := by rfl) :
    CallRK X (.builtin "sorted") [Str.ofString "key"] (rSortF K f sp dvs) := by
  intro pins s σ H xs zs us ws Q I r1 r2 h
  obtain ⟨p, bs, rfl, rfl, hS, al, so, hz, dp, turn, q⟩ := h
  obtain ⟨u, rfl, ru⟩ := vals1 r1
  cases (show u = Value.ref p from ru)
  obtain ⟨g, rfl, rg⟩ := vals1 r2
  cases (show g = Value.ref f from rg)
  obtain ⟨its, rv, hl, _⟩ := I.list (hK ▸ hS)
  have hlen : its.length = bs.length := by rw [← rv.length, List.length_map]
  have big : (100000 : Nat) ≤ sizeLine := by decide
  have hle : its.length ≤ sizeLine := by omega
  refine PySem.W.sorted_of_sort (A := X.A) hl.isList hle (PyProof.Rows.ksk_s1 _ _) (fun _ => PyProof.Rows.ksk_l1 _ _) fun E' => ?_
  show wpAny _ _ (Builtin.«list.sort» ⟨[.ref (s.heap.objs.size + 1)], [(Str.ofString "key", .ref f)]⟩) _ _ _
  rw [PyProof.Rows.ksk_t1]
  have I1 : Inv X pins σ H { s with heap := PySem.W.copyHeap s.heap its } := I.kept (t' := s.toks) fun b o e => PySem.W.copyHeap_old e
  have ha : H (s.heap.objs.size + 1) = none := I.hok.fresh (Nat.le_succ _)
  have hx : H (s.heap.objs.size + 3) = none := I.hok.fresh (by omega)
  have ho : (PySem.W.copyHeap s.heap its).get? (s.heap.objs.size + 1) = some (seqObj "list" its.toArray 0) := PySem.W.copyHeap_at s.heap its
  have csz : (PySem.W.copyHeap s.heap its).objs.size = s.heap.objs.size + 2 := by
    unfold PySem.W.copyHeap
    rw [size_push', Heap.size_update, size_push']
  have lt := I.lt
  have sz := I.sz
  have nl : ∀ n, s.heap.objs.size ≤ n → n ≠ X.env.locals := fun n hn e => by
    rw [← e] at lt
    exact absurd lt (Nat.not_lt.mpr hn)
  have zl : ∀ n, s.heap.objs.size ≤ n → X.s_0.heap.objs.size ≤ n := fun n hn => Nat.le_trans sz hn
  have fa : s.heap.objs.size + 1 ∉ X.fs := I.nofs (Nat.le_succ _)
  have fx : s.heap.objs.size + 3 ∉ X.fs := I.nofs (by omega)
  have cc : ∀ n, s.heap.objs.size ≤ n → ∀ y c, X.env.cells.lookup y = some c → c ≠ n := fun n hn y c e z => by
    obtain ⟨v, o, e2, _⟩ := I.cell y c e
    have e3 := Heap.lt_size e2
    rw [z] at e3
    exact absurd e3 (Nat.not_lt.mpr hn)
  have pp : ∀ n, s.heap.objs.size ≤ n → ∀ p ∈ X.pn ++ pins, p.1 ≠ n := fun n hn p hp z => by
    have e3 := Heap.lt_size (I.pin p hp).1
    rw [z] at e3
    exact absurd e3 (Nat.not_lt.mpr hn)
  unfold PyProof.Rows.ksk_tree
  refine wpAny_bind (listItems_at ho rfl ?_)
  refine wpAny_bind (listUpdate_at ho rfl ?_ (by rw [List.size_toArray]; exact hle) (Nat.zero_le _))
  obtain ⟨e1, ho1⟩ : ∃ e1, ((PySem.W.copyHeap s.heap its).update (s.heap.objs.size + 1) (Obj.mapSeq fun _ => (#[] : Array Value))).get? (s.heap.objs.size + 1) = some (seqObj "list" #[] e1) := ⟨_, get?_update_seq ho fun _ => #[]⟩
  have up := Heap.SameBut.update (PySem.W.copyHeap s.heap its) (s.heap.objs.size + 1) (Obj.mapSeq fun _ => (#[] : Array Value))
  have I2 := I1.turned (t' := s.toks) (it := s.heap.objs.size + 1) (fun b o hbx e => (up.2 b hbx).trans e) ha (nl _ (Nat.le_succ _)) (.inr (zl _ (Nat.le_succ _))) (cc _ (Nat.le_succ _)) (pp _ (Nat.le_succ _))
  refine wpAny_bind (seqEpoch_at ho1 rfl ?_)
  refine wpAny_bind (wpAny_newTuple ?_ (by show its.length ≤ _; exact hle))
  refine wpAny_bind (wpAny_newList ?_ (Nat.zero_le _))
  refine wpAny_holding ?_
  dsimp only
  have us2 : ((PySem.W.copyHeap s.heap its).update (s.heap.objs.size + 1) (Obj.mapSeq fun _ => (#[] : Array Value))).objs.size = s.heap.objs.size + 2 := by rw [Heap.size_update, csz]
  have us3 : (((PySem.W.copyHeap s.heap its).update (s.heap.objs.size + 1) (Obj.mapSeq fun _ => (#[] : Array Value))).push (seqObj "tuple" its.toArray 0)).objs.size = s.heap.objs.size + 3 := by rw [size_push', us2]
  have I3 := I2.kept (t' := s.toks) (h' := (((PySem.W.copyHeap s.heap its).update (s.heap.objs.size + 1) (Obj.mapSeq fun _ => (#[] : Array Value))).push (seqObj "tuple" its.toArray 0)).push (seqObj "list" #[] 0)) fun b o e => Heap.get?_push_of_some _ (Heap.get?_push_of_some _ e)
  have gx : ((((PySem.W.copyHeap s.heap its).update (s.heap.objs.size + 1) (Obj.mapSeq fun _ => (#[] : Array Value))).push (seqObj "tuple" its.toArray 0)).push (seqObj "list" #[] 0)).get? (s.heap.objs.size + 3) = some (seqObj "list" #[] 0) := by
    have := Heap.get?_push_size (h := ((PySem.W.copyHeap s.heap its).update (s.heap.objs.size + 1) (Obj.mapSeq fun _ => (#[] : Array Value))).push (seqObj "tuple" its.toArray 0)) (o := seqObj "list" #[] 0) rfl
    rw [us3] at this
    exact this
  have ga := Heap.get?_push_of_some (seqObj "list" #[] 0) (Heap.get?_push_of_some (seqObj "tuple" its.toArray 0) ho1)
  have go := keys_run (x := s.heap.objs.size + 3) (a := s.heap.objs.size + 1) (e1 := e1) (E := E') (P := fun f s' => f = .done (.ret .none) ∧ EP X pins σ Q (.ref (s.heap.objs.size + 1)) s') F hr hb hd hK I3 rv hx ha (nl _ (by omega)) (nl _ (Nat.le_succ _)) (zl _ (by omega)) (zl _ (Nat.le_succ _)) (cc _ (by omega)) (cc _ (Nat.le_succ _)) (pp _ (by omega)) (pp _ (Nat.le_succ _)) fx fa (show (s.heap.objs.size + 3 : Nat) ≠ s.heap.objs.size + 1 by omega) gx ga hz al so dp turn
    (fun s' H' ys J sH na e => ⟨rfl, .ref (s.heap.objs.size + 1), _, J, rfl, q _ _ (Same.trans sH (fun b o e2 => by rw [upd_ne (fun z => by rw [z, na] at e2; cases e2)]; exact e2)) ha (by rw [upd_same, e])⟩)
  have ek : (((PySem.W.copyHeap s.heap its).update (s.heap.objs.size + 1) (Obj.mapSeq fun _ => (#[] : Array Value))).push { cls := .type "tuple", data := .seq its.toArray }).objs.size = s.heap.objs.size + 3 := us3
  rw [ek]
  exact go
end
end L2

namespace L2
open PySem PySem.Spec PyProof.Rows
/-! ### xs[::e] of a list, e being 1 or -1 -/
section
variable {X : Cx}
def tStepL (K : PySem.W.Frag) (te ti : TE) : TE := fun σ H Q => te σ H fun x H1 => ti σ H1 fun y H2 => ∃ a xs, x = .ref a ∧ SqL K H2 a xs ∧
  ((y = .int 1 ∧ ∀ p, H2 p = none → Q (.ref p) (upd H2 p (.lst xs))) ∨ (y = .int (-1) ∧ ∀ p, H2 p = none → Q (.ref p) (upd H2 p (.lst xs.reverse))))
theorem pick_fwd (its : List Value) : slicePick its.toArray none none (some 1) = its.toArray := by
  have h : slicePick its.toArray none none (some 1) = slicePick its.toArray none none none := rfl
  rw [h, slicePick_cut, HT.sIx_none, HT.sIx_none]
  simp
theorem pe_stepL {K : PySem.W.Frag} {e st : Expr} {te ti : TE} {p3 pos : Pos} (he : PE X e te) (hs : PE X st ti) (hK : X.K = K := by rfl) : PE X (.Subscript e (.Slice none none (some st) p3) pos) (tStepL K te ti) := by
  subst hK
  refine ⟨fun pins s σ H Q I h => ?_⟩
  refine Subscript_ (thn (he.run pins s σ H _ I h) fun v s1 z => ?_)
  obtain ⟨x, H1, I1, r1, q1⟩ := z
  refine wpAny_Slice (thn (po_none.run pins s1 σ H1 (fun o H2 => o = none ∧ H2 = H1) I1 ⟨rfl, rfl⟩) fun vl s2 z => ?_)
  obtain ⟨l, H2, I2, pl, el, e2⟩ := z
  subst el e2
  refine thn (po_none.run pins s2 σ H2 (fun o H3 => o = none ∧ H3 = H2) I2 ⟨rfl, rfl⟩) fun vu s3 z => ?_
  obtain ⟨u, H3, I3, pu, eu, e3⟩ := z
  subst eu e3
  have q2 : tPart ti σ H3 (fun o H4 => ∃ i, o = some i ∧ (i = 1 ∨ i = -1) ∧ ∃ a xs, x = .ref a ∧ SqL X.K H4 a xs ∧ ∀ p, H4 p = none → Q (.ref p) (upd H4 p (.lst (if i = 1 then xs else xs.reverse)))) := by
    refine (?_ : ti σ H3 _)
    have mono : (fun y H2 => ∃ a xs, x = V.ref a ∧ SqL X.K H2 a xs ∧ ((y = .int 1 ∧ ∀ p, H2 p = none → Q (.ref p) (upd H2 p (.lst xs))) ∨ (y = .int (-1) ∧ ∀ p, H2 p = none → Q (.ref p) (upd H2 p (.lst xs.reverse))))) =
        (fun (y : V) (H2 : Hp) => ∃ i, y = .int i ∧ ∃ j, some i = some j ∧ (j = 1 ∨ j = -1) ∧ ∃ a xs, x = .ref a ∧ SqL X.K H2 a xs ∧ ∀ p, H2 p = none → Q (.ref p) (upd H2 p (.lst (if j = 1 then xs else xs.reverse)))) := by
      funext y H2
      refine propext ⟨?_, ?_⟩
      · rintro ⟨a, xs, rfl, hx, ⟨rfl, q⟩ | ⟨rfl, q⟩⟩
        · exact ⟨1, rfl, 1, rfl, .inl rfl, a, xs, rfl, hx, q⟩
        · exact ⟨-1, rfl, -1, rfl, .inr rfl, a, xs, rfl, hx, q⟩
      · rintro ⟨i, rfl, j, e, hj, a, xs, rfl, hx, q⟩
        injection e with e
        subst e
        rcases hj with rfl | rfl
        · exact ⟨a, xs, rfl, hx, .inl ⟨rfl, q⟩⟩
        · exact ⟨a, xs, rfl, hx, .inr ⟨rfl, q⟩⟩
    exact mono ▸ q1
  refine thn ((po_some hs).run pins s3 σ H3 _ I3 q2) fun vs s4 z => ?_
  obtain ⟨o, H4, I4, ps, i, rfl, hi, a, xs, rfl, hx, q⟩ := z
  cases r1
  have I5 : Inv X pins σ H4 { s4 with heap := s4.heap.push { cls := .type "slice", data := .fields #[vl, vu, vs] } } := I4.kept (t' := s4.toks) fun b ob q => Heap.get?_push_of_some _ q
  obtain ⟨its, r, ht, hz⟩ := I5.list hx
  have hlen := r.length
  show wpAny (model X.prog X.w) X.A (subscriptTail e (.Slice none none (some st) p3) (.ref a) (.ref s4.heap.objs.size)) (EP X pins σ Q) X.xe { s4 with heap := s4.heap.push { cls := .type "slice", data := .fields #[vl, vu, vs] } }
  refine tail_any (ops := [.ref a, .ref s4.heap.objs.size]) ht.isList.typeIs (PySem.slot_list_getitem.lookup) ?_ (by with_unfolding_all rfl)
  refine wpAny_getItem_list_slice ht.isList (Heap.IsSliceOf.new _ vl vu vs) pl pu ps (by rcases hi with rfl | rfl <;> decide) ?_ (by rw [List.size_toArray]; omega)
  rcases hi with rfl | rfl
  · rw [pick_fwd]
    exact ⟨.ref _, _, I5.laid (t' := s4.toks) (o := .lst xs) (fun b ob q => Heap.get?_push_of_some _ q) (Nat.le_refl _) ⟨hz, _, 0, r, Heap.get?_push_size _ rfl⟩, rfl, q _ (I5.hok.fresh (Nat.le_refl _))⟩
  · rw [PySem.W.krv_pick]
    exact ⟨.ref _, _, I5.laid (t' := s4.toks) (o := .lst xs.reverse) (fun b ob q => Heap.get?_push_of_some _ q) (Nat.le_refl _) ⟨by rw [List.length_reverse]; exact hz, _, 0, r.reverse, Heap.get?_push_size _ rfl⟩, rfl, q _ (I5.hok.fresh (Nat.le_refl _))⟩
end
end L2

namespace L2
open PySem PySem.Spec PyProof.Rows
/-! ### text * number -/
section
variable {X : Cx}
theorem op_repS : OpR X (binaryOp .Mult) (fun x y H Q => ∃ (z : Str) (n : Int), x = .str z ∧ y = .int n ∧ MulOk z n ∧ Q (.str (Txt.mul z n)) H) := by
  intro pins s σ H x y v u Q I rx ry h
  obtain ⟨z, n, rfl, rfl, ok, q⟩ := h
  obtain ⟨t, rfl⟩ := rx
  obtain ⟨t', rfl⟩ := ry
  exact SB.mul ok fun t' tk => ⟨.str (Txt.mul z n), H, I.tok _, ⟨_, rfl⟩, q⟩
end
theorem rep_one (c : Nat) : ∀ (n : Nat) (a : Array Nat), ((List.replicate n (#[c] : Array Nat)).foldl (· ++ ·) a) = a ++ (List.replicate n c).toArray
  | 0, a => by simp
  | n + 1, a => by
    rw [List.replicate_succ, List.foldl_cons, rep_one c n, List.replicate_succ]
    apply Array.ext'
    simp
theorem mul_one {c n : Nat} (h : 2 ≤ n) : Txt.mul (⟨#[c]⟩ : Str) (n : Int) = ⟨(List.replicate n c).toArray⟩ := by
  unfold Txt.mul
  have e2 : ((n : Int) == 1 || (⟨#[c]⟩ : Str).length == 0) = false := by
    have : ((n : Int) == 1) = false := beq_eq_false_iff_ne.mpr (by omega)
    rw [this]
    rfl
  rw [if_neg (by omega), e2, if_neg (by decide), Int.toNat_natCast, rep_one]
  simp
end L2

namespace L2
open PySem PySem.Spec PyProof.Rows
/-! ### len(x) by an own __len__ -/
section
variable {X : Cx}
/-- an own function called from within a builtin -/
theorem own_run {CX : CXT} {n : Nat} {f : Addr} {fd : FuncData} {ps : List Str} {sp : Sp} {E : XK} {A : Around} {pins : List (Addr × Obj)} {σ : St} {H : Hp} {s : Shared} {vs : List V} {us : List Value} {Q : VK}
    (F : FnOk X.prog X.w X.K X.mg X.base CX n f fd ps sp) (hb : Binds X.K fd ps []) (hx : Passes CX X E) (sb : Sub X n A) (I : Inv X pins σ H s) (r : Vals vs us) (hsp : sp vs H Q E) :
    wpAny (model X.prog X.w) A (call (.ref f) us) (fun u s' => ∃ v H', Inv X pins σ H' s' ∧ RelV v u ∧ Q v H') X.xe s := by
  have e0 : Env0 X.prog X.w X.K X.mg X.base A X.stack s H := by
    have e := I.env0
    exact ⟨by rw [sb.fr]; exact e.frames, e.mod, e.bs, e.bsz, e.funs, e.frf, e.hok, e.bare⟩
  have hl := F.len _ _ _ _ hsp
  refine wpAny_call (codeAny_mono (F.run A X.stack s H ⟨us, []⟩ us vs _ E sb.room e0 (by
    have := hb s us I.kIn (by rw [List.append_nil, ← r.length]; exact hl)
    simpa using this) r hsp) fun r s' hq => ?_)
  cases r with
  | error e => exact hx pins σ H s e s' I hq
  | ok fl =>
    cases fl with
    | ret w => exact I.after hq
    | next => exact False.elim hq
    | brk => exact False.elim hq
    | cont => exact False.elim hq
def rLenO (C : Addr) (sp : Sp) (E : XK) : List V → Hp → VK → Prop := fun vs H Q => ∃ (a dx : Addr) (fs : List (Str × V)), vs = [.ref a] ∧ H a = some (.ins C dx fs) ∧
  sp [.ref a] H (fun v H' => ∃ n : Nat, v = .int n ∧ n < 9223372036854775808 ∧ Q (.int n) H') E
theorem call_lenO {CX : CXT} {n : Nat} {C f : Addr} {fd : FuncData} {ps : List Str} {ds : List Value} {sp : Sp} {E : XK} (hs : PySem.W.findIn X.K (.ref C) "__len__" = some (some (.ref f))) (hf : PySem.W.isFn X.K (.ref f) = true)
    (F : FnOk X.prog X.w X.K X.mg X.base CX n f fd ps sp) (hr : Room (n + 1) X.A) (hb : Binds X.K fd ps ds) (hd : Vals [] ds) (hx : Passes CX X E) : CallR X (.builtin "len") (rLenO C sp E) := by
  cases hd
  intro pins s σ H xs us Q I r h
  obtain ⟨a, dx, fs, rfl, ha, hsp⟩ := h
  obtain ⟨u, rfl, ru⟩ := vals1 r
  cases (show u = Value.ref a from ru)
  obtain ⟨mA, J, _⟩ := ins_get I.hok ha
  obtain ⟨od, J, _⟩ := J.look
  refine Calls.call_function_entry kind_len plain_len entry_len (args_len1 _) ?_
  unfold Builtin.«len»
  refine wpAny_bind (m := oneArg "len" _) (wpAny_pure ?_)
  refine wpAny_bind (m := callSpecial? (.ref a) (Str.ofString "__len__")) (PySem.W.special_fn (name := "__len__") I.kIn J hs (beq_iff_eq.mp hf) ?_)
  refine wpAny_mono (own_run F hb hx (Sub.in1 ⟨hr, rfl⟩) I (show Vals [V.ref a] [Value.ref a] from .cons rfl .nil) hsp) (fun v s' z => ?_) fun _ _ e => e
  obtain ⟨x, H', I', rx, m, rfl, hm, q⟩ := z
  obtain ⟨tk, rfl⟩ := rx
  refine wpAny_bind (wpAny_holding (wpAny_pure ?_))
  refine wpAny_bind (wpAny_letGo ?_)
  show wpAny _ _ (if ((m : Nat) : Int) < 0 then _ else _) _ _ _
  rw [if_neg (by omega)]
  show wpAny _ _ (if ((m : Nat) : Int) ≥ 2 ^ 63 then _ else _) _ _ _
  rw [if_neg (by omega)]
  exact wpAny_bind (wpAny_mkInt (wpAny_pure ⟨_, rfl, ⟨.int m, H', I'.tok _, ⟨_, rfl⟩, q⟩⟩))
/-- == by an own __eq__ -/
def rEqO (C : Addr) (sp : Sp) (E : XK) : V → V → Hp → VK → Prop := fun x y H Q => ∃ (a b dx dy : Addr) (fs gs : List (Str × V)), x = .ref a ∧ y = .ref b ∧ H a = some (.ins C dx fs) ∧ H b = some (.ins C dy gs) ∧
  sp [.ref a, .ref b] H (fun v H' => ∃ r : Bool, v = .bl r ∧ Q (.bl r) H') E
theorem op_eqO {CX : CXT} {n : Nat} {C f : Addr} {fd : FuncData} {ps : List Str} {ds : List Value} {sp : Sp} {E : XK} (hs : PySem.W.findIn X.K (.ref C) "__eq__" = some (some (.ref f))) (hf : PySem.W.isFn X.K (.ref f) = true)
    (F : FnOk X.prog X.w X.K X.mg X.base CX n f fd ps sp) (hr : Room n X.A) (hb : Binds X.K fd ps ds) (hd : Vals [] ds) (hx : Passes CX X E) : OpR X (compareOp .Eq) (rEqO C sp E) := by
  cases hd
  intro pins s σ H x y v u Q I rx ry h
  obtain ⟨a, b, dx, dy, fs, gs, rfl, rfl, ha, hb', hsp⟩ := h
  cases rx
  cases ry
  obtain ⟨mA, J, _⟩ := ins_get I.hok ha
  obtain ⟨mB, J', _⟩ := ins_get I.hok hb'
  obtain ⟨od, J, _⟩ := J.look
  obtain ⟨od', J', _⟩ := J'.look
  obtain ⟨m, hF⟩ := I.fr
  show wpAny (model X.prog X.w) X.A (richCompare .Eq (.ref a) (.ref b)) (EP X pins σ Q) X.xe s
  refine PySem.W.cmp_K (op := .Eq) (tb := .ref C) hr.units0 hF I.ok.mod.kin J J'.type (by simp [PySem.W.notFirst]) hs hf ?_
  refine wpAny_mono (own_run F hb hx ⟨hr, rfl⟩ I (show Vals [V.ref a, V.ref b] [Value.ref a, Value.ref b] from .cons rfl (.cons rfl .nil)) hsp) (fun v s' z => ?_) fun _ _ e => e
  obtain ⟨x, H', I', rv, r, rfl, q⟩ := z
  cases rv
  exact ⟨.bl r, H', I', rfl, q⟩
end
end L2

namespace L2
open PySem PySem.Spec PyProof.Rows
/-! ### set(text): its signs; sorted of it -/
def keyT (e : Int × Value) : Str := match e.2 with | .str k _ => k | _ => Str.empty
def GoodT (w : World) (e : Int × Value) : Prop := ∃ k tk, e.2 = Value.str k tk ∧ e.1 = hashStr w k
/-- the set of texts at a: S its members, n their number -/
def SetT (w : World) (h : Heap) (a : Addr) (S : Str → Bool) (n : Nat) : Prop :=
  ∃ o es ep t, h.get? a = some o ∧ o.ExactSet ∧ o.data = .set es ep t ∧ (∀ e ∈ es.toList, GoodT w e) ∧ (es.toList.map keyT).Nodup ∧ (∀ k, S k = true ↔ k ∈ es.toList.map keyT) ∧
    es.size < scanBound ∧ t.fits es.size = true ∧ es.size = n ∧ Ris t.place.toList ∧ (w.params.followText "set-order" = true ∨ t.led = true)
section
variable {P : Program} {w : World} {h h' : Heap} {a : Addr} {S : Str → Bool} {n : Nat}
theorem SetT.at (R : SetT w h a S n) (k : ∀ o, h.get? a = some o → h'.get? a = some o) : SetT w h' a S n := by
  obtain ⟨o, es, ep, t, ho, r⟩ := R
  exact ⟨o, es, ep, t, k o ho, r⟩
theorem goodT_elems {l : List (Int × Value)} (g : ∀ e ∈ l, GoodT w e) : ElemsOf (PySem.strKind P w) l := fun e he => by
  obtain ⟨k, tk, h1, h2⟩ := g e he
  exact ⟨⟨k, by rw [h1]; exact strKind_is P w k tk, h2⟩, by rw [h1] <;> rfl⟩
theorem goodT_is {e : Int × Value} (g : GoodT w e) (k : Str) : (PySem.strKind P w).is k e.2 = true ↔ keyT e = k := by
  obtain ⟨k0, tk, h1, _⟩ := g
  unfold keyT
  rw [h1]
  exact ⟨fun q => (PySem.strKind P w).inj _ _ _ (strKind_is P w k0 tk) q, fun q => by subst q; exact strKind_is P w _ tk⟩
theorem goodT_mem {l : List (Int × Value)} (g : ∀ e ∈ l, GoodT w e) (k : Str) : k ∈ l.map keyT ↔ ∃ e ∈ l, (PySem.strKind P w).is k e.2 = true := by
  rw [List.mem_map]
  constructor
  · rintro ⟨e, he, q⟩
    exact ⟨e, he, (goodT_is (g e he) k).2 q⟩
  · rintro ⟨e, he, q⟩
    exact ⟨e, he, (goodT_is (g e he) k).1 q⟩
end
section
variable {P : Program} {w : World} {A : Around} {E : Value → Shared → Prop} {s : Shared} {a : Addr} {S : Str → Bool} {n : Nat}
theorem setT_add_tail {g : Bool → Sem Unit} (hg : ∀ (b : Bool) (s₁ : Shared) (Q' : Unit → Shared → Prop), Q' () s₁ → wpAny (model P w) A (g b) Q' E s₁)
    {o : Obj} {es : Array (Int × Value)} {ep : Nat} {t : SetTable} (ho : s.heap.get? a = some o) (hex : o.ExactSet) (hd : o.data = .set es ep t)
    {es1 : Array (Int × Value)} {t2 : SetTable} {S' : Str → Bool} (g1 : ∀ e ∈ es1.toList, GoodT w e) (nd1 : (es1.toList.map keyT).Nodup) (m1 : ∀ k, S' k = true ↔ k ∈ es1.toList.map keyT)
    (hb1 : es1.size < scanBound) (hf2 : t2.fits es1.size = true) (hr : Ris t2.place.toList) (hl : w.params.followText "set-order" = true ∨ t2.led = true) {wasDummy : Bool} {R : Option Bool → Shared → Prop}
    (hR : ∀ h', Heap.SameBut a s.heap h' → SetT w h' a S' es1.size → R (some true) { s with heap := h' }) :
    wpAny (model P w) A (do
        storeSet a es1 t2
        if (!wasDummy && t2.tooFull) = true then do
            g (relayAll t2 es1 (SetTable.grown es1.size)).2.2
            storeSet a (relayAll t2 es1 (SetTable.grown es1.size)).1 (relayAll t2 es1 (SetTable.grown es1.size)).2.1
            pure (some true)
          else pure (some true)) R E s := by
  refine wpAny_bind (wpAny_storeSet_of ho hd ?_ (fits_of_scanBound hb1))
  have ho1 := store_at (es' := es1) (t' := t2) ho hd
  have sb1 := Heap.SameBut.update s.heap a (Obj.putSet es1 t2)
  split
  · have pm := relayAll_perm t2 es1 (SetTable.grown es1.size)
    have hf3 := relayAll_fits t2 es1 (SetTable.grown es1.size)
    have hr3 := relayAll_ris t2 es1 (SetTable.grown es1.size)
    have hl3 := relayAll_led t2 es1 (SetTable.grown es1.size)
    generalize relayAll t2 es1 (SetTable.grown es1.size) = Z at pm hf3 hr3 hl3 ⊢
    obtain ⟨es2, t3, gave⟩ := Z
    dsimp only at pm hf3 hr3 hl3 ⊢
    have hsz : es2.size = es1.size := by rw [← Array.length_toList, pm.length_eq, Array.length_toList]
    have hb2 : es2.size < scanBound := by rw [hsz]; exact hb1
    refine wpAny_bind (hg _ _ _ ?_)
    refine wpAny_bind (wpAny_storeSet_of ho1 rfl ?_ (fits_of_scanBound hb2))
    have ho2 := store_at (es' := es2) (t' := t3) ho1 rfl
    refine wpAny_pure (hR _ (sb1.trans (Heap.SameBut.update _ a _)) ?_)
    exact ⟨_, es2, _, t3, ho2, hex, rfl, fun e he => g1 e (pm.mem_iff.mp he), (pm.map keyT).nodup_iff.mpr nd1, fun k => (m1 k).trans (pm.map keyT).mem_iff.symm, hb2, hf3, hsz, hr3,
      hl.imp id fun z => by rw [hl3]; exact z⟩
  · exact wpAny_pure (hR _ sb1 ⟨_, es1, _, t2, ho1, hex, rfl, g1, nd1, m1, hb1, hf2, rfl, hr, hl⟩)
theorem setT_add_hashed {k : Str} {tk : Tok} {Q : Bool → Shared → Prop} (R : SetT w s.heap a S n) (room : n + 1 < scanBound)
    (hQ : ∀ h', Heap.SameBut a s.heap h' → SetT w h' a (fun j => S j || decide (j = k)) (if S k = true then n else n + 1) → Q (!S k) { s with heap := h' }) :
    wpAny (model P w) A (setAddHashed a (.str k tk) ((PySem.strKind P w).hash k)) Q E s := by
  obtain ⟨o, es, ep, t, ho, hex, hd, g, nd, hm, hb, hf, hn, hr, hl⟩ := R
  have hkey : (PySem.strKind P w).is k (.str k tk) = true := strKind_is P w k tk
  have hsc : (Value.str k tk).scannable = true := rfl
  have hel : ElemsOf (PySem.strKind P w) es.toList := goodT_elems g
  unfold setAddHashed setAddHashedIn
  refine wpAny_holding (wpAny_bind (wpAny_setState_of ho hd hf ?_))
  dsimp only
  rw [byScan_of hsc hb hel]
  simp only [↓reduceIte]
  unfold setAddByScan
  refine wpAny_bind ?_
  refine wpAny_bind (wpAny_rule ?_)
  refine wpAny_bind (wpAny_setScan_of hkey ho hd hf hel ?_)
  cases hfi : List.findIdx? (fun e => (PySem.strKind P w).is k e.2) es.toList with
  | some j =>
    dsimp only
    obtain ⟨hj, pj, _⟩ := List.findIdx?_eq_some_iff_getElem.mp hfi
    have hSk : S k = true := (hm k).2 ((goodT_mem (P := P) (w := w) g k).2 ⟨es.toList[j], List.getElem_mem hj, pj⟩)
    refine wpAny_pure (wpAny_pure ?_)
    have q := hQ s.heap (Heap.SameBut.refl a s.heap) ⟨o, es, ep, t, ho, hex, hd, g, nd, fun i => by
      rw [Bool.or_eq_true, decide_eq_true_eq, ← hm i]
      exact ⟨fun z => z.elim id (fun e => e ▸ hSk), .inl⟩, hb, hf, by rw [if_pos hSk]; exact hn, hr, hl⟩
    rw [hSk] at q
    exact q
  | none =>
    dsimp only
    have hnk : k ∉ es.toList.map keyT := fun z => by
      obtain ⟨e, he, q⟩ := (goodT_mem (P := P) (w := w) g k).1 z
      have c := List.findIdx?_eq_none_iff.mp hfi e he
      rw [q] at c
      cases c
    have hSk : S k = false := by
      cases q : S k with
      | false => rfl
      | true => exact absurd ((hm k).1 q) hnk
    have hgw : ∀ (b : Bool) {s₁ : Shared} {Q' : Unit → Shared → Prop}, Q' () s₁ → wpAny (model P w) A (match b with | true => rule "set.scan.the-table-gave-way" | false => pure ()) Q' E s₁ :=
      fun b s₁ Q' q => by cases b <;> first | exact wpAny_pure q | exact wpAny_rule q
    have pm := layNew_perm t es ((PySem.strKind P w).hash k) (.str k tk)
    have hf1 := layNew_fits t es ((PySem.strKind P w).hash k) (.str k tk)
    have hr1 := layNew_ris t es ((PySem.strKind P w).hash k) (.str k tk) hr
    have hl1 := layNew_led t es ((PySem.strKind P w).hash k) (.str k tk)
    generalize layNew t es ((PySem.strKind P w).hash k) (.str k tk) = Z at pm hf1 hr1 hl1 ⊢
    obtain ⟨es1, t1, wasDummy, gave⟩ := Z
    dsimp only at pm hf1 hr1 hl1 ⊢
    rw [Array.toList_push] at pm
    have pc : es1.toList.Perm (((PySem.strKind P w).hash k, Value.str k tk) :: es.toList) := pm.trans (List.perm_append_singleton _ _)
    have pk : (es1.toList.map keyT).Perm (k :: es.toList.map keyT) := pc.map keyT
    have g1 : ∀ e ∈ es1.toList, GoodT w e := fun e he => by
      rcases List.mem_cons.mp (pc.mem_iff.mp he) with z | z
      · rw [z]; exact ⟨k, tk, rfl, rfl⟩
      · exact g e z
    have nd1 : (es1.toList.map keyT).Nodup := pk.nodup_iff.mpr (List.nodup_cons.mpr ⟨hnk, nd⟩)
    have m1 : ∀ i, (S i || decide (i = k)) = true ↔ i ∈ es1.toList.map keyT := fun i => by
      rw [Bool.or_eq_true, decide_eq_true_eq, hm i, pk.mem_iff, List.mem_cons]
      exact Or.comm
    have hsz : es1.size = n + 1 := by rw [← Array.length_toList, pc.length_eq, List.length_cons, Array.length_toList, hn]
    have hb1 : es1.size < scanBound := by rw [hsz]; exact room
    have hled : w.params.followText "set-order" = true ∨ t1.led = true := hl.imp id fun z => by rw [hl1]; exact z
    have fin : ∀ h', Heap.SameBut a s.heap h' → SetT w h' a (fun j => S j || decide (j = k)) es1.size → Q true { s with heap := h' } := fun h' sb r => by
      have q := hQ h' sb
      rw [hSk] at q
      rw [hsz] at r
      exact q r
    refine wpAny_bind (hgw _ ?_)
    split
    · refine wpAny_bind ?_
      rw [hashByValue_scannable 8 hsc]
      refine wpAny_pure ?_
      refine setT_add_tail ?_ ho hex hd g1 nd1 m1 hb1 ?_ ?_ ?_ ?_
      · intro b s₁ Q' q; cases b <;> first | exact wpAny_pure q | exact wpAny_rule q
      · first | (split <;> first | exact hf1 | exact SetTable.fits_plain_off hf1) | exact hf1
      · first | (split <;> exact hr1) | exact hr1
      · first | (split <;> exact hled) | exact hled
      · intro h' sb r; dsimp only; exact wpAny_pure (fin h' sb r)
    · refine wpAny_bind (wpAny_pure ?_)
      simp only [↓reduceIte]
      refine setT_add_tail ?_ ho hex hd g1 nd1 m1 hb1 hf1 hr1 hled ?_
      · intro b s₁ Q' q; cases b <;> first | exact wpAny_pure q | exact wpAny_rule q
      · intro h' sb r; dsimp only; exact wpAny_pure (fin h' sb r)
end
/-- the signs of a text up to a place, as texts -/
def sgnT (x : Str) (i : Nat) (k : Str) : Bool := ((x.cps.toList.take i).map fun c => (⟨#[c]⟩ : Str)).any (· == k)
theorem sgnT_succ {x : Str} {i c : Nat} (h : x.cps[i]? = some c) (k : Str) : sgnT x (i + 1) k = (sgnT x i k || decide (k = ⟨#[c]⟩)) := by
  have e : x.cps.toList[i]? = some c := by rw [Array.getElem?_toList]; exact h
  unfold sgnT
  rw [List.take_add_one, e, List.map_append, List.any_append]
  congr 1
  show ((⟨#[c]⟩ : Str) == k || false) = decide (k = ⟨#[c]⟩)
  rw [Bool.or_false]
  by_cases q : k = ⟨#[c]⟩
  · rw [q, beq_self_eq_true, decide_eq_true rfl]
  · rw [decide_eq_false q]
    exact beq_eq_false_iff_ne.mpr fun z => q z.symm
section
variable {prog : Program} {w : World} {A : Around} {R : Result → Shared → Prop} {I : Addr} {fp wr : List Addr} {G : Array GenState → Array GenState → Prop} {St : Nat → Shared → Prop} {x : Str}
theorem loopT (W : WalksS prog w A.in1 I fp wr G x.cps.size (SignAt x) St) (S : Addr) (hSf : S ∉ fp) (hb : x.cps.size + 1 < scanBound) :
    ∀ (k i m : Nat) (s : Shared), x.cps.size - i = k → i ≤ x.cps.size → St i s → m ≤ i → SetT w s.heap S (sgnT x i) m →
      (∀ s' m', Moved (S :: wr) G s s' → m' ≤ x.cps.size → SetT w s'.heap S (sgnT x x.cps.size) m' → R (.ok (.ret .none)) s') →
      codeAny (model prog w) A (.builtin "set.update.loop" ⟨[.ref S, .ref I], []⟩) R s := by
  have hSw : S ∉ wr := fun h => hSf (W.sub _ h)
  have hsub : ∀ b ∈ wr, b ∈ S :: wr := fun b hb => List.mem_cons_of_mem _ hb
  intro k
  induction k with
  | zero =>
    intro i m s hk hi hst hm0 hS hR
    have hin : i = x.cps.size := by omega
    refine codeAny_builtin F.entry_set_update_loop ?_
    rw [Around.under_plainId F.plain_set_update_loop _]
    show wpAny _ A.in1 (pyNext (.ref I) >>= _) _ _ s
    refine wpAny_bind (W.done s _ _ (hin ▸ hst) fun s' hm => ?_)
    show wpAny _ A.in1 (ret Value.none) _ _ s'
    refine wpAny_pure (hR s' m (hm.mono hsub) (by omega) ?_)
    rw [← hin]
    exact hS.at fun o ho => hm.heap S _ hSw ho
  | succ k ih =>
    intro i m s hk hi hst hm0 hS hR
    have hlt : i < x.cps.size := by omega
    refine codeAny_builtin F.entry_set_update_loop ?_
    rw [Around.under_plainId F.plain_set_update_loop _]
    show wpAny _ A.in1 (pyNext (.ref I) >>= _) _ _ s
    refine wpAny_bind (W.item i s _ _ hlt hst fun v s' hP hst' hm => ?_)
    obtain ⟨c, t, hc, rfl⟩ := hP
    have hS' : SetT w s'.heap S (sgnT x i) m := hS.at fun o ho => hm.heap S _ hSw ho
    show wpAny _ A.in1 (holding [Value.str ⟨#[c]⟩ t] (setAdd S (.str ⟨#[c]⟩ t)) >>= _) _ _ s'
    refine wpAny_bind (wpAny_holding ?_)
    unfold setAdd
    refine wpAny_holding ?_
    refine wpAny_bind ((PySem.strKind prog w).pyHash (k := (⟨#[c]⟩ : Str)) (strKind_is _ _ _ _) ?_)
    refine setT_add_hashed (s := { s' with toks := s'.toks + 1 }) hS' (by omega) fun h' hsb hS2 => ?_
    have hSi : SetT w h' S (sgnT x (i + 1)) (if sgnT x i ⟨#[c]⟩ = true then m else m + 1) := by
      have e : (fun j => sgnT x i j || decide (j = ⟨#[c]⟩)) = sgnT x (i + 1) := funext fun j => (sgnT_succ hc j).symm
      rw [← e]
      exact hS2
    refine wpAny_pure ⟨plainId_quiet F.plain_set_update_loop _, ih (i + 1) _ _ (by omega) hlt (W.frame _ s' _ _ hst' (Nat.le_succ _) fun b hb o e => ?_) (by split <;> omega) hSi fun s'' m' hm'' hz hS'' => ?_⟩
    · rw [hsb.2 b (fun h : b = S => hSf (by rw [← h]; exact hb))]; exact e
    · refine hR s'' m' (Moved.trans W.gtrans ((hm.mono hsub).then_heap (Nat.le_succ _) fun b o hb e => ?_) hm'') hz hS''
      rw [hsb.2 b (fun h : b = S => hb (by rw [h]; exact List.mem_cons_self))]; exact e
end
section
variable {prog : Program} {w : World} {A : Around} {E : Value → Shared → Prop} {s : Shared}
theorem code_set_led1 (a : Value) {Q₁ : Value → Shared → Prop}
    (h : Q₁ (.ref s.heap.objs.size) { s with heap := s.heap.push { cls := .type "set", dict := none, data := .set #[] 0 (.fresh 0 0 (!w.params.followText "set-order")) } }) :
    codeAny (model prog w) A (.call (.builtin "set.__new__") ⟨[.type "set", a], []⟩) (wants Q₁ E) s := by
  refine codeAny_of_tree ?_
  show wpAny _ A.in1 (do checkBuiltinCall "set.__new__" ⟨[.type "set", a], []⟩; again (.builtin "set.__new__" ⟨[.type "set", a], []⟩)) _ _ s
  refine wpAny_bind (wpAny_of_eq (F.newCall_set_1 a) (wpAny_pure ⟨plainId_quiet F.plain_set_new _, codeAny_builtin F.entry_set_new ?_⟩))
  rw [Around.under_plainId F.plain_set_new _]
  unfold Builtin.«set.__new__» Builtin.Frozenset.newClass
  have hsub := sub_set_self
  obtain ⟨hp, g, d, tk, os⟩ := s
  dsimp only
  wp_walk
  refine wpAny_askSetting (wpAny_pure ?_)
  dsimp only
  simp only [newObj]
  refine wpAny_bind (wpAny_alloc (wpAny_pure ?_))
  exact wpAny_pure h
theorem setT_fresh {h : Heap} (w : World) : SetT w (h.push { cls := .type "set", dict := none, data := .set #[] 0 (.fresh 0 0 (!w.params.followText "set-order")) }) h.objs.size (fun _ => false) 0 :=
  ⟨_, #[], 0, _, Heap.get?_push_size _ rfl, ⟨rfl, rfl, rfl⟩, rfl, (fun e he => by simp at he), (by simp), (fun k => by simp), (by decide), (by rfl), rfl, List.Pairwise.nil, by
    show _ ∨ (!w.params.followText "set-order") = true
    cases w.params.followText "set-order"
    · exact .inr rfl
    · exact .inl rfl⟩
theorem sub_str_set : isSubtype (.type "str") (.type "set") = pure false := by rw [isSubtype_type]; kernel_rfl
theorem sub_str_frozenset : isSubtype (.type "str") (.type "frozenset") = pure false := by rw [isSubtype_type]; kernel_rfl
set_option maxHeartbeats 3200000 in
theorem call_set_str {x : Str} {t : Tok} {Q : Value → Shared → Prop}
    (hh : A.handled = none) (hb : x.cps.size + 1 < scanBound)
    (h : ∀ (h' : Heap) (tk m : Nat), m ≤ x.cps.size → SetT w h' s.heap.objs.size (sgnT x x.cps.size) m →
      (∀ b o, b < s.heap.objs.size → s.heap.get? b = some o → h'.get? b = some o) → Q (.ref s.heap.objs.size) { s with heap := h', toks := tk }) :
    wpAny (model prog w) A (call (.type "set") [.str x t]) Q E s := by
  obtain ⟨c, tl, hmro⟩ := PySem.F.called_set.mro
  have hmade := PySem.F.called_set.made
  have hsub := PySem.F.called_set.sub
  refine wpAny_call (codeAny_of_tree ?_)
  show wpAny _ _ (callAny (.type "set") _) _ _ _
  refine wpAny_pure ⟨Code.quiet_builtin _ (by decide +kernel), codeAny_builtin PySem.F.entry_type_call ?_⟩
  rw [Around.under_plain (weight_type_call_type "set" [.str x t] []) rfl]
  have h1 := PySem.F.called_set.notType
  have h2 := PySem.F.called_set.canCreate
  have hct := PySem.F.typeCall_set_1 (.str x t)
  repeat (any_goals (first | assumption | wp_step))
  refine codeAny_mono (code_set_led1 (.str x t) (E := E) (Q₁ := fun obj s₁ => obj = .ref s.heap.objs.size ∧ s₁ = { s with heap := s.heap.push { cls := .type "set", dict := none, data := .set #[] 0 (.fresh 0 0 (!w.params.followText "set-order")) } }) ⟨rfl, rfl⟩) fun r s₁ hr => ?_
  cases r with
  | error e => exact hr
  | ok fl =>
    cases fl with
    | ret obj =>
      obtain ⟨rfl, rfl⟩ := hr
      have hS : (s.heap.push { cls := .type "set", dict := none, data := .set #[] 0 (.fresh 0 0 (!w.params.followText "set-order")) }).get? s.heap.objs.size = some { cls := .type "set", dict := none, data := .set #[] 0 (.fresh 0 0 (!w.params.followText "set-order")) } := Heap.get?_push_size _ rfl
      have hT : Shared.TypeIs { s with heap := s.heap.push { cls := .type "set", dict := none, data := .set #[] 0 (.fresh 0 0 (!w.params.followText "set-order")) } } (.ref s.heap.objs.size) "set" := ⟨_, hS, rfl⟩
      have hli := PySem.F.called_set.init.lookup
      have hbi := PySem.F.called_set.init.bind (.ref s.heap.objs.size)
      repeat (any_goals (first | assumption | wp_step))
      refine codeAny_mono (codeAny_call_builtin (R := wants (fun r s₂ => r = .none ∧ ∃ h' tk m, s₂ = { s with heap := h', toks := tk } ∧ m ≤ x.cps.size ∧
          SetT w h' s.heap.objs.size (sgnT x x.cps.size) m ∧
          (∀ b o, b < s.heap.objs.size → s.heap.get? b = some o → h'.get? b = some o)) E) PySem.F.called_set.init.plain PySem.F.entry_set_init (check_set_init_1 hT ?_)) fun r₂ s₂ hr₂ => ?_
      · have hsls := sub_str_set
        have hslf := sub_str_frozenset
        have hne : (Value.type "str" == Value.type "dict") = false := by decide
        unfold Builtin.«set.__init__» noKeywords Builtin.Frozenset.updateFrom
        generalize hPI : pyIter = PI
        wp_walk
        subst hPI
        refine wpAny_pyIter_str (s := { s with heap := s.heap.push { cls := .type "set", dict := none, data := .set #[] 0 (.fresh 0 0 (!w.params.followText "set-order")) } }) fun oi St hW hst => ?_
        refine wpAny_bind (wpAny_runValue ?_)
        have hSf : s.heap.objs.size ∉ [(s.heap.push { cls := .type "set", dict := none, data := .set #[] 0 (.fresh 0 0 (!w.params.followText "set-order")) }).objs.size] := by
          rw [Heap.size_push]; simp only [List.mem_singleton]
          exact Nat.ne_of_lt (Nat.lt_succ_self _)
        refine loopT ((hW _ (by simp [hh])).toS) s.heap.objs.size hSf hb (x.cps.size - 0) 0 0 _ (by omega) (Nat.zero_le _) hst (Nat.le_refl _) ?hS0 ?hR
        case hS0 =>
          exact (setT_fresh w).at fun o ho => Heap.get?_push_of_some _ ho
        case hR =>
          intro s' m' hm hz hS'
          obtain ⟨h', g', d', tk', os'⟩ := s'
          have eg : g' = s.gens := hm.gens
          have ed : d' = s.drawn := hm.drawn
          have eo : os' = s.os := hm.os
          subst eg; subst ed; subst eo
          show wpAny _ _ _ _ _ _
          refine wpAny_pure ?_
          show wpAny _ _ (ret Value.none) _ _ _
          refine wpAny_pure ⟨rfl, h', tk', m', rfl, hz, hS', fun b o hb e => ?_⟩
          have hb1 : b ≠ s.heap.objs.size := Nat.ne_of_lt hb
          have hb2 : b ≠ (s.heap.push { cls := .type "set", dict := none, data := .set #[] 0 (.fresh 0 0 (!w.params.followText "set-order")) }).objs.size := by
            rw [Heap.size_push]; exact Nat.ne_of_lt (Nat.lt_succ_of_lt hb)
          exact hm.heap b o (by simp only [List.mem_cons, List.not_mem_nil, or_false, not_or]; exact ⟨hb1, hb2⟩) (Heap.get?_push_of_some _ (Heap.get?_push_of_some _ e))
      · cases r₂ with
        | error e => exact hr₂
        | ok fl₂ =>
          cases fl₂ with
          | ret r =>
            obtain ⟨rfl, h', tk, m, rfl, hz, hS', hk'⟩ := hr₂
            repeat (any_goals (first | assumption | wp_step))
            exact h _ _ _ hz hS' hk'
          | _ => exact hr₂.elim
    | _ => exact hr.elim
theorem strs_of : ∀ (l : List Value), (∀ v ∈ l, ∃ k tk, v = Value.str k tk) → StrsAre l (l.map fun v => match v with | .str k _ => k | _ => Str.empty)
  | [], _ => .nil
  | v :: l, h => by
    obtain ⟨k, tk, rfl⟩ := h v List.mem_cons_self
    exact .cons k tk (strs_of l fun u hu => h u (List.mem_cons_of_mem _ hu))
theorem sorted_setT {a : Addr} {S : Str → Bool} {n : Nat} {Q : Value → Shared → Prop} (R : SetT w s.heap a S n) (hh : A.handled = none)
    (hQ : ∀ s' p (out : Array Value) (c : Nat) (ys : List Str), (∀ b o, s.heap.get? b = some o → s'.heap.get? b = some o) → s'.gens = s.gens → s'.os = s.os → s.heap.objs.size ≤ p →
      s'.heap.get? p = some (seqObj "list" out c) → StrsAre out.toList ys → sortedS ys = true → ys.Nodup → (∀ k, k ∈ ys ↔ S k = true) → ys.length = n → Q (.ref p) s') :
    wpAny (model prog w) A (call (.builtin "sorted") [.ref a]) Q E s := by
  obtain ⟨o, es, ep, t, ho, hex, hd, g, nd, hm, hb, hf, hn, hr, hl⟩ := R
  refine Calls.call_function_entry kind_sorted plain_sorted entry_sorted (args_sorted1 _) ?_
  unfold Builtin.«sorted»
  refine wpAny_bind (m := checkCount "sorted" 1 1 _) (wpAny_pure ?_)
  refine wpAny_bind (collect_set (A := A.in1) hh ⟨o, ho, hex.1, hd⟩ hf hb hr hl fun s1 vs k1 hz g1 o1 pm => ?_)
  have hvl : vs.length = n := by rw [pm.length_eq, List.length_map, Array.length_toList]; exact hn
  have hnz : n ≤ sizeLine := by rw [← hn]; exact fits_of_scanBound hb
  have hI : StrsAre vs (vs.map fun v => match v with | .str k _ => k | _ => Str.empty) := strs_of vs fun v hv => by
    obtain ⟨e, he, q⟩ := List.mem_map.mp (pm.mem_iff.mp hv)
    obtain ⟨k, tk, h1, _⟩ := g e he
    exact ⟨k, tk, by rw [← q]; exact h1⟩
  have pk : (vs.map fun v => match v with | .str k _ => k | _ => Str.empty).Perm (es.toList.map keyT) := by
    have q := pm.map (fun v => match v with | .str k _ => k | _ => Str.empty)
    rw [List.map_map] at q
    exact q
  refine wpAny_bind (wpAny_newList ?_ (by rw [hvl]; exact hnz))
  have hoL : (s1.heap.push (seqObj "list" vs.toArray 0)).get? s1.heap.objs.size = some (seqObj "list" vs.toArray 0) := Heap.get?_push_size _ rfl
  refine wpAny_bind (wpAny_holding (wpAny_call_entry slot_list_sort ⟨_, hoL, rfl⟩ entry_list_sort (list_sort_treeKAny strKind_oneLt hoL hI.keysOf (fun v₁ v₂ rest e => keyKind_strs (by rw [← e]; exact hI)) (by rw [hvl]; exact hnz) fun st' b1 b2 => ⟨_, rfl, ?_⟩) (args_list_sort _)))
  obtain ⟨ys, a1, a2, a3⟩ := sorted_out_str hI b1 b2
  obtain ⟨c, hc⟩ := sortedHeap_at (vs := vs) (out := (arrOf st').map (·.2)) hoL
  have pn : ys.Perm (es.toList.map keyT) := a2.trans pk
  refine wpAny_pure ⟨_, rfl, hQ _ s1.heap.objs.size _ c ys (fun b u e => ?_) g1 o1 hz hc a1 a3 (pn.nodup_iff.mpr nd) (fun k => by rw [pn.mem_iff, ← hm k]) ?_⟩
  · have q := k1 b u e
    have hlt := Heap.lt_size q
    show (sortedHeap (s1.heap.push (seqObj "list" vs.toArray 0)) s1.heap.objs.size vs ((arrOf st').map (·.2))).get? b = some u
    rw [sortedHeap_old (Nat.ne_of_lt hlt) (by rw [size_push']; exact Nat.lt_succ_of_lt hlt)]
    exact Heap.get?_push_of_some _ q
  · rw [pn.length_eq, List.length_map, Array.length_toList]; exact hn
end
/-- the set of texts at a -/
def SetTO (w : World) (a : Addr) (S : Str → Bool) (n : Nat) : HO := .ext fun h => SetT w h a S n
section
variable {X : Cx}
theorem setTO_new {w : World} {P : Program} {H : Hp} {h : Heap} {a : Addr} {S : Str → Bool} {n : Nat} (R : SetT w h a S n) : ObjOk P w H h a (SetTO w a S n) := by
  have ⟨o, _, _, _, ho, _⟩ := R
  exact ⟨R, ⟨o, ho⟩, fun h1 h2 p k => SetT.at p k⟩
theorem setTO_get {pins : List (Addr × Obj)} {σ : St} {H : Hp} {s : Shared} {a : Addr} {S : Str → Bool} {n : Nat} (I : Inv X pins σ H s) (ha : H a = some (SetTO X.w a S n)) : SetT X.w s.heap a S n := (I.hok a _ ha).1
/-- set(text) -/
def rSetT (w : World) : List V → Hp → VK → Prop := fun xs H Q => ∃ x : Str, xs = [.str x] ∧ x.cps.size + 1 < scanBound ∧ ∀ p m, m ≤ x.cps.size → H p = none → Q (.ref p) (upd H p (SetTO w p (sgnT x x.cps.size) m))
theorem call_setT (hc : X.calm = true) : CallR X (.type "set") (rSetT X.w) := by
  intro pins s σ H xs us Q I r h
  obtain ⟨x, rfl, hz, q⟩ := h
  obtain ⟨u, rfl, ru⟩ := vals1 r
  obtain ⟨t, rfl⟩ := ru
  refine call_set_str (I.ok.hd hc) hz fun h' tk m hm hS hk => ?_
  exact ⟨.ref s.heap.objs.size, _, I.laid (t' := tk) (a := s.heap.objs.size) (o := SetTO X.w s.heap.objs.size (sgnT x x.cps.size) m) (fun b o z => hk b o (Heap.lt_size z) z) (Nat.le_refl _) (setTO_new hS), rfl, q _ m hm (I.hok.fresh (Nat.le_refl _))⟩
/-- sorted(set of texts) -/
def rSortedSetT (w : World) : List V → Hp → VK → Prop := fun vs H Q => ∃ (a : Addr) (S : Str → Bool) (n : Nat), vs = [V.ref a] ∧ H a = some (SetTO w a S n) ∧ n ≤ 40000 ∧
  ∀ (ys : List Str) (p : Addr), sortedS ys = true → ys.Nodup → (∀ k : Str, k ∈ ys ↔ S k = true) → ys.length = n → H p = none → Q (.ref p) (upd H p (.lst (ys.map V.str)))
theorem call_sortedSetT (hc : X.calm = true) : CallR X (.builtin "sorted") (rSortedSetT X.w) := by
  intro pins s σ H vs us Q I r h
  obtain ⟨a, S, n, rfl, ha, hz, q⟩ := h
  have R := setTO_get I ha
  rw [Vals.ref1 r]
  refine sorted_setT R (I.ok.hd hc) fun s' p out c ys k g o hp hg hi hs hd hm hl => ?_
  have hlen : (ys.map V.str).length ≤ sizeLine := by rw [List.length_map, hl]; exact Nat.le_trans hz (by decide)
  have hn : H p = none := I.hok.fresh hp
  have J : Inv X pins σ (upd H p (.lst (ys.map V.str))) { s with heap := s'.heap, gens := s'.gens, drawn := s'.drawn, toks := s'.toks } :=
    I.call (ch := []) (Un.laid k hp hn) (I.hok.laid k hp ⟨hlen, out.toList, c, vals_of_strs hi, hg⟩) (by rw [g]; exact I.bare) (fun _ z => nomatch z)
  have e : s' = { s with heap := s'.heap, gens := s'.gens, drawn := s'.drawn, toks := s'.toks } := by
    cases s'
    cases s
    cases o
    rfl
  rw [e]
  exact ⟨.ref p, _, J, rfl, q ys p hs hd hm hl hn⟩
/-- tuple(list) -/
def rTupL (K : PySem.W.Frag) : List V → Hp → VK → Prop := fun xs H Q => ∃ p ys, xs = [.ref p] ∧ SqL K H p ys ∧ ∀ l, H l = none → Q (.ref l) (upd H l (.tup ys))
theorem call_tupleL {K : PySem.W.Frag} (hK : X.K = K := by rfl) : CallR X (.type "tuple") (rTupL K) := by
  subst hK
  intro pins s σ H xs us Q I r h
  obtain ⟨p, ys, e, hS, q⟩ := h
  exact call_tuple_of pins s σ H xs us Q I r ⟨p, ys, e, .inl ⟨hS, q⟩⟩
end
end L2

namespace L2
open PySem PySem.Spec PyProof.Rows
/-! ### frozenset(list of texts), == of two -/
/-- the set of texts at a, of whatever class -/
def SetX (Ex : Obj → Prop) (w : World) (h : Heap) (a : Addr) (S : Str → Bool) (n : Nat) : Prop :=
  ∃ o es ep t, h.get? a = some o ∧ Ex o ∧ o.data = .set es ep t ∧ (∀ e ∈ es.toList, GoodT w e) ∧ (es.toList.map keyT).Nodup ∧ (∀ k, S k = true ↔ k ∈ es.toList.map keyT) ∧
    es.size < scanBound ∧ t.fits es.size = true ∧ es.size = n ∧ Ris t.place.toList ∧ (w.params.followText "set-order" = true ∨ t.led = true)
def ExFz (o : Obj) : Prop := o.cls = .type "frozenset" ∧ o.dict = none ∧ o.slots = #[]
section
variable {P : Program} {w : World} {A : Around} {E : Value → Shared → Prop} {s : Shared} {a : Addr} {S : Str → Bool} {n : Nat} {Ex : Obj → Prop}
theorem SetX.at {h h' : Heap} (R : SetX Ex w h a S n) (k : ∀ o, h.get? a = some o → h'.get? a = some o) : SetX Ex w h' a S n := by
  obtain ⟨o, es, ep, t, ho, r⟩ := R
  exact ⟨o, es, ep, t, k o ho, r⟩
theorem setX_add_tail (hE : ∀ (o : Obj) d, Ex o → Ex { o with data := d }) {g : Bool → Sem Unit} (hg : ∀ (b : Bool) (s₁ : Shared) (Q' : Unit → Shared → Prop), Q' () s₁ → wpAny (model P w) A (g b) Q' E s₁)
    {o : Obj} {es : Array (Int × Value)} {ep : Nat} {t : SetTable} (ho : s.heap.get? a = some o) (hex : Ex o) (hd : o.data = .set es ep t)
    {es1 : Array (Int × Value)} {t2 : SetTable} {S' : Str → Bool} (g1 : ∀ e ∈ es1.toList, GoodT w e) (nd1 : (es1.toList.map keyT).Nodup) (m1 : ∀ k, S' k = true ↔ k ∈ es1.toList.map keyT)
    (hb1 : es1.size < scanBound) (hf2 : t2.fits es1.size = true) (hr : Ris t2.place.toList) (hl : w.params.followText "set-order" = true ∨ t2.led = true) {wasDummy : Bool} {R : Option Bool → Shared → Prop}
    (hR : ∀ h', Heap.SameBut a s.heap h' → SetX Ex w h' a S' es1.size → R (some true) { s with heap := h' }) :
    wpAny (model P w) A (do
        storeSet a es1 t2
        if (!wasDummy && t2.tooFull) = true then do
            g (relayAll t2 es1 (SetTable.grown es1.size)).2.2
            storeSet a (relayAll t2 es1 (SetTable.grown es1.size)).1 (relayAll t2 es1 (SetTable.grown es1.size)).2.1
            pure (some true)
          else pure (some true)) R E s := by
  refine wpAny_bind (wpAny_storeSet_of ho hd ?_ (fits_of_scanBound hb1))
  have ho1 := store_at (es' := es1) (t' := t2) ho hd
  have sb1 := Heap.SameBut.update s.heap a (Obj.putSet es1 t2)
  split
  · have pm := relayAll_perm t2 es1 (SetTable.grown es1.size)
    have hf3 := relayAll_fits t2 es1 (SetTable.grown es1.size)
    have hr3 := relayAll_ris t2 es1 (SetTable.grown es1.size)
    have hl3 := relayAll_led t2 es1 (SetTable.grown es1.size)
    generalize relayAll t2 es1 (SetTable.grown es1.size) = Z at pm hf3 hr3 hl3 ⊢
    obtain ⟨es2, t3, gave⟩ := Z
    dsimp only at pm hf3 hr3 hl3 ⊢
    have hsz : es2.size = es1.size := by rw [← Array.length_toList, pm.length_eq, Array.length_toList]
    have hb2 : es2.size < scanBound := by rw [hsz]; exact hb1
    refine wpAny_bind (hg _ _ _ ?_)
    refine wpAny_bind (wpAny_storeSet_of ho1 rfl ?_ (fits_of_scanBound hb2))
    have ho2 := store_at (es' := es2) (t' := t3) ho1 rfl
    refine wpAny_pure (hR _ (sb1.trans (Heap.SameBut.update _ a _)) ?_)
    exact ⟨_, es2, _, t3, ho2, hE _ _ (hE _ _ hex), rfl, fun e he => g1 e (pm.mem_iff.mp he), (pm.map keyT).nodup_iff.mpr nd1, fun k => (m1 k).trans (pm.map keyT).mem_iff.symm, hb2, hf3, hsz, hr3,
      hl.imp id fun z => by rw [hl3]; exact z⟩
  · exact wpAny_pure (hR _ sb1 ⟨_, es1, _, t2, ho1, hE _ _ hex, rfl, g1, nd1, m1, hb1, hf2, rfl, hr, hl⟩)
theorem setX_add_hashed (hE : ∀ (o : Obj) d, Ex o → Ex { o with data := d }) {k : Str} {tk : Tok} {Q : Bool → Shared → Prop} (R : SetX Ex w s.heap a S n) (room : n + 1 < scanBound)
    (hQ : ∀ h', Heap.SameBut a s.heap h' → SetX Ex w h' a (fun j => S j || decide (j = k)) (if S k = true then n else n + 1) → Q (!S k) { s with heap := h' }) :
    wpAny (model P w) A (setAddHashed a (.str k tk) ((PySem.strKind P w).hash k)) Q E s := by
  obtain ⟨o, es, ep, t, ho, hex, hd, g, nd, hm, hb, hf, hn, hr, hl⟩ := R
  have hkey : (PySem.strKind P w).is k (.str k tk) = true := strKind_is P w k tk
  have hsc : (Value.str k tk).scannable = true := rfl
  have hel : ElemsOf (PySem.strKind P w) es.toList := goodT_elems g
  unfold setAddHashed setAddHashedIn
  refine wpAny_holding (wpAny_bind (wpAny_setState_of ho hd hf ?_))
  dsimp only
  rw [byScan_of hsc hb hel]
  simp only [↓reduceIte]
  unfold setAddByScan
  refine wpAny_bind ?_
  refine wpAny_bind (wpAny_rule ?_)
  refine wpAny_bind (wpAny_setScan_of hkey ho hd hf hel ?_)
  cases hfi : List.findIdx? (fun e => (PySem.strKind P w).is k e.2) es.toList with
  | some j =>
    dsimp only
    obtain ⟨hj, pj, _⟩ := List.findIdx?_eq_some_iff_getElem.mp hfi
    have hSk : S k = true := (hm k).2 ((goodT_mem (P := P) (w := w) g k).2 ⟨es.toList[j], List.getElem_mem hj, pj⟩)
    refine wpAny_pure (wpAny_pure ?_)
    have q := hQ s.heap (Heap.SameBut.refl a s.heap) ⟨o, es, ep, t, ho, hex, hd, g, nd, fun i => by
      rw [Bool.or_eq_true, decide_eq_true_eq, ← hm i]
      exact ⟨fun z => z.elim id (fun e => e ▸ hSk), .inl⟩, hb, hf, by rw [if_pos hSk]; exact hn, hr, hl⟩
    rw [hSk] at q
    exact q
  | none =>
    dsimp only
    have hnk : k ∉ es.toList.map keyT := fun z => by
      obtain ⟨e, he, q⟩ := (goodT_mem (P := P) (w := w) g k).1 z
      have c := List.findIdx?_eq_none_iff.mp hfi e he
      rw [q] at c
      cases c
    have hSk : S k = false := by
      cases q : S k with
      | false => rfl
      | true => exact absurd ((hm k).1 q) hnk
    have hgw : ∀ (b : Bool) {s₁ : Shared} {Q' : Unit → Shared → Prop}, Q' () s₁ → wpAny (model P w) A (match b with | true => rule "set.scan.the-table-gave-way" | false => pure ()) Q' E s₁ :=
      fun b s₁ Q' q => by cases b <;> first | exact wpAny_pure q | exact wpAny_rule q
    have pm := layNew_perm t es ((PySem.strKind P w).hash k) (.str k tk)
    have hf1 := layNew_fits t es ((PySem.strKind P w).hash k) (.str k tk)
    have hr1 := layNew_ris t es ((PySem.strKind P w).hash k) (.str k tk) hr
    have hl1 := layNew_led t es ((PySem.strKind P w).hash k) (.str k tk)
    generalize layNew t es ((PySem.strKind P w).hash k) (.str k tk) = Z at pm hf1 hr1 hl1 ⊢
    obtain ⟨es1, t1, wasDummy, gave⟩ := Z
    dsimp only at pm hf1 hr1 hl1 ⊢
    rw [Array.toList_push] at pm
    have pc : es1.toList.Perm (((PySem.strKind P w).hash k, Value.str k tk) :: es.toList) := pm.trans (List.perm_append_singleton _ _)
    have pk : (es1.toList.map keyT).Perm (k :: es.toList.map keyT) := pc.map keyT
    have g1 : ∀ e ∈ es1.toList, GoodT w e := fun e he => by
      rcases List.mem_cons.mp (pc.mem_iff.mp he) with z | z
      · rw [z]; exact ⟨k, tk, rfl, rfl⟩
      · exact g e z
    have nd1 : (es1.toList.map keyT).Nodup := pk.nodup_iff.mpr (List.nodup_cons.mpr ⟨hnk, nd⟩)
    have m1 : ∀ i, (S i || decide (i = k)) = true ↔ i ∈ es1.toList.map keyT := fun i => by
      rw [Bool.or_eq_true, decide_eq_true_eq, hm i, pk.mem_iff, List.mem_cons]
      exact Or.comm
    have hsz : es1.size = n + 1 := by rw [← Array.length_toList, pc.length_eq, List.length_cons, Array.length_toList, hn]
    have hb1 : es1.size < scanBound := by rw [hsz]; exact room
    have hled : w.params.followText "set-order" = true ∨ t1.led = true := hl.imp id fun z => by rw [hl1]; exact z
    have fin : ∀ h', Heap.SameBut a s.heap h' → SetX Ex w h' a (fun j => S j || decide (j = k)) es1.size → Q true { s with heap := h' } := fun h' sb r => by
      have q := hQ h' sb
      rw [hSk] at q
      rw [hsz] at r
      exact q r
    refine wpAny_bind (hgw _ ?_)
    split
    · refine wpAny_bind ?_
      rw [hashByValue_scannable 8 hsc]
      refine wpAny_pure ?_
      refine setX_add_tail hE ?_ ho hex hd g1 nd1 m1 hb1 ?_ ?_ ?_ ?_
      · intro b s₁ Q' q; cases b <;> first | exact wpAny_pure q | exact wpAny_rule q
      · first | (split <;> first | exact hf1 | exact SetTable.fits_plain_off hf1) | exact hf1
      · first | (split <;> exact hr1) | exact hr1
      · first | (split <;> exact hled) | exact hled
      · intro h' sb r; dsimp only; exact wpAny_pure (fin h' sb r)
    · refine wpAny_bind (wpAny_pure ?_)
      simp only [↓reduceIte]
      refine setX_add_tail hE ?_ ho hex hd g1 nd1 m1 hb1 hf1 hr1 hled ?_
      · intro b s₁ Q' q; cases b <;> first | exact wpAny_pure q | exact wpAny_rule q
      · intro h' sb r; dsimp only; exact wpAny_pure (fin h' sb r)
end

/-- the first so many texts -/
def metS (xs : List Str) (i : Nat) (k : Str) : Bool := (xs.take i).any (· == k)
theorem metS_succ {xs : List Str} {i : Nat} {x : Str} (h : xs[i]? = some x) (k : Str) : metS xs (i + 1) k = (metS xs i k || decide (k = x)) := by
  unfold metS
  rw [List.take_add_one, h, List.any_append]
  congr 1
  show ((x == k) || false) = decide (k = x)
  rw [Bool.or_false]
  by_cases q : k = x
  · rw [q, beq_self_eq_true, decide_eq_true rfl]
  · rw [decide_eq_false q]
    exact beq_eq_false_iff_ne.mpr fun z => q z.symm
section
variable {prog : Program} {w : World} {A : Around} {R : Result → Shared → Prop} {I : Addr} {fp wr : List Addr} {G : Array GenState → Array GenState → Prop} {St : Nat → Shared → Prop} {xs : List Str} {n : Nat} {Pv : Nat → Value → Prop} {Ex : Obj → Prop}
theorem loopL (hE : ∀ (o : Obj) d, Ex o → Ex { o with data := d }) (W : WalksS prog w A.in1 I fp wr G n Pv St) (hn : xs.length = n) (hP : ∀ i v, Pv i v → ∃ x t, xs[i]? = some x ∧ v = .str x t) (S : Addr) (hSf : S ∉ fp) (hb : n + 1 < scanBound) :
    ∀ (k i m : Nat) (s : Shared), n - i = k → i ≤ n → St i s → m ≤ i → SetX Ex w s.heap S (metS xs i) m →
      (∀ s' m', Moved (S :: wr) G s s' → m' ≤ n → SetX Ex w s'.heap S (metS xs n) m' → R (.ok (.ret .none)) s') →
      codeAny (model prog w) A (.builtin "set.update.loop" ⟨[.ref S, .ref I], []⟩) R s := by
  have hSw : S ∉ wr := fun h => hSf (W.sub _ h)
  have hsub : ∀ b ∈ wr, b ∈ S :: wr := fun b hb => List.mem_cons_of_mem _ hb
  intro k
  induction k with
  | zero =>
    intro i m s hk hi hst hm0 hS hR
    have hin : i = n := by omega
    refine codeAny_builtin F.entry_set_update_loop ?_
    rw [Around.under_plainId F.plain_set_update_loop _]
    show wpAny _ A.in1 (pyNext (.ref I) >>= _) _ _ s
    refine wpAny_bind (W.done s _ _ (hin ▸ hst) fun s' hm => ?_)
    show wpAny _ A.in1 (ret Value.none) _ _ s'
    refine wpAny_pure (hR s' m (hm.mono hsub) (by omega) ?_)
    rw [← hin]
    exact hS.at fun o ho => hm.heap S _ hSw ho
  | succ k ih =>
    intro i m s hk hi hst hm0 hS hR
    have hlt : i < n := by omega
    refine codeAny_builtin F.entry_set_update_loop ?_
    rw [Around.under_plainId F.plain_set_update_loop _]
    show wpAny _ A.in1 (pyNext (.ref I) >>= _) _ _ s
    refine wpAny_bind (W.item i s _ _ hlt hst fun v s' hv hst' hm => ?_)
    obtain ⟨x, t, hc, rfl⟩ := hP i v hv
    have hS' : SetX Ex w s'.heap S (metS xs i) m := hS.at fun o ho => hm.heap S _ hSw ho
    show wpAny _ A.in1 (holding [Value.str x t] (setAdd S (.str x t)) >>= _) _ _ s'
    refine wpAny_bind (wpAny_holding ?_)
    unfold setAdd
    refine wpAny_holding ?_
    refine wpAny_bind ((PySem.strKind prog w).pyHash (k := x) (strKind_is _ _ _ _) ?_)
    refine setX_add_hashed hE (s := { s' with toks := s'.toks + 1 }) hS' (by omega) fun h' hsb hS2 => ?_
    have hSi : SetX Ex w h' S (metS xs (i + 1)) (if metS xs i x = true then m else m + 1) := by
      have e : (fun j => metS xs i j || decide (j = x)) = metS xs (i + 1) := funext fun j => (metS_succ hc j).symm
      rw [← e]
      exact hS2
    refine wpAny_pure ⟨plainId_quiet F.plain_set_update_loop _, ih (i + 1) _ _ (by omega) hlt (W.frame _ s' _ _ hst' (Nat.le_succ _) fun b hb o e => ?_) (by split <;> omega) hSi fun s'' m' hm'' hz hS'' => ?_⟩
    · rw [hsb.2 b (fun h : b = S => hSf (by rw [← h]; exact hb))]; exact e
    · refine hR s'' m' (Moved.trans W.gtrans ((hm.mono hsub).then_heap (Nat.le_succ _) fun b o hb e => ?_) hm'') hz hS''
      rw [hsb.2 b (fun h : b = S => hb (by rw [h]; exact List.mem_cons_self))]; exact e
end
theorem mro_frozen : mroOf (.type "frozenset") = pure [.type "frozenset", .type "object"] := by rw [mroOf_type]; kernel_rfl
theorem lookup_frozen_new : typeLookup (.type "frozenset") "__new__" = pure (some (.builtin "frozenset.__new__")) := by rw [typeLookup_type, builtinLookup_eq_fast]; kernel_rfl
theorem slot_frozen_init : Slot "frozenset" "__init__" "object.__init__" :=
  .of (owner := "object") (n := "__init__") (by rw [typeLookup_type, builtinLookup_eq_fast]; kernel_rfl) (by decide +kernel) (by decide +kernel) (by decide +kernel)
    (by first | exact .inl (by decide +kernel) | exact .inr (by decide +kernel)) (by rw [isSubtype_type]; kernel_rfl)
theorem called_frozen : TypeCalled "frozenset" "frozenset.__new__" "object.__init__" :=
  ⟨by decide +kernel, by decide +kernel, ⟨_, _, mro_frozen⟩, madeBy_type mro_frozen lookup_frozen_new (by decide +kernel), by decide +kernel, by rw [isSubtype_type]; kernel_rfl, slot_frozen_init⟩
theorem typeCall_frozen_1 (a : Value) : checkTypeCall "frozenset" ⟨[a], []⟩ = pure () := by kernel_rfl
theorem newCall_frozen_1 (a : Value) : checkBuiltinCall "frozenset.__new__" ⟨[.type "frozenset", a], []⟩ = pure () := by kernel_rfl
theorem entry_frozen_new : entryFor table "frozenset.__new__" = some Builtin.«frozenset.__new__» := entryFor_of_tree (by kernel_rfl)
theorem sub_frozen_self : isSubtype (.type "frozenset") (.type "frozenset") = pure true := by rw [isSubtype_type]; kernel_rfl
theorem sub_frozen_set : isSubtype (.type "frozenset") (.type "set") = pure false := by rw [isSubtype_type]; kernel_rfl
theorem sub_lst_set : isSubtype (.type "list") (.type "set") = pure false := by rw [isSubtype_type]; kernel_rfl
theorem sub_lst_frozen : isSubtype (.type "list") (.type "frozenset") = pure false := by rw [isSubtype_type]; kernel_rfl
theorem init_frozen_lookup : typeLookup (.type "frozenset") "__init__" = pure (some (.builtin "object.__init__")) := slot_frozen_init.lookup
theorem exFz_data (o : Obj) (d : Data) (h : ExFz o) : ExFz { o with data := d } := h
section
variable {prog : Program} {w : World} {A : Around} {E : Value → Shared → Prop} {s : Shared}
theorem setF_fresh {h : Heap} (w : World) : SetX ExFz w (h.push { cls := .type "frozenset", dict := none, data := .set #[] 0 (.fresh 0 0 (!w.params.followText "set-order")) }) h.objs.size (fun _ => false) 0 :=
  ⟨_, #[], 0, _, Heap.get?_push_size _ rfl, ⟨rfl, rfl, rfl⟩, rfl, (fun e he => by simp at he), (by simp), (fun k => by simp), (by decide), (by rfl), rfl, List.Pairwise.nil, by
    show _ ∨ (!w.params.followText "set-order") = true
    cases w.params.followText "set-order"
    · exact .inr rfl
    · exact .inl rfl⟩
theorem frozen_new_list (l : Addr) (items : Array Value) (xs : List Str) (hb : xs.length + 1 < scanBound) :
    MeetsIn prog w (Builtin.«frozenset.__new__» ⟨[.type "frozenset", .ref l], []⟩) (fun A R s => A.handled = none ∧ s.heap.IsList l items ∧ StrsAre items.toList xs ∧
      ∀ (h' : Heap) (tk m : Nat), m ≤ xs.length → SetX ExFz w h' s.heap.objs.size (metS xs xs.length) m → (∀ b o, b < s.heap.objs.size → s.heap.get? b = some o → h'.get? b = some o) → R (.ok (.ret (.ref s.heap.objs.size))) { s with heap := h', toks := tk }) := by
  rintro A R s ⟨hh, hl, hi, hR⟩
  obtain ⟨⟨ocls, odict, odata, oslots⟩, hol, hcl, nl, hdl⟩ := id hl
  simp only at hcl hdl
  subst hcl hdl
  have hsub := sub_frozen_self
  have hinit := init_frozen_lookup
  have h1 := sub_lst_set
  have h2 := sub_lst_frozen
  have hT : s.TypeIs (.ref l) "list" := ⟨_, hol, rfl⟩
  unfold Builtin.«frozenset.__new__» Builtin.Frozenset.newClass
  generalize hPI : Builtin.Frozenset.newFrom = PI
  obtain ⟨hp, g, d, tk, os⟩ := s
  dsimp only at hR ⊢
  wp_walk using wpAny_typeOf hT
  subst hPI
  unfold Builtin.Frozenset.newFrom newSet
  wp_walk
  refine wpAny_askSetting (wpAny_pure ?_)
  dsimp only
  simp only [newObj]
  refine wpAny_bind (wpAny_alloc (wpAny_pure ?_))
  have hl1 : (hp.push { cls := .type "frozenset", dict := none, data := .set #[] 0 (.fresh 0 0 (!w.params.followText "set-order")) }).IsList l items := hl.push _
  have hT1 : Shared.TypeIs ⟨hp.push { cls := .type "frozenset", dict := none, data := .set #[] 0 (.fresh 0 0 (!w.params.followText "set-order")) }, g, d, tk, os⟩ (.ref l) "list" := ⟨_, Heap.get?_push_of_some _ hol, rfl⟩
  have hne : (Value.type "list" == Value.type "dict") = false := by decide
  unfold Builtin.Frozenset.updateFrom
  generalize hPI : pyIter = PI
  wp_walk using wpAny_typeOf hT1
  subst hPI
  refine wpAny_pyIter_list (s := ⟨hp.push { cls := .type "frozenset", dict := none, data := .set #[] 0 (.fresh 0 0 (!w.params.followText "set-order")) }, g, d, tk, os⟩) hl1 ?_
  refine wpAny_bind (wpAny_runValue ?_)
  have hlS : l < hp.objs.size := Heap.lt_size hol
  have hh3 : A.in1.in1.handled = none := by simp [hh]
  have hneI : l ≠ (hp.push { cls := .type "frozenset", dict := none, data := .set #[] 0 (.fresh 0 0 (!w.params.followText "set-order")) }).objs.size := by
    rw [Heap.size_push]; exact Nat.ne_of_lt (Nat.lt_succ_of_lt hlS)
  have hSf : hp.objs.size ∉ [(hp.push { cls := .type "frozenset", dict := none, data := .set #[] 0 (.fresh 0 0 (!w.params.followText "set-order")) }).objs.size, l] := by
    rw [Heap.size_push]; simp only [List.mem_cons, List.not_mem_nil, or_false, not_or]
    exact ⟨Nat.ne_of_lt (Nat.lt_succ_self _), Nat.ne_of_gt hlS⟩
  have hsz : xs.length = items.size := by rw [← StrsAre.len_eq hi, Array.length_toList]
  refine loopL exFz_data ((Walks.list hh3 _ l hneI items).toS) hsz (fun i v hv => ?hP) hp.objs.size hSf (by rw [← hsz]; exact hb) (items.size - 0) 0 0 _ (by omega) (Nat.zero_le _) ?hSt (Nat.le_refl _) ?hS0 ?hR
  case hSt => exact ⟨⟨_, Heap.get?_push_size _ rfl, rfl, rfl⟩, hl1.push _⟩
  case hP =>
    have hv' : items[i]? = some v := hv
    obtain ⟨t, e⟩ := SS.strs_at hi i v (by rw [Array.getElem?_toList]; exact hv')
    have hlt : i < xs.length := by rw [hsz]; exact (Array.getElem?_eq_some_iff.mp hv').1
    refine ⟨_, t, List.getElem?_eq_getElem hlt, ?_⟩
    rw [e, List.getD_eq_getElem?_getD, List.getElem?_eq_getElem hlt]
    rfl
  case hS0 =>
    exact (setF_fresh w).at fun o ho => Heap.get?_push_of_some _ ho
  case hR =>
    intro s' m' hm hz hS'
    obtain ⟨h', g', d', tk', os'⟩ := s'
    have eg : g' = g := hm.gens
    have ed : d' = d := hm.drawn
    have eo : os' = os := hm.os
    subst eg; subst ed; subst eo
    rw [← hsz] at hz hS'
    refine wpAny_pure (wpAny_pure ?_)
    refine wpAny_pure (hR h' tk' m' hz hS' fun b o hb e => ?_)
    have hb1 : b ≠ hp.objs.size := Nat.ne_of_lt hb
    have hb2 : b ≠ (hp.push { cls := .type "frozenset", dict := none, data := .set #[] 0 (.fresh 0 0 (!w.params.followText "set-order")) }).objs.size := by
      rw [Heap.size_push]; exact Nat.ne_of_lt (Nat.lt_succ_of_lt hb)
    exact hm.heap b o (by simp only [List.mem_cons, List.not_mem_nil, or_false, not_or]; exact ⟨hb1, hb2⟩) (Heap.get?_push_of_some _ (Heap.get?_push_of_some _ e))
theorem call_frozen_list {l : Addr} {items : Array Value} {xs : List Str} {Q : Value → Shared → Prop} (hh : A.handled = none) (hl : s.heap.IsList l items) (hi : StrsAre items.toList xs) (hb : xs.length + 1 < scanBound)
    (h : ∀ (h' : Heap) (tk m : Nat), m ≤ xs.length → SetX ExFz w h' s.heap.objs.size (metS xs xs.length) m → (∀ b o, b < s.heap.objs.size → s.heap.get? b = some o → h'.get? b = some o) → Q (.ref s.heap.objs.size) { s with heap := h', toks := tk }) :
    wpAny (model prog w) A (call (.type "frozenset") [.ref l]) Q E s :=
  callType_newIn called_frozen (by decide) (typeCall_frozen_1 _) (newCall_frozen_1 _) (fun obj => F.args_object_init_2 obj _) entry_frozen_new
    (frozen_new_list l items xs hb) ⟨by simp [hh], hl, hi, fun h' tk m hm hS hk => ⟨by
      obtain ⟨o, _, _, _, ho, hex, _⟩ := hS
      exact ⟨o, ho, hex.1⟩, h h' tk m hm hS hk⟩⟩
end
/-- the frozenset of the texts xs at a -/
def FrzO (w : World) (a : Addr) (xs : List Str) : HO := .ext fun h => ∃ n, n ≤ xs.length ∧ SetX ExFz w h a (metS xs xs.length) n
section
variable {X : Cx}
theorem frzO_new {w : World} {P : Program} {H : Hp} {h : Heap} {a : Addr} {xs : List Str} {n : Nat} (hn : n ≤ xs.length) (R : SetX ExFz w h a (metS xs xs.length) n) : ObjOk P w H h a (FrzO w a xs) := by
  have ⟨o, _, _, _, ho, _⟩ := R
  exact ⟨⟨n, hn, R⟩, ⟨o, ho⟩, fun h1 h2 ⟨m, hm, z⟩ k => ⟨m, hm, SetX.at z k⟩⟩
theorem frzO_get {pins : List (Addr × Obj)} {σ : St} {H : Hp} {s : Shared} {a : Addr} {xs : List Str} (I : Inv X pins σ H s) (ha : H a = some (FrzO X.w a xs)) : ∃ n, n ≤ xs.length ∧ SetX ExFz X.w s.heap a (metS xs xs.length) n := (I.hok a _ ha).1
/-- frozenset(list of texts) -/
def rFrz (K : PySem.W.Frag) (w : World) : List V → Hp → VK → Prop := fun vs H Q => ∃ (p : Addr) (xs : List Str), vs = [.ref p] ∧ SqL K H p (xs.map V.str) ∧ xs.length + 1 < scanBound ∧ ∀ q, H q = none → Q (.ref q) (upd H q (FrzO w q xs))
theorem call_frz {K : PySem.W.Frag} (hc : X.calm = true) (hK : X.K = K := by rfl) : CallR X (.type "frozenset") (rFrz K X.w) := by
  subst hK
  intro pins s σ H vs us Q I r h
  obtain ⟨p, xs, rfl, hS, hz, q⟩ := h
  obtain ⟨u, rfl, ru⟩ := vals1 r
  cases (show u = Value.ref p from ru)
  obtain ⟨its, rv, hl, _⟩ := I.list hS
  refine call_frozen_list (items := its.toArray) (I.ok.hd hc) hl.isList (by simpa using rv.strs) hz fun h' tk m hm hS' hk => ?_
  exact ⟨.ref s.heap.objs.size, _, I.laid (t' := tk) (a := s.heap.objs.size) (o := FrzO X.w s.heap.objs.size xs) (fun b o z => hk b o (Heap.lt_size z) z) (Nat.le_refl _) (frzO_new hm hS'), rfl, q _ (I.hok.fresh (Nat.le_refl _))⟩
end
end L2

namespace L2
open PySem PySem.Spec PyProof.Rows
/-! ### == of two frozensets of texts -/
theorem slot_frozen_eq : Slot "frozenset" (cmpInfo .Eq).2.1 "frozenset.__eq__" :=
  .of (owner := "frozenset") (n := "__eq__") (by rw [typeLookup_type, builtinLookup_eq_fast]; kernel_rfl) (by decide +kernel) (by decide +kernel) (by decide +kernel)
    (by first | exact .inl (by decide +kernel) | exact .inr (by decide +kernel)) (by rw [isSubtype_type]; kernel_rfl)
theorem entry_frozen_eq : entryFor table "frozenset.__eq__" = some Builtin.«frozenset.__eq__» := entryFor_of_tree (by kernel_rfl)
theorem args_frozen_eq (a b : Value) : argsOk "frozenset.__eq__" ⟨[a, b], []⟩ := by
  unfold argsOk; rw [signature?_of (id := "frozenset.__eq__") (n := ['_', '_', 'q', 'e', '_', '_']) (o := ['t', 'e', 's', 'n', 'e', 'z', 'o', 'r', 'f']) (by kernel_rfl) PySem.W.FB.owner_frozenset]; kernel_rfl
section
variable {prog : Program} {w : World} {A : Around} {E : Value → Shared → Prop} {s : Shared}
theorem setOfX {a : Addr} {o : Obj} {es : Array (Int × Value)} {ep : Nat} {t : SetTable} {T : Str → Bool} {k : Str} {tk : Tok} {Q : Option Nat → Shared → Prop} (ho : s.heap.get? a = some o) (hd : o.data = .set es ep t) (g : ∀ e ∈ es.toList, GoodT w e)
    (hm : ∀ k, T k = true ↔ k ∈ es.toList.map keyT) (hb : es.size < scanBound) (hf : t.fits es.size = true) (h : ∀ r : Option Nat, r.isSome = T k → Q r s) : wpAny (model prog w) A (setFind a (.str k tk) (hashStr w k)) Q E s := by
  have hkey : (PySem.strKind prog w).is k (.str k tk) = true := strKind_is prog w k tk
  have hsc : (Value.str k tk).scannable = true := rfl
  have hel : ElemsOf (PySem.strKind prog w) es.toList := goodT_elems g
  unfold setFind setFindIn
  refine wpAny_bind (wpAny_setState_of ho hd hf ?_)
  dsimp only
  rw [byScan_of hsc hb hel]
  simp only [↓reduceIte]
  refine wpAny_bind (wpAny_rule ?_)
  refine wpAny_bind (wpAny_setScan_of hkey ho hd hf hel ?_)
  cases hfi : List.findIdx? (fun e => (PySem.strKind prog w).is k e.2) es.toList with
  | some j =>
    obtain ⟨hj, pj, _⟩ := List.findIdx?_eq_some_iff_getElem.mp hfi
    have hT : T k = true := (hm k).2 ((goodT_mem (P := prog) (w := w) g k).2 ⟨es.toList[j], List.getElem_mem hj, pj⟩)
    exact wpAny_pure (h _ (by rw [hT]; rfl))
  | none =>
    have hnk : k ∉ es.toList.map keyT := fun z => by
      obtain ⟨e, he, q⟩ := (goodT_mem (P := prog) (w := w) g k).1 z
      have c := List.findIdx?_eq_none_iff.mp hfi e he
      rw [q] at c
      cases c
    have hT : T k = false := by
      cases q : T k with
      | false => rfl
      | true => exact absurd ((hm k).1 q) hnk
    exact wpAny_pure (h _ (by rw [hT]; rfl))
theorem walk_unseen {a b : Addr} {o o2 : Obj} {es es2 : Array (Int × Value)} {ep ep2 : Nat} {t t2 : SetTable} {Q : List (Int × Value) → Shared → Prop} (ho : s.heap.get? a = some o) (hd : o.data = .set es ep t) (g : ∀ e ∈ es.toList, GoodT w e) (hf : t.fits es.size = true)
    (ho2 : s.heap.get? b = some o2) (hd2 : o2.data = .set es2 ep2 t2) (g2 : ∀ e ∈ es2.toList, GoodT w e) (hf2 : t2.fits es2.size = true) (h : Q es.toList s) : wpAny (model prog w) A (Builtin.Frozenset.walkUnseen a b) Q E s := by
  unfold Builtin.Frozenset.walkUnseen
  refine wpAny_bind (wpAny_setEntries_of ho hd hf ?_)
  refine wpAny_bind (wpAny_setEntries_of ho2 hd2 hf2 ?_)
  refine wpAny_bind (wpAny_forIn_list _ (fun rest b s' => b.1 = none ∧ s' = s ∧ ∀ e ∈ rest, GoodT w e) _ ?turn ?fin _ _ ⟨rfl, rfl, fun e he => (List.mem_append.mp he).elim (g e) (g2 e)⟩)
  case turn =>
    rintro ⟨hh, v⟩ rest ⟨b1, b2⟩ s' ⟨hb, rfl, hg⟩
    obtain ⟨k, tk, e1, e2⟩ := hg _ List.mem_cons_self
    simp only at e1 hb
    subst e1 hb
    refine wpAny_bind (m := Builtin.Frozenset.quietEq (.str k tk)) (wpAny_pure ?_)
    exact wpAny_pure ⟨rfl, rfl, fun e he => hg e (List.mem_cons_of_mem _ he)⟩
  case fin =>
    rintro ⟨b1, b2⟩ s' ⟨hb, rfl, _⟩
    simp only at hb
    subst hb
    exact wpAny_pure h
theorem subset_run {id : String} {a b : Addr} {o o2 : Obj} {es es2 : Array (Int × Value)} {ep ep2 : Nat} {t t2 : SetTable} {Q : Bool → Shared → Prop} (ho : s.heap.get? a = some o) (hd : o.data = .set es ep t) (g : ∀ e ∈ es.toList, GoodT w e) (hf : t.fits es.size = true)
    (ho2 : s.heap.get? b = some o2) (hd2 : o2.data = .set es2 ep2 t2) (g2 : ∀ e ∈ es2.toList, GoodT w e) (hf2 : t2.fits es2.size = true) (hb2 : es2.size < scanBound) (hz : es.size ≤ es2.size)
    (h : ∀ r : Bool, (r = true ↔ ∀ k ∈ es.toList.map keyT, k ∈ es2.toList.map keyT) → Q r s) : wpAny (model prog w) A (Builtin.Frozenset.subsetOf id a b) Q E s := by
  unfold Builtin.Frozenset.subsetOf Builtin.Frozenset.sizeOf
  refine wpAny_bind (wpAny_bind (wpAny_setEntries_of ho hd hf (wpAny_pure ?_)))
  refine wpAny_bind (wpAny_bind (wpAny_setEntries_of ho2 hd2 hf2 (wpAny_pure ?_)))
  rw [if_neg (by omega)]
  refine wpAny_bind (wpAny_setEpoch_of ho hd hf ?_)
  refine wpAny_bind (walk_unseen ho hd g hf ho2 hd2 g2 hf2 ?_)
  have hT : ∀ k, (decide (k ∈ es2.toList.map keyT)) = true ↔ k ∈ es2.toList.map keyT := fun k => decide_eq_true_iff
  refine wpAny_bind (wpAny_forIn_list _ (fun rest b s' => b.1 = none ∧ s' = s ∧ ∃ past, es.toList = past ++ rest ∧ ∀ e ∈ past, keyT e ∈ es2.toList.map keyT) _ ?turn ?fin _ _ ⟨rfl, rfl, [], rfl, fun e he => by cases he⟩)
  case turn =>
    rintro ⟨hh, v⟩ rest ⟨b1, b2⟩ s' ⟨hb, rfl, past, ep, hp⟩
    have hin : (hh, v) ∈ es.toList := by rw [ep]; simp
    obtain ⟨k, tk, e1, e2⟩ := g _ hin
    simp only at e1 e2 hb
    subst e1 e2 hb
    refine wpAny_bind (wpAny_holding (setOfX ho2 hd2 g2 hT hb2 hf2 fun r hr => ?_))
    cases r with
    | none =>
      have hn : k ∉ es2.toList.map keyT := by
        have : decide (k ∈ es2.toList.map keyT) = false := hr.symm
        exact of_decide_eq_false this
      refine wpAny_pure (wpAny_pure (h false (Iff.intro (fun z => Bool.noConfusion z) fun z => absurd (z k (List.mem_map.mpr ⟨_, hin, rfl⟩)) hn)))
    | some j =>
      have hy : k ∈ es2.toList.map keyT := of_decide_eq_true (show decide (k ∈ es2.toList.map keyT) = true from hr.symm)
      refine wpAny_bind ?_
      unfold Builtin.Frozenset.unchanged
      refine wpAny_bind (wpAny_setEpoch_of ho hd hf ?_)
      rw [if_neg (by simp)]
      refine wpAny_pure (wpAny_pure ⟨rfl, rfl, past ++ [(hashStr w k, .str k tk)], by rw [ep]; simp, fun e he => ?_⟩)
      rcases List.mem_append.mp he with z | z
      · exact hp e z
      · rw [List.mem_singleton.mp z]
        exact hy
  case fin =>
    rintro ⟨b1, b2⟩ s' ⟨hb, rfl, past, ep, hp⟩
    simp only at hb
    subst hb
    refine wpAny_pure (h true ⟨fun _ k hk => ?_, fun _ => rfl⟩)
    obtain ⟨e, he, rfl⟩ := List.mem_map.mp hk
    rw [ep, List.append_nil] at he
    exact hp e he
/-- two lists of one length without doubles: what lies within is the same -/
theorem nodup_le : ∀ {l m : List Str}, l.Nodup → (∀ k ∈ l, k ∈ m) → l.length ≤ m.length
  | [], _, _, _ => Nat.zero_le _
  | k :: l, m, hl, h => by
    obtain ⟨h1, h2⟩ := List.nodup_cons.mp hl
    have hk : k ∈ m := h k List.mem_cons_self
    have := nodup_le (m := m.erase k) h2 fun x hx => (List.mem_erase_of_ne (fun e => h1 (by rw [← e]; exact hx))).mpr (h x (List.mem_cons_of_mem _ hx))
    rw [List.length_erase_of_mem hk] at this
    have pos : 0 < m.length := List.length_pos_of_mem hk
    rw [List.length_cons]
    omega
theorem keys_same {l m : List Str} (hl : l.Nodup) (hm : m.Nodup) (hz : l.length = m.length) (h : ∀ k ∈ l, k ∈ m) : ∀ k, k ∈ l ↔ k ∈ m := fun k => by
  refine ⟨h k, fun hk => Classical.byContradiction fun hn => ?_⟩
  have := nodup_le (l := k :: l) (m := m) (List.nodup_cons.mpr ⟨hn, hl⟩) fun x hx => by
    rcases List.mem_cons.mp hx with rfl | hx
    · exact hk
    · exact h x hx
  rw [List.length_cons] at this
  omega
theorem hashOf_perm {l m : List Int} (h : l.Perm m) : Builtin.Frozenset.hashOf l = Builtin.Frozenset.hashOf m := by
  unfold Builtin.Frozenset.hashOf
  have e : ∀ f : Int → Nat, l.foldl (fun acc x => acc ^^^ f x) 0 = m.foldl (fun acc x => acc ^^^ f x) 0 := fun f =>
    List.Perm.foldl_eq' h (fun x _ y _ z => by rw [Nat.xor_assoc, Nat.xor_comm (f x), ← Nat.xor_assoc]) 0
  simp only [e, h.length_eq]
theorem hashes_keys {l : List (Int × Value)} (g : ∀ e ∈ l, GoodT w e) : l.map (fun x => x.1) = (l.map keyT).map (hashStr w) := by
  rw [List.map_map]
  refine List.map_congr_left fun e he => ?_
  obtain ⟨k, tk, h1, h2⟩ := g e he
  show e.1 = hashStr w (keyT e)
  rw [h2, keyT, h1]
theorem quiet_loop {M : Model} {f : Int × Value → PUnit → Sem (ForInStep PUnit)} {es : Array (Int × Value)} {Q : PUnit → Shared → Prop} (g : ∀ e ∈ es.toList, GoodT w e) (hf : ∀ hh k tk, wpAny M A (f (hh, .str k tk) ⟨⟩) (fun r s' => r = .yield ⟨⟩ ∧ s' = s) E s) (h : Q ⟨⟩ s) : wpAny M A (forIn es PUnit.unit f) Q E s := by
  refine PySem.wpAny_forIn_array' _ (fun rest b s' => s' = s ∧ ∀ e ∈ rest, GoodT w e) _ ?turn ?fin _ _ ⟨rfl, g⟩
  case turn =>
    rintro ⟨hh, v⟩ rest ⟨⟩ s' ⟨rfl, hg⟩
    obtain ⟨k, tk, e1, e2⟩ := hg _ List.mem_cons_self
    simp only at e1
    subst e1
    refine wpAny_mono (hf hh k tk) (fun r s2 z => ?_) fun _ _ e => e
    obtain ⟨rfl, rfl⟩ := z
    exact ⟨rfl, fun e he => hg e (List.mem_cons_of_mem _ he)⟩
  case fin =>
    rintro ⟨⟩ s' ⟨rfl, _⟩
    exact h
theorem frozen_eq_run {a b : Addr} {S T : Str → Bool} {n m : Nat} {Q : Value → Shared → Prop} (RS : SetX ExFz w s.heap a S n) (RT : SetX ExFz w s.heap b T m) (h : ∀ r : Bool, (r = true ↔ ∀ k, S k = true ↔ T k = true) → Q (.bool r) s) :
    wpAny (model prog w) A (call (.builtin "frozenset.__eq__") [.ref a, .ref b]) Q E s := by
  obtain ⟨o, es, ep, t, ho, hex, hd, g, nd, hm, hb, hf, hn, _, _⟩ := RS
  obtain ⟨o2, es2, ep2, t2, ho2, hex2, hd2, g2, nd2, hm2, hb2, hf2, hn2, _, _⟩ := RT
  have hT1 : s.TypeIs (.ref a) "frozenset" := ⟨o, ho, hex.1⟩
  have hT2 : s.TypeIs (.ref b) "frozenset" := ⟨o2, ho2, hex2.1⟩
  refine wpAny_call_entry slot_frozen_eq hT1 entry_frozen_eq ?_ (args_frozen_eq _ _)
  unfold Builtin.«frozenset.__eq__»
  have h1 := sub_frozen_self
  have h2 := sub_frozen_set
  have fin : ∀ r : Bool, (r = true ↔ ∀ k, k ∈ es.toList.map keyT ↔ k ∈ es2.toList.map keyT) → Q (.bool r) s := fun r hr => h r (hr.trans ⟨fun z k => ((hm k).trans (z k)).trans (hm2 k).symm, fun z k => ((hm k).symm.trans (z k)).trans (hm2 k)⟩)
  clear h hm hm2
  wp_walk using wpAny_setEntries_of ho hd hf, wpAny_setEntries_of ho2 hd2 hf2, wpAny_typeOf hT1, wpAny_typeOf hT2
  refine wpAny_mono (Q := fun r s' => s' = s ∧ (r = true ↔ ∀ k, k ∈ es.toList.map keyT ↔ k ∈ es2.toList.map keyT)) ?_ (fun r s' z => ?_) (fun _ _ e => e)
  case refine_2 =>
    obtain ⟨rfl, z⟩ := z
    exact wpAny_pure ⟨_, rfl, fin r z⟩
  have perm_of : (∀ k, k ∈ es.toList.map keyT ↔ k ∈ es2.toList.map keyT) → (es.toList.map keyT).Perm (es2.toList.map keyT) := fun z => (List.perm_ext_iff_of_nodup nd nd2).mpr z
  by_cases hz : es.size = es2.size
  · rw [if_neg (by simp [hz])]
    refine wpAny_bind ?_
    unfold andM
    refine wpAny_bind (wpAny_isInstance hT1 sub_frozen_self ?_)
    show wpAny _ _ (isInstance (.ref b) (.type "frozenset")) _ _ s
    refine wpAny_isInstance hT2 sub_frozen_self ?_
    rw [if_pos rfl]
    refine wpAny_bind (wpAny_setEntries_of ho hd hf ?_)
    refine wpAny_bind (wpAny_setEntries_of ho2 hd2 hf2 ?_)
    split
    · rename_i hne
      refine wpAny_bind (quiet_loop g (fun hh k tk => ?_) ?_)
      · refine wpAny_bind (m := Builtin.Frozenset.quietEq (.str k tk)) (wpAny_pure ?_)
        exact wpAny_pure ⟨rfl, rfl⟩
      refine wpAny_bind (quiet_loop g2 (fun hh k tk => ?_) ?_)
      · refine wpAny_bind (m := Builtin.Frozenset.quietEq (.str k tk)) (wpAny_pure ?_)
        exact wpAny_pure ⟨rfl, rfl⟩
      refine wpAny_bind (wpAny_rule (wpAny_pure ⟨rfl, Iff.intro (fun z => Bool.noConfusion z) fun z => ?_⟩))
      have hp := (perm_of z).map (hashStr w)
      rw [← hashes_keys g, ← hashes_keys g2] at hp
      rw [hashOf_perm hp] at hne
      simp at hne
    · exact subset_run ho hd g hf ho2 hd2 g2 hf2 hb2 (Nat.le_of_eq hz) fun r hr => ⟨rfl, hr.trans ⟨fun z => keys_same nd nd2 (by rw [List.length_map, List.length_map, Array.length_toList, Array.length_toList]; exact hz) z, fun z k hk => (z k).mp hk⟩⟩
  · rw [if_pos (by simp [hz])]
    refine wpAny_pure ⟨rfl, Iff.intro (fun z => Bool.noConfusion z) fun z => absurd ?_ hz⟩
    have := (perm_of z).length_eq
    rw [List.length_map, List.length_map, Array.length_toList, Array.length_toList] at this
    exact this
end
section
variable {X : Cx}
/-- == of two frozensets of texts -/
def rEqFz (w : World) : V → V → Hp → VK → Prop := fun x y H Q => ∃ (a b : Addr) (xs ys : List Str), x = .ref a ∧ y = .ref b ∧ H a = some (FrzO w a xs) ∧ H b = some (FrzO w b ys) ∧ ∀ r : Bool, (r = true ↔ ∀ k, k ∈ xs ↔ k ∈ ys) → Q (.bl r) H
theorem metS_all {xs : List Str} {k : Str} : metS xs xs.length k = true ↔ k ∈ xs := by
  unfold metS
  rw [List.take_length, List.any_eq_true]
  exact ⟨fun ⟨x, hx, e⟩ => (beq_iff_eq.mp e) ▸ hx, fun h => ⟨k, h, beq_self_eq_true k⟩⟩
theorem op_eqFz (hu : X.A.units < cLine) : OpR X (compareOp .Eq) (rEqFz X.w) := by
  intro pins s σ H x y v u Q I rx ry h
  obtain ⟨a, b, xs, ys, rfl, rfl, ha, hb, q⟩ := h
  cases rx
  cases ry
  obtain ⟨n, _, RS⟩ := frzO_get I ha
  obtain ⟨m, _, RT⟩ := frzO_get I hb
  have hT1 : s.TypeIs (.ref a) "frozenset" := by
    obtain ⟨o, _, _, _, ho, hex, _⟩ := RS
    exact ⟨o, ho, hex.1⟩
  have hT2 : s.TypeIs (.ref b) "frozenset" := by
    obtain ⟨o, _, _, _, ho, hex, _⟩ := RT
    exact ⟨o, ho, hex.1⟩
  show wpAny (model X.prog X.w) X.A (richCompare .Eq (.ref a) (.ref b)) (EP X pins σ Q) X.xe s
  refine wpAny_richCompare_same_room (op := .Eq) hT1 hT2 slot_frozen_eq (frozen_eq_run RS RT fun r hr => ⟨(fun z => nomatch z), ?_⟩) hu
  refine ⟨.bl r, H, I, rfl, q r (hr.trans ⟨fun z k => (metS_all.symm.trans (z k)).trans metS_all, fun z k => (metS_all.trans (z k)).trans metS_all.symm⟩)⟩
end
end L2

namespace L2
open PySem PySem.Spec PyProof.Rows
/-! ### exceptions that a suite holds, and list(text) -/
section
variable {X : Cx}
/-- the exception at a, of the class cls, its own dict d: an instance of D -/
structure ExAt (K : PySem.W.Frag) (H : Hp) (cls : Value) (d : Option Addr) (D : Addr) : Prop where
  cls : cls = .ref D
  dict : d = none ∨ ∃ dd fs, d = some dd ∧ H dd = some (.xd fs)
  ok : ExcC K D
theorem ExAt.inst {pins : List (Addr × Obj)} {σ : St} {H : Hp} {s : Shared} {cls : Value} {d : Option Addr} {D a : Addr} {oe : Obj} (I : Inv X pins σ H s) (E : ExAt X.K H cls d D) (hz : Zc cls d oe) (hf : ∃ vs, oe.data = .fields vs) (ha : s.heap.get? a = some oe) : ∃ od, PySem.W.InstAt s.heap a oe D od := by
  obtain ⟨vs, hv⟩ := hf
  obtain ⟨oc, odd, oda, osl⟩ := oe
  obtain ⟨h1, h2⟩ := hz
  dsimp only at h1 h2 hv
  have e := E.cls
  subst e h1 h2 hv
  rcases E.dict with rfl | ⟨dd, fs, rfl, hd⟩
  · exact ⟨none, ha, rfl, rfl, trivial⟩
  · obtain ⟨mA, ⟨od, es, ep, e2, _⟩, _⟩ := (show ObjOk X.prog X.w H s.heap dd (.xd fs) from I.hok dd _ hd)
    exact ⟨some od, ha, rfl, rfl, e2⟩
theorem ExcC.kit {K : PySem.W.Frag} {D a : Addr} {oe : Obj} {od : Option Obj} (C : ExcC K D) : PySem.W.KitX K (.ref a) (.ref D) (fun h => PySem.W.InstAt h a oe D od) :=
  PySem.W.kitx_exc (by obtain ⟨cd, hc, _⟩ := PySem.W.any_some C.hd; rw [hc]; rfl) C.hg C.hk C.hs C.ha C.hn C.ht C.hm
/-- isinstance(e, c) -/
def rIsX (K : PySem.W.Frag) (a : Addr) (cls : Value) (d : Option Addr) : List V → Hp → VK → Prop := fun xs H Q => ∃ (D : Addr) (c : V) (cv : Value) (b : Bool), ExAt K H cls d D ∧ xs = [.ref a, c] ∧ ClsV c cv ∧ PySem.W.kitOne K (.ref D) cv = some b ∧ Q (.bl b) H
theorem call_isX {K : PySem.W.Frag} {a : Addr} {cls : Value} {d : Option Addr} {oe : Obj} {pn : List (Addr × Obj)} (hz : Zc cls d oe) (hf : ∃ vs, oe.data = .fields vs) (hK : X.K = K := by rfl) : CallR (X.suite a ((a, oe) :: pn)) (.builtin "isinstance") (rIsX K a cls d) := by
  subst hK
  intro pins s σ H xs us Q I r h
  obtain ⟨D, c, cv, b, E, rfl, hcv, e, q⟩ := h
  obtain ⟨u1, u2, rfl, rx, rt⟩ := vals2 r
  cases rx
  have ec := hcv.eq rt
  subst ec
  obtain ⟨hget, _⟩ := I.pin (a, oe) (List.mem_append.mpr (.inl List.mem_cons_self))
  obtain ⟨od, J⟩ := ExAt.inst (X := X.suite a ((a, oe) :: pn)) I E hz hf hget
  exact PySem.W.kia_one (E.ok.kit) I.kIn J e (fun z => nomatch z) fun tk => ⟨.bl b, H, I.kept (t' := tk) fun _ _ z => z, rfl, q⟩
/-- isinstance(e, (c, ..)) -/
def rIsXT (K : PySem.W.Frag) (a : Addr) (cls : Value) (d : Option Addr) : List V → Hp → VK → Prop := fun xs H Q => ∃ (D tp : Addr) (cs : List V) (us : List Value) (b : Bool), ExAt K H cls d D ∧ xs = [.ref a, .ref tp] ∧ H tp = some (.tup cs) ∧ Paired ClsV cs us ∧ PySem.W.kitAny K (.ref D) us = some b ∧ Q (.bl b) H
theorem call_isXT {K : PySem.W.Frag} {a : Addr} {cls : Value} {d : Option Addr} {oe : Obj} {pn : List (Addr × Obj)} (hz : Zc cls d oe) (hf : ∃ vs, oe.data = .fields vs) (hK : X.K = K := by rfl) : CallR (X.suite a ((a, oe) :: pn)) (.builtin "isinstance") (rIsXT K a cls d) := by
  subst hK
  intro pins s σ H xs us Q I r h
  obtain ⟨D, tp, cs, ws, b, E, rfl, hT, k, e, q⟩ := h
  obtain ⟨u1, u2, rfl, rx, rt⟩ := vals2 r
  cases rx
  cases (show u2 = Value.ref tp from rt)
  obtain ⟨hget, _⟩ := I.pin (a, oe) (List.mem_append.mpr (.inl List.mem_cons_self))
  obtain ⟨od, J⟩ := ExAt.inst (X := X.suite a ((a, oe) :: pn)) I E hz hf hget
  obtain ⟨_, its, rv, o, h1, h2, n, h3⟩ := (show ObjOk X.prog X.w H s.heap tp (.tup cs) from I.hok tp _ hT)
  have e3 := ClsV.all k rv
  subst e3
  obtain ⟨oc, od', dt, sl⟩ := o
  simp only at h2 h3
  subst h2 h3
  exact PySem.W.kia_tup (E.ok.kit) I.kIn J h1 e (fun z => nomatch z) fun tk => ⟨.bl b, H, I.kept (t' := tk) fun _ _ z => z, rfl, q⟩
/-- list(text) -/
def rListS (H : Hp) (z : Str) (Q : VK) : Prop := ∀ l, H l = none → Q (.ref l) (upd H l (.lst (z.cps.toList.map fun c => V.str ⟨#[c]⟩)))
theorem vals_signs : ∀ (l : List Nat) (us : List Value), us.length = l.length → (∀ (i : Nat) (v : Value), us[i]? = some v → ∃ c t, l[i]? = some c ∧ v = .str ⟨#[c]⟩ t) → Vals (l.map fun c => V.str ⟨#[c]⟩) us
  | [], [], _, _ => .nil
  | [], _ :: _, h, _ => by simp at h
  | _ :: _, [], h, _ => by simp at h
  | c :: l, u :: us, h, hv => by
    obtain ⟨c', t, e1, e2⟩ := hv 0 u rfl
    have : c = c' := by simpa using e1
    subst this
    exact .cons ⟨t, e2⟩ (vals_signs l us (by simpa using h) fun i v e => by simpa using hv (i + 1) v (by simpa using e))
theorem call_listS (hc : X.calm = true) : CallR X (.type "list") (fun xs H Q => ∃ z, xs = [.str z] ∧ z.length ≤ sizeLine ∧ rListS H z Q) := by
  intro pins s σ H xs us Q I r h
  obtain ⟨z, rfl, hz, q⟩ := h
  obtain ⟨u, rfl, t, rfl⟩ := vals1 r
  have hh : X.A.handled = none := I.ok.hd hc
  refine call_list_str hh z t (hn := hz) fun h' tk acc' c' hk hS hacc => ?_
  have rv : Vals (z.cps.toList.map fun c => V.str ⟨#[c]⟩) acc'.toList := vals_signs _ _ (by simpa using hacc.1) fun i v e => by
    obtain ⟨c, u, h1, h2⟩ := hacc.2 i v (by simpa using e)
    exact ⟨c, u, by simpa using h1, h2⟩
  refine ⟨.ref s.heap.objs.size, _, I.laid (t' := tk) hk (Nat.le_refl _) (show ObjOk X.prog X.w _ h' _ (.lst _) from ⟨by rw [List.length_map, Array.length_toList]; exact hz, acc'.toList, c', rv, by simpa using hS⟩), rfl, q _ (I.hok.fresh (Nat.le_refl _))⟩
end
end L2
namespace L2
open PySem PySem.Spec PyProof.Rows
/-! ### what the written part says of an own exception class -/
structure ExK (K : PySem.W.Frag) (mg : Str → Option Value) (x : Str) (C : Addr) (bm : List Value) (newId : String) : Prop where
  gC : mg x = some (.ref C)
  xC : PySem.W.excIn K C bm newId = true
  kC : PySem.W.keepIn K (.ref C) = true
  bC : PySem.W.subIn K (.ref C) (.type "BaseException") = some true
  tC : PySem.W.typeIn K (.ref C) = some (.type "type")
  iC : PySem.W.isClsIn K C = true
  sC : PySem.W.subIn K (.ref C) (.ref C) = some true
  ok : ExcC K C
theorem ExK.te {K : PySem.W.Frag} {mg : Str → Option Value} {x : Str} {C : Addr} {bm : List Value} {newId : String} (T : ExK K mg x C bm newId) : PySem.W.exmOne K (.ref C) (.ref C) = some true := by
  have e1 : (PySem.W.subIn K (.ref C) (.type "BaseException") == some true) = true := by rw [T.bC]; rfl
  have e2 : ((PySem.W.clsIn K C).isSome && PySem.W.typeIn K (.ref C) == some (.type "type")) = true := by
    have q : (PySem.W.clsIn K C).isSome = true := T.iC
    rw [q, T.tC]
    rfl
  show (if (PySem.W.subIn K (.ref C) (.type "BaseException") == some true) = true then (if ((PySem.W.clsIn K C).isSome && PySem.W.typeIn K (.ref C) == some (.type "type")) = true then PySem.W.subIn K (.ref C) (.ref C) else none) else none) = some true
  rw [if_pos e1, if_pos e2]
  exact T.sC
section
variable {X : Cx} {CX : CXT} {x : Str} {k : Nat} {f : Addr} {fd : FuncData} {ps : List Str} {sp : Sp} {dvs : List V} {ds : List Value} {E : St → XK} {e : Expr} {es : List Expr} {t : TA} {p pos : Pos}
/-- f(e, ..) in a try's body, defaults behind -/
def tCallSD (sp : Sp) (dvs : List V) (E : St → XK) (t : TA) : TE := fun σ H Q => t σ H fun vs H1 => sp (vs ++ dvs) H1 Q (E σ)
theorem pe_callSD (F : FnOk X.prog X.w X.K X.mg X.base CX k f fd ps sp) (hr : Room k X.A) (hg : Gl X x) (hm : X.mg x = some (.ref f)) (hk : PySem.W.keepIn X.K (.ref f) = true) (hb : Binds X.K fd ps ds) (hd : Vals dvs ds) (hx : ∀ σ, PassesAt CX X σ (E σ))
    (ha : PA X (e :: es) t) (hdb : (x == ("__debug__" : Str)) = false := by decide) (he : starEach (e :: es) X.env = (false, eval e X.env) :: starEach es X.env := by rfl) (hpl : (backTo pos (starEach es X.env)).any (·.1) = false := by rfl) :
    PE X (.Call (.Name x p) (e :: es) [] pos) (tCallSD sp dvs E t) := by
  refine ⟨fun pins s σ H Q I h => ?_⟩
  refine wpAny_Call_Name_kw (ld_glob I hg hm ?_ hdb)
  refine PySem.W.callWith_K (h₀ := X.base) I.ok.mod.kin hk (thn (ha.run pos pins s σ H _ I h) fun us s1 ⟨vs, H1, I1, r, q⟩ => ⟨I1.kIn, ?_⟩) he hpl
  have r2 : Vals (vs ++ dvs) (us ++ ds) := r.append hd
  have hl : (us ++ ds).length = ps.length := by rw [← r2.length]; exact F.len _ _ _ _ q
  refine wpAny_call (codeAny_mono (F.run X.A X.stack s1 H1 ⟨us, []⟩ (us ++ ds) (vs ++ dvs) Q (E σ) hr I1.env0 (hb s1 us I1.kIn hl) r2 q) fun r s' hq => ?_)
  cases r with
  | error er => exact hx σ pins H1 s1 er s' I1 hq
  | ok fl =>
    cases fl with
    | ret u => exact I1.after hq
    | next => exact False.elim hq
    | brk => exact False.elim hq
    | cont => exact False.elim hq
end
end L2

namespace PySem
namespace XB0
open PySem.W
open PySem.HandSPX (excO)
/-- of a built-in exception class B: how its own classes are made (by L's __new__) and begun -/
structure XB (B newId initId : String) (bm : List Value) : Prop where
  nw : ∃ (L iL : String) (bL : List Value), ExcBaseFacts L newId iL bL ∧ bm.contains (.type L) = true
  hasB : bm.contains (.type B) = true
  noA : bm.contains (.type "AttributeError") = false
  noN : bm.contains (.type "NameError") = false
  init : Slot B "__init__" initId
  iE : entryFor table initId = some Builtin.«BaseException.__init__»
  iS : splitId initId = some (B, "__init__")
  iK : builtinKind initId = some .slot
  iR : Manifest.signature? initId = some ⟨.positional, "*", B, .self, [⟨"args", .varPos, false⟩]⟩
  nS : (B != "*") = true
theorem XB.of {B ni ii : String} {bm : List Value} (F : ExcBaseFacts B ni ii bm) : XB B ni ii bm := ⟨⟨B, ii, bm, F, F.hasB⟩, F.hasB, F.noAttr, F.noName, F.init, F.initEntry, F.initSplit, F.initKind, F.initRow, F.noStar⟩
abbrev keTail : List Value := [.type "KeyError", .type "LookupError", .type "Exception", .type "BaseException", .type "object"]
theorem xb_KeyError : XB "KeyError" "LookupError.__new__" "KeyError.__init__" keTail where
  nw := ⟨"LookupError", _, _, F.excBase_LookupError, by decide +kernel⟩
  hasB := by decide +kernel
  noA := by decide +kernel
  noN := by decide +kernel
  init := .of (owner := "KeyError") (n := "__init__") (by rw [typeLookup_type, builtinLookup_eq_fast]; kernel_rfl) (by decide +kernel) (by decide +kernel) (by decide +kernel)
    (by first | exact .inl (by decide +kernel) | exact .inr (by decide +kernel)) (by rw [isSubtype_type]; kernel_rfl)
  iE := by kernel_rfl
  iS := by decide +kernel
  iK := by decide +kernel
  iR := by kernel_rfl
  nS := by decide +kernel
theorem st_KeyError : StoreFacts "KeyError" keTail "object.__setattr__" "object" where
  mro := by kernel_rfl
  slot := .of (owner := "object") (n := "__setattr__") (by rw [typeLookup_type, builtinLookup_eq_fast]; kernel_rfl) (by decide +kernel) (by decide +kernel) (by decide +kernel) (by first | exact .inl (by decide +kernel) | exact .inr (by decide +kernel)) (by rw [isSubtype_type]; kernel_rfl)
  entry := F.entry_object_sa
  kind := by decide +kernel
  split := by decide +kernel
  hasOwner := by decide +kernel
  args := fun x y z => by unfold argsOk; kernel_rfl
  passes := fun x => by kernel_rfl
section
variable {prog : Program} {w : World} {A : Around} {E : Value → Shared → Prop} {R : Result → Shared → Prop} {h : Heap} {g : Array GenState} {d : Drawn} {t : Nat} {os : OsState}
variable {nm q : Str} {C N : Addr} {bs bm bmB : List Value} {hdct : Bool} {sn : List Str} {sub : List Value} {ab : Bool} {col : Option Bool} {dd : Option Addr} {k0 k1 k2 k3 k5 : Option Value} {B ni ii : String}
theorem xb_checkNew (F : XB B ni ii bmB) (hT : ∀ X : String, bm.contains (.type X) = bmB.contains (.type X)) {us : List Value} {Q : Unit → Shared → Prop}
    (hC : h.get? C = some (excClassObj nm q C N bs bm hdct sn sub ab col dd k0 k1 k2 k3 k5 ni)) (z : Q () ⟨h, g, d, t, os⟩) : wpAny (model prog w) A (checkBuiltinCall ni ⟨.ref C :: us, []⟩) Q E ⟨h, g, d, t, os⟩ := by
  obtain ⟨L, iL, bL, G, hL⟩ := F.nw
  have c1 : (Value.ref C :: bm).contains (.type L) = true := by rw [List.contains_cons, hT, hL, Bool.or_true]
  have c2 := G.noStar
  simp only [checkBuiltinCall, G.newKind, G.newSplit, G.newRow]
  repeat (first | refine wpAny_loadPart_at hC ?_ | (refine wpAny_isSubtype_exc hC ?_; rw [c1]) | refine wpAny_staticBase_exc hC ?_ | refine wpAny_madeBy_exc hC ?_ | simp only [bne_self_eq_false, Bool.false_eq_true, if_false] | wp_step)
  exact z
theorem xb_new (F : XB B ni ii bmB) (hT : ∀ X : String, bm.contains (.type X) = bmB.contains (.type X)) {us : List Value}
    (hC : h.get? C = some (excClassObj nm q C N bs bm hdct sn sub ab col dd k0 k1 k2 k3 k5 ni))
    (z : R (.ok (.ret (.ref (h.objs.size + 1)))) ⟨(h.push (PySem.W.kdv_tup us)).push (excO C h.objs.size), g, d, t, os⟩) (hl : us.length ≤ sizeLine) :
    codeAny (model prog w) A (.builtin ni ⟨.ref C :: us, []⟩) R ⟨h, g, d, t, os⟩ := by
  obtain ⟨L, iL, bL, G, hL⟩ := F.nw
  have c0 := G.ends
  have c1 : (Value.ref C :: bm).contains (.type L) = true := by rw [List.contains_cons, hT, hL, Bool.or_true]
  have c2 : (Value.ref C :: bm).contains (.type "AttributeError") = false := by rw [List.contains_cons, hT, F.noA]; rfl
  have c3 : (Value.ref C :: bm).contains (.type "NameError") = false := by rw [List.contains_cons, hT, F.noN]; rfl
  refine codeAny_builtinAt G.entry ?_
  unfold Builtin.«BaseException.__new__»
  refine wpAt_bind ?_
  show wpAt _ _ _ (stack >>= _) _ _ _
  refine wpAt_bind (wpAt_stack fun p below => wpAt_of_wpAny ?_)
  wp_walk
  refine wpAt_of_wpAny ?_
  rw [G.owner]
  repeat (first | with_reducible refine wpAny_madeHere_exc G.canon hC ?_ | with_reducible refine wpAny_loadPart_at hC ?_ | (with_reducible refine wpAny_isSubtype_exc hC ?_; first | rw [c1] | rw [c2] | rw [c3]) | wp_step)
  show R _ _
  rw [Heap.size_push]
  exact z
theorem xb_checkInit (F : XB B ni ii bmB) (hT : ∀ X : String, bm.contains (.type X) = bmB.contains (.type X)) {e : Addr} {oe : Obj} {us : List Value} {Q : Unit → Shared → Prop}
    (hC : h.get? C = some (excClassObj nm q C N bs bm hdct sn sub ab col dd k0 k1 k2 k3 k5 ni)) (he : h.get? e = some oe) (hc : oe.cls = .ref C) (z : Q () ⟨h, g, d, t, os⟩) :
    wpAny (model prog w) A (checkBuiltinCall ii ⟨.ref e :: us, []⟩) Q E ⟨h, g, d, t, os⟩ := by
  have c1 : (Value.ref C :: bm).contains (.type B) = true := by rw [List.contains_cons, hT, F.hasB, Bool.or_true]
  have c2 := F.nS
  simp only [checkBuiltinCall, F.iK, F.iS, F.iR]
  repeat (first | (with_reducible refine wpAny_loadPart_at he ?_; rw [hc]) | with_reducible refine wpAny_loadPart_at hC ?_ | (with_reducible refine wpAny_isSubtype_exc hC ?_; rw [c1]) | wp_step)
  refine wpAny_onRaise ?_
  rw [show ∀ (x y : String) (n : Nat), Bind.check ⟨.positional, "*", B, .self, [⟨"args", .varPos, false⟩]⟩ x y n (List.map (fun v => v.fst) ({ pos := Value.ref e :: us } : Args).kw) = pure () from
    fun x y n => check_star_args _ _ _ _ _ _]
  exact wpAny_pure z
theorem xb_init (F : XB B ni ii bmB) (hT : ∀ X : String, bm.contains (.type X) = bmB.contains (.type X)) {e t0 : Addr} {us : List Value}
    (hC : h.get? C = some (excClassObj nm q C N bs bm hdct sn sub ab col dd k0 k1 k2 k3 k5 ni)) (he : h.get? e = some (excO C t0)) (hl : us.length ≤ sizeLine)
    (z : ∀ h' t1, (∀ b o, b ≠ e → h.get? b = some o → h'.get? b = some o) → h'.get? e = some (excO C t1) → R (.ok (.ret .none)) ⟨h', g, d, t, os⟩) :
    codeAny (model prog w) A (.call (.builtin ii) ⟨.ref e :: us, []⟩) R ⟨h, g, d, t, os⟩ := by
  refine codeAny_call_builtin F.init.plain F.iE (xb_checkInit F hT hC he rfl ?_)
  wp_walk
  refine z _ h.objs.size (fun x o hx ho => ?_) ?_
  · rw [Heap.get?_update_other _ _ (Ne.symm hx)]
    exact Heap.get?_push_of_some _ ho
  · rw [Heap.get?_update_self _ (Heap.get?_push_of_some _ he) rfl]
    rfl
theorem xb_typeCall (F : XB B ni ii bmB) (hT : ∀ X : String, bm.contains (.type X) = bmB.contains (.type X)) {us : List Value} {fI : Addr} {Q : Fin → Shared → Prop}
    (hC : h.get? C = some (excClassObj nm q C N bs bm hdct sn sub ab col dd k0 k1 k2 k3 k5 ni))
    (hi : W.Looks (model prog w) h (typeLookup (.ref C) "__init__") (some (.ref fI))) (hb : ∀ x, W.Looks (model prog w) h (bindSpecial (.ref fI) x) (.ref fI, [x])) (hl : us.length ≤ sizeLine)
    (z : codeAny (model prog w) A (.call (.ref fI) ⟨.ref (h.objs.size + 1) :: us, []⟩)
      (fun r s' => match r with | .ok (.ret v) => v = .none ∧ Q (.done (.ret (.ref (h.objs.size + 1)))) s' | .ok _ => False | .error e => E e s')
      ⟨(h.push (PySem.W.kdv_tup us)).push (excO C h.objs.size), g, d, t, os⟩) :
    wpAny (model prog w) A (Builtin.«type.__call__» ⟨.ref C :: us, []⟩) Q E ⟨h, g, d, t, os⟩ := by
  obtain ⟨L, iL, bL, G, hL⟩ := F.nw
  repeat (first | with_reducible refine wpAny_loadPart_at hC ?_ | with_reducible refine wpAny_madeBy_exc hC ?_ | wp_step)
  refine codeAny_call_builtin_code (Code.quiet_builtin _ G.quiet) (xb_checkNew F hT hC ?_)
  refine xb_new F hT hC ?_ hl
  show wpAny _ _ _ _ _ _
  have k : ∀ b o, h.get? b = some o → ((h.push (PySem.W.kdv_tup us)).push (excO C h.objs.size)).get? b = some o := fun b o e => Heap.get?_push_of_some _ (Heap.get?_push_of_some _ e)
  have c1 := k _ _ hC
  have c2 : ((h.push (PySem.W.kdv_tup us)).push (excO C h.objs.size)).get? (h.objs.size + 1) = some (excO C h.objs.size) := by heap_get
  have c3 : (Value.ref C :: bm).contains (.ref C) = true := by simp
  have i1 := hi.keeps k
  have b1 := (hb (.ref (h.objs.size + 1))).keeps k
  unfold isInstance
  repeat (first | with_reducible refine wpAny_loadPart_at c2 ?_ | (with_reducible refine wpAny_isSubtype_exc c1 ?_; rw [c3]) | wp_step)
  show wpAny _ _ (typeLookup (.ref C) _) _ _ _
  refine i1.at ?_
  refine wpAny_holding (wpAny_bind (b1.at ?_))
  refine wpAny_bind (wpAny_call (codeAny_mono z fun r s' y => ?_))
  rcases r with e | (v | _ | _ | _) <;> first | exact y | exact y.elim | skip
  obtain ⟨rfl, y⟩ := y
  first
    | exact wpAny_pure (wpAny_pure y)
    | (wp_walk; exact y)
theorem xb_call (F : XB B ni ii bmB) (hT : ∀ X : String, bm.contains (.type X) = bmB.contains (.type X)) {us : List Value} {fI : Addr}
    (hC : h.get? C = some (excClassObj nm q C N bs bm hdct sn sub ab col dd k0 k1 k2 k3 k5 ni))
    (hi : W.Looks (model prog w) h (typeLookup (.ref C) "__init__") (some (.ref fI))) (hb : ∀ x, W.Looks (model prog w) h (bindSpecial (.ref fI) x) (.ref fI, [x])) (hl : us.length ≤ sizeLine)
    (z : codeAny (model prog w) (A.under (.builtin "type.__call__" ⟨.ref C :: us, []⟩)) (.call (.ref fI) ⟨.ref (h.objs.size + 1) :: us, []⟩) (W.InitBack (h.objs.size + 1) R)
      ⟨(h.push (PySem.W.kdv_tup us)).push (excO C h.objs.size), g, d, t, os⟩) :
    codeAny (model prog w) A (.call (.ref C) ⟨us, []⟩) R ⟨h, g, d, t, os⟩ := by
  have f1 := tc_lookup
  have f2 := tc_bind (.ref C)
  have f3 : (⟨h, g, d, t, os⟩ : Shared).TypeIs (.ref C) "type" := ⟨_, hC, rfl⟩
  refine codeAny_of_tree ?_
  show wpAny _ _ (callAny (.ref C) _) _ _ _
  repeat (any_goals (first | assumption | with_reducible refine wpAny_loadPart_at hC ?_ | wp_step))
  refine ⟨rfl, ?_⟩
  refine codeAny_call_builtin_at (Code.quiet_builtin _ (by decide +kernel)) entry_typeCall (wpAny_check_type_call_sub hC (xb_typeCall F hT hC hi hb hl ?_))
  refine codeAny_mono z fun r s' y => ?_
  rcases r with e | (v | _ | _ | _) <;> exact y
end
end XB0
end PySem
namespace L2
open PySem PySem.Spec PyProof.Rows
/-! ### own exceptions with fields over any built-in base -/
/-- what is asked of such a class C over the built-in class B -/
structure XiC (K : PySem.W.Frag) (C : Addr) (B newId initId : String) (bmB : List Value) : Prop where
  fb : PySem.XB0.XB B newId initId bmB
  sf : StoreFacts B bmB "object.__setattr__" "object"
  made : PySem.W.excInitIn K C bmB newId = true
  ov : PySem.W.excOver K C bmB = true
  hd : PySem.W.hasDictIn K C = true
  sa : PySem.W.findIn K (.ref C) "__setattr__" = some (some (.builtin "object.__setattr__"))
  bC : PySem.W.subIn K (.ref C) (.type "BaseException") = some true
  tC : PySem.W.typeIn K (.ref C) = some (.type "type")
  kC : PySem.W.keepIn K (.ref C) = true
section
variable {X : Cx} {pins : List (Addr × Obj)} {σ : St} {H : Hp} {s : Shared} {a C dx : Addr} {f : Str} {y : V} {u : Value} {fs : List (Str × V)} {Q : Unit → Shared → Prop} {E : Value → Shared → Prop} {A : Around} {B ni ii : String} {bm : List Value}
/-- e.f = y, the first field: the exception's dict is made -/
theorem xi_first (T : XiC X.K C B ni ii bm) (I : Inv X pins σ H s) (he : H a = some (exo a C none)) (ht : PySem.W.takerIn X.K C f = some none) (ry : RelV y u)
    (k : ∀ dx s', H dx = none → dx ≠ a → Inv X pins σ (upd (upd (upd H dx (exd dx [])) a (exo a C (some dx))) dx (exd dx [(f, y)])) s' → Q () s') : wpAny (model X.prog X.w) A (setAttr (.ref a) f u) Q E s := by
  obtain ⟨t1, ho⟩ := exo_at I.hok he
  obtain ⟨hp, g, dr, t, os⟩ := s
  obtain ⟨cd, hc, hdct⟩ := PySem.W.any_some T.hd
  have lt : a < hp.objs.size := Heap.lt_size ho
  refine PySem.W.set_plain I.kIn (od := none) ⟨ho, rfl, rfl, trivial⟩ T.sa ?_
  refine PySem.W.osa_openX (od := none) T.sf I.kIn ⟨ho, rfl, rfl, trivial⟩ T.ov ht fun b => ?_
  refine wpAny_bind (wpAny_pure (wpAny_bind (PySem.W.instanceDict_exc ho (PySem.W.looks_clsIn I.kIn hc) hdct ?_)))
  show wpAny _ _ (Builtin.ObjectAttr.storeInDict hp.objs.size _ f u) _ _ _
  have gd : (hp.push (PySem.W.dictOf [] 0)).get? hp.objs.size = some (PySem.W.dictOf [] 0) := Heap.get?_push_size _ rfl
  have ns0 : (hp.push (PySem.W.dictOf [] 0)).Ns1 hp.objs.size (fun _ => none) := Heap.Ns1.of_empty ⟨_, #[], _, gd, rfl, fun e he => absurd he (by simp), fun _ => rfl⟩
  have J1 := I.laid (a := hp.objs.size) (o := exd hp.objs.size []) (h' := hp.push (PySem.W.dictOf [] 0)) (t' := t) (fun _ _ q => Heap.get?_push_of_some _ q) (Nat.le_refl _) (exd_ok ns0 fun _ => True.intro)
  have fr : H hp.objs.size = none := I.hok.fresh (Nat.le_refl _)
  have na : hp.objs.size ≠ a := Nat.ne_of_gt lt
  have gx := Heap.get?_update_self (fun o : Obj => { o with dict := some hp.objs.size }) (Heap.get?_push_of_some (PySem.W.dictOf [] 0) ho) rfl
  have J2 := J1.write (x := a) (e := a) (o := exo a C (some hp.objs.size)) (h' := (hp.push (PySem.W.dictOf [] 0)).update a fun o => { o with dict := some hp.objs.size }) (t' := t)
    (by rw [upd_ne na.symm, he]; exact True.intro) (.inl rfl) (fun b o hb q => (Heap.get?_update_ne _ _ _ _ hb).trans q) ⟨_, gx⟩ (exo_ok gx)
  have ns1 : ((hp.push (PySem.W.dictOf [] 0)).update a fun o => { o with dict := some hp.objs.size }).Ns1 hp.objs.size (fun _ => none) :=
    Heap.Ns1.of_empty ⟨_, #[], _, (Heap.get?_update_ne _ _ _ _ na).trans gd, rfl, fun e he => absurd he (by simp), fun _ => rfl⟩
  refine PySem.OEX.store_in_old (ns := []) ns1 Within.nil (by decide) fun h' tk' hn' sb => ?_
  have ex : ∃ o, h'.get? hp.objs.size = some o := by
    obtain ⟨o, _, _, q, _⟩ := hn'
    exact ⟨o, q⟩
  exact k hp.objs.size _ fr na (J2.write (x := hp.objs.size) (e := hp.objs.size) (o := exd hp.objs.size [(f, y)]) (h' := h') (t' := tk')
    (by rw [upd_ne na, upd_same]; exact True.intro) (.inl rfl) (fun b o hb q => (sb.2 b hb).trans q) ex (exd_ok hn' (relO_put (fs := []) ry fun _ => True.intro)))
/-- e.f = y, a later field -/
theorem xi_later (T : XiC X.K C B ni ii bm) (I : Inv X pins σ H s) (he : H a = some (exo a C (some dx))) (hd : H dx = some (exd dx fs)) (hl : fs.length ≤ 900) (ht : PySem.W.takerIn X.K C f = some none) (ry : RelV y u)
    (k : ∀ s', Inv X pins σ (upd H dx (exd dx ((f, y) :: fs))) s' → Q () s') : wpAny (model X.prog X.w) A (setAttr (.ref a) f u) Q E s := by
  obtain ⟨t1, ho⟩ := exo_at I.hok he
  obtain ⟨mA, ns1, rel⟩ := exd_at I.hok hd
  have wi := within_of rel
  obtain ⟨hp, g, dr, t, os⟩ := s
  obtain ⟨cd, hc, hdct⟩ := PySem.W.any_some T.hd
  obtain ⟨oD, _, _, gD, _, _⟩ := ns1.count wi
  refine PySem.W.set_plain I.kIn (od := some oD) ⟨ho, rfl, rfl, gD⟩ T.sa ?_
  refine PySem.W.osa_openX (od := some oD) T.sf I.kIn ⟨ho, rfl, rfl, gD⟩ T.ov ht fun b => ?_
  refine wpAny_bind (wpAny_pure (wpAny_bind (wpAny_bind (wpAny_loadPart ho (wpAny_bind ((PySem.W.looks_clsIn I.kIn hc).at ?_))))))
  rw [hdct]
  refine wpAny_pure (a := some dx) ?_
  refine PySem.OEX.store_in_old ns1 wi (by rw [List.length_map]; omega) fun h' tk' hn' sb => ?_
  have ex : ∃ o, h'.get? dx = some o := by
    obtain ⟨o, _, _, q, _⟩ := hn'
    exact ⟨o, q⟩
  exact k _ (I.write (x := dx) (e := dx) (o := exd dx ((f, y) :: fs)) (h' := h') (t' := tk') (by rw [hd]; exact True.intro) (.inl rfl) (fun b o hb q => (sb.2 b hb).trans q) ex (exd_ok hn' (relO_put ry rel)))
/-- B.__init__(e, ..): nothing of it is told -/
theorem xi_base {us : List Value} {P : Value → Shared → Prop} (T : XiC X.K C B ni ii bm) (I : Inv X pins σ H s) (he : H a = some (exo a C none)) (hl : us.length ≤ sizeLine) (k : ∀ s', Inv X pins σ H s' → P .none s') :
    wpAny (model X.prog X.w) A (call (.builtin ii) (.ref a :: us)) P E s := by
  obtain ⟨nm, N, q, bs, bm', hdct, sn, sub, ab, col, dd, k0, k1, k2, k3, k5, hC, hT⟩ := PySem.W.excInit_of I.kIn T.made
  obtain ⟨t1, ho⟩ := exo_at I.hok he
  obtain ⟨hp, g, d, t, os⟩ := s
  refine wpAny_call (PySem.XB0.xb_init T.fb hT hC ho hl fun h' t2 kp hx => ?_)
  have J := I.write (t' := t) (x := a) (e := a) (o := exo a C none) (by rw [he]; exact True.intro) (.inl rfl) kp ⟨_, hx⟩ (exo_ok hx)
  have same : upd H a (exo a C none) = H := funext fun b => by
    by_cases hb : b = a
    · subst hb; rw [upd_same, he]
    · exact upd_ne hb
  rw [same] at J
  exact k _ J
end
/-- B.__init__(self, ..) -/
def tXi (K : PySem.W.Frag) (B ni ii : String) (bm : List Value) (ta : TA) : TE := fun σ H Q => ta σ H fun vs H1 => ∃ (a C : Addr) (ws : List V), vs = .ref a :: ws ∧ ws.length ≤ 1000 ∧ XiC K C B ni ii bm ∧ H1 a = some (exo a C none) ∧ Q .non H1
/-- self.f = e -/
def tXs (K : PySem.W.Frag) (B ni ii : String) (bm : List Value) (f : Str) (to te : TE) : TS := fun D σ H => te σ H fun y H1 => to σ H1 fun x H2 => ∃ a C : Addr, x = .ref a ∧ XiC K C B ni ii bm ∧ PySem.W.takerIn K C f = some none ∧
  ((H2 a = some (exo a C none) ∧ ∀ dx, H2 dx = none → dx ≠ a → D.nx σ (upd (upd (upd H2 dx (exd dx [])) a (exo a C (some dx))) dx (exd dx [(f, y)]))) ∨
    ∃ (dx : Addr) (fs : List (Str × V)), H2 a = some (exo a C (some dx)) ∧ H2 dx = some (exd dx fs) ∧ fs.length ≤ 900 ∧ D.nx σ (upd H2 dx (exd dx ((f, y) :: fs))))
section
variable {X : Cx} {o e : Expr} {es : List Expr} {to te : TE} {ta : TA} {f : Str} {p p' p1 p2 pos : Pos} {B ni ii : String} {bm : List Value}
theorem pe_xi {x : Str} {pl : Sem Bool} (hg : Gl X x) (hm : X.mg x = none) (hv : bootBuiltins x = some (.type B)) (hn : x ≠ "__name__") (hdb : (x == ("__debug__" : Str)) = false) (ty : typeOf (.type B) = pure (.type "type")) (vV : PySem.W.findCls X.K (.type B) (.type "type") "__init__" = some (.val (.builtin ii))) (ha : PA X (e :: es) ta)
    (stub : Manifest.isStub B = false := by decide +kernel) (hnd : PySem.W.handedIn (.builtin ii) = true := by decide +kernel)
    (hc : eval (.Call (.Attribute (.Name x p1) "__init__" p2) (e :: es) [] pos) X.env = (do
      let ov ← eval (.Name x p1) X.env
      standAt p2.atName
      let (f, first) ← holding [ov] (getMethod ov "__init__" pl)
      callWith pos f first (backTo pos (starEach (e :: es) X.env)) (backToKw pos (keywordEach [] X.env))) := by rfl)
    (he : starEach (e :: es) X.env = (false, eval e X.env) :: starEach es X.env := by rfl) (hpl : (backTo pos (starEach es X.env)).any (·.1) = false := by rfl) :
    PE X (.Call (.Attribute (.Name x p1) "__init__" p2) (e :: es) [] pos) (tXi X.K B ni ii bm ta) := by
  refine ⟨fun pins s σ H Q I h => ?_⟩
  refine PySem.W.methodCall_KW (ld_blt I hg hm hv ?_ hn hdb) hc
  obtain ⟨m, fr⟩ := I.fr
  refine PySem.W.method_type fr I.ok.mod.kin ty stub vV hnd ?_
  show wpAny _ _ (callWith pos (Value.builtin ii) [] (backTo pos (starEach (e :: es) X.env)) []) _ _ _
  refine PyProof.Rows.callWith_method1 (thn (ha.run pos pins _ σ H _ (I.tok _) h) fun us s1 z => ?_) he hpl
  obtain ⟨vs, H1, J, r, a, C, ws, rfl, hl, T, ea, q⟩ := z
  cases r with
  | @cons _ u0 _ ur ra rw' =>
    cases (show u0 = Value.ref a from ra)
    exact xi_base T J ea (by rw [← Paired.length rw', sizeLine_eq]; omega) fun s' J' => ⟨.non, H1, J', rfl, q⟩
theorem ps_xs (ho : PE X o to) (he : PE X e te) (hs : swapsWith e (some (.Attribute o f p')) pos.line X.env = pure false := by rfl) : PS X (.Assign [.Attribute o f p'] e pos) (tXs X.K B ni ii bm f to te) := by
  refine ⟨fun pins s σ H D I h => plainObj_wpAny_Assign_Attribute (thn (he.run pins s σ H _ I h) fun v s1 z1 => ?_) hs⟩
  obtain ⟨y, H1, J1, ry, q1⟩ := z1
  refine thn (ho.run pins s1 σ H1 _ J1 q1) fun u s2 z2 => ?_
  obtain ⟨x, H2, J2, rx, a, C, rfl, T, ht, q⟩ := z2
  cases (show u = Value.ref a from rx)
  rcases q with ⟨ea, q⟩ | ⟨dx, fs, ea, ed, hl, q⟩
  · exact xi_first T J2 ea ht ry fun dx s' n ne J => ⟨σ, _, J, q dx n ne⟩
  · exact xi_later T J2 ea ed hl ht ry fun s' J => ⟨σ, _, J, q⟩
/-- C(e, ..), C's own __init__ keeping sp -/
theorem pmk_xi {CX : CXT} {x : Str} {C fI : Addr} {k : Nat} {fd : FuncData} {ps : List Str} {sp : Sp} {ds : List Value} {dvs : List V} (T : XiC X.K C B ni ii bm) (iC : PySem.W.findIn X.K (.ref C) "__init__" = some (some (.ref fI))) (tI : PySem.W.typeIn X.K (.ref fI) = some (.type "function"))
    (F1 : FnOk X.prog X.w X.K X.mg X.base CX k fI fd ps sp) (hr : Room (k + 1) X.A) (hb : Binds X.K fd ps ds) (hd : Vals dvs ds) (hx : Passes CX X (fun _ _ _ => False)) (hg : Gl X x) (hm : X.mg x = some (.ref C)) (ha : PA X (e :: es) ta)
    (hdb : (x == ("__debug__" : Str)) = false := by decide) (he : starEach (e :: es) X.env = (false, eval e X.env) :: starEach es X.env := by rfl) (hpl : (backTo pos (starEach es X.env)).any (·.1) = false := by rfl) :
    PMk X (.Call (.Name x p) (e :: es) [] pos) (tMkO C sp dvs ta) := by
  intro pins s σ H Q I h
  refine wpAny_Call_Name_kw (ld_glob I hg hm ?_ hdb)
  refine PySem.W.callWith_K (h₀ := X.base) I.ok.mod.kin T.kC (thn (ha.run pos pins s σ H _ I h) fun us s1 z => ?_) he hpl
  obtain ⟨vs, H1, J, r, hz, q⟩ := z
  refine ⟨J.kIn, ?_⟩
  show wpAny _ _ (call (.ref C) us) _ _ _
  obtain ⟨nm, N, qn, bs, bm', hdct, sn, sub, ab, col, dd, k0, k1, k2, k3, k5, hC, hT⟩ := PySem.W.excInit_of J.kIn T.made
  obtain ⟨hp, g, dr, tk, os⟩ := s1
  have n1 : hp.objs.size ≤ hp.objs.size + 1 := Nat.le_succ _
  have Z := q (hp.objs.size + 1) (J.hok.fresh n1)
  have kp : ∀ b o, hp.get? b = some o → ((hp.push (PySem.W.kdv_tup us)).push (PySem.HandSPX.excO C hp.objs.size)).get? b = some o := fun _ _ z => Heap.get?_push_of_some _ (Heap.get?_push_of_some _ z)
  have gt : ((hp.push (PySem.W.kdv_tup us)).push (PySem.HandSPX.excO C hp.objs.size)).get? (hp.objs.size + 1) = some (PySem.HandSPX.excO C hp.objs.size) := by heap_get
  have J2 := J.laid (t' := tk) (a := hp.objs.size + 1) (o := exo (hp.objs.size + 1) C none) (h' := (hp.push (PySem.W.kdv_tup us)).push (PySem.HandSPX.excO C hp.objs.size)) kp n1 (exo_ok gt)
  have r2 : Vals (V.ref (hp.objs.size + 1) :: (vs ++ dvs)) (Value.ref (hp.objs.size + 1) :: (us ++ ds)) := .cons rfl (r.append hd)
  have zl : (Value.ref (hp.objs.size + 1) :: us ++ ds).length = ps.length := (r2.length.symm.trans (F1.len _ _ _ _ Z)).symm ▸ rfl
  refine wpAny_call (PySem.XB0.xb_call T.fb hT hC (PySem.W.looks_findIn J.kIn iC) (fun self => PySem.W.bind_fn J.kIn self tI) (by rw [← Paired.length r, sizeLine_eq]; omega)
    (codeAny_mono (F1.run _ X.stack _ _ ⟨Value.ref (hp.objs.size + 1) :: us, []⟩ (Value.ref (hp.objs.size + 1) :: (us ++ ds)) _ _ (fun _ _ _ => False) (hr.make C us []) (J2.env0.make C us []) (hb _ (Value.ref (hp.objs.size + 1) :: us) J2.kIn zl) r2 Z) fun rs s' z => ?_))
  cases rs with
  | error er => exact hx pins σ _ _ er s' J2 z
  | ok fl =>
    cases fl with
    | ret u =>
      obtain ⟨v, H2, os2, bare2, un2, hok2, rv, ev, d, fs, ea, ed, hd1, q2⟩ := z
      subst ev
      obtain ⟨h2, g2, d2, t2, os'⟩ := s'
      exact ⟨rv, mk_end (raises_own T.bC T.tC) J n1 kp un2 hok2 os2 bare2 ea ed hd1 q2⟩
    | _ => exact False.elim z
end
end L2
namespace L2
open PySem PySem.Spec PyProof.Rows
/-! ### what the written part says of such a class -/
structure ExF (K : PySem.W.Frag) (mg : Str → Option Value) (x : Str) (C : Addr) (B ni ii : String) (bm : List Value) : Prop where
  gC : mg x = some (.ref C)
  xi : XiC K C B ni ii bm
  iC : PySem.W.isClsIn K C = true
  sC : PySem.W.subIn K (.ref C) (.ref C) = some true
  ok : ExcC K C
  xf : XfC K C
section
variable {K : PySem.W.Frag} {mg : Str → Option Value} {x : Str} {C D : Addr} {B ni ii : String} {bm : List Value} {b : Bool} {T : String} {f : Str}
theorem ExF.tC (E : ExF K mg x C B ni ii bm) : PySem.W.typeIn K (.ref C) = some (.type "type") := E.xi.tC
theorem ExF.bC (E : ExF K mg x C B ni ii bm) : PySem.W.subIn K (.ref C) (.type "BaseException") = some true := E.xi.bC
/-- which clause takes an exception -/
theorem exm_of (s : PySem.W.subIn K (.ref C) (.ref D) = some b) (bD : PySem.W.subIn K (.ref D) (.type "BaseException") = some true) (iD : PySem.W.isClsIn K D = true) (tD : PySem.W.typeIn K (.ref D) = some (.type "type")) : PySem.W.exmOne K (.ref C) (.ref D) = some b := by
  have q : (PySem.W.clsIn K D).isSome = true := iD
  show (if (PySem.W.subIn K (.ref D) (.type "BaseException") == some true) = true then (if ((PySem.W.clsIn K D).isSome && PySem.W.typeIn K (.ref D) == some (.type "type")) = true then PySem.W.subIn K (.ref C) (.ref D) else none) else none) = some b
  rw [if_pos (by rw [bD]; rfl), if_pos (by rw [q, tD]; rfl), s]
theorem ExF.te (E : ExF K mg x C B ni ii bm) : PySem.W.exmOne K (.ref C) (.ref C) = some true := exm_of E.sC E.bC E.iC E.tC
theorem kit_exT (s : PySem.W.subIn K (.ref C) (.type T) = some b) (m : PySem.W.kitMeta T = true := by decide +kernel) : PySem.W.kitOne K (.ref C) (.type T) = some b := by
  have n : (Value.ref C == Value.type T) = false := by
    apply beq_eq_false_iff_ne.mpr
    intro z
    cases z
  show (if (Value.ref C == Value.type T) = true then some true else if PySem.W.kitMeta T = true then PySem.W.subIn K (.ref C) (.type T) else none) = some b
  rw [n, if_neg (by decide), if_pos m, s]
theorem kit_exC (s : PySem.W.subIn K (.ref C) (.ref D) = some b) (iD : PySem.W.isClsIn K D = true) (tD : PySem.W.typeIn K (.ref D) = some (.type "type")) (sD : PySem.W.subIn K (.ref D) (.ref D) = some true) : PySem.W.kitOne K (.ref C) (.ref D) = some b := by
  have q : (PySem.W.clsIn K D).isSome = true := iD
  show (if (Value.ref C == Value.ref D) = true then some true else if ((PySem.W.clsIn K D).isSome && PySem.W.typeIn K (.ref D) == some (.type "type")) = true then PySem.W.subIn K (.ref C) (.ref D) else none) = some b
  by_cases e : C = D
  · subst e
    rw [if_pos (by simp)]
    exact sD.symm.trans s
  · rw [if_neg (by simpa using e), if_pos (by rw [q, tD]; rfl), s]
theorem taker_none (h : PySem.W.findIn K (.ref C) f = some none) : PySem.W.takerIn K C f = some none := by
  unfold PySem.W.takerIn
  rw [h]
  rfl
end
/-- what such a class's heap is behind its __init__, once the exception is let go -/
theorem fresh_xd {H : Hp} {a d : Addr} {C : Addr} {fs gs : List (Str × V)} (ha : H a = none) (n : d ≠ a) :
    upd (del (upd (upd (upd (upd H a (exo a C none)) d (exd d gs)) a (exo a C (some d))) d (exd d fs)) a) d (.xd fs) = upd H d (.xd fs) := funext fun b => by
  by_cases h : b = d
  · subst h; rw [upd_same, upd_same]
  · rw [upd_ne h, upd_ne h]
    by_cases h2 : b = a
    · subst h2; rw [del_same, ha]
    · rw [del_ne h2, upd_ne h, upd_ne h2, upd_ne h, upd_ne h2]
end L2

namespace L2
open PySem PySem.Spec PyProof.Rows
/-! ### several except clauses, each with a name or none -/
abbrev Hd := Value × Option Nat × (Addr → Value → Option Addr → TS)
/-- the ends of a suite whose name, slot i, is taken away behind it -/
def outOf (i : Nat) (D : Ends) : Ends := { nx := fun τ G => D.nx (τ.set i none) G, rt := D.rt, bk := fun τ G => D.bk (τ.set i none) G, ct := fun τ G => D.ct (τ.set i none) G }
/-- what the clauses wish of an exception of the body -/
def wLs (K : PySem.W.Frag) (Wout : WX) (D : Ends) : List Hd → WX
  | [] => Wout
  | (c, none, ts) :: r => fun cls d σ H => ∃ b, PySem.W.exmOne K cls c = some b ∧ (b = true → ∀ e, H e = none → ts e cls d D σ H) ∧ (b = false → wLs K Wout D r cls d σ H)
  | (c, some i, ts) :: r => fun cls d σ H => ∃ b, PySem.W.exmOne K cls c = some b ∧ (b = true → ∀ e, H e = none → ts e cls d (outOf i D) (σ.set i (some (.ref e))) H) ∧ (b = false → wLs K Wout D r cls d σ H)
/-- the readings of the clauses -/
inductive HdLs (X : Cx) : List ExceptHandler → List Hd → Prop
  | nil : HdLs X [] []
  | bare {x : Str} {c : Value} {ts : Addr → Value → Option Addr → TS} {st : Stmt} {suite : List Stmt} {np q : Pos} {hds : List ExceptHandler} {l : List Hd} (hc : Names X x c)
      (hs : ∀ (e : Addr) (oe : Obj) (cls : Value) (d : Option Addr) (pn : List (Addr × Obj)), Zc cls d oe → (∃ vs, oe.data = .fields vs) → PSs (X.suite e ((e, oe) :: pn)) (st :: suite) (ts e cls d)) (r : HdLs X hds l) :
      HdLs X (.ExceptHandler (some (.Name x np)) none (st :: suite) q :: hds) ((c, none, ts) :: l)
  | named {x n : Str} {i : Nat} {c : Value} {ts : Addr → Value → Option Addr → TS} {st : Stmt} {suite : List Stmt} {np q : Pos} {hds : List ExceptHandler} {l : List Hd} (hi : X.N[i]? = some n) (hn : X.env.kindOf n = some .local) (hc : Names X x c)
      (hs : ∀ (e : Addr) (oe : Obj) (cls : Value) (d : Option Addr) (pn : List (Addr × Obj)), Zc cls d oe → (∃ vs, oe.data = .fields vs) → PSs (X.suite e ((e, oe) :: pn)) (st :: suite) (ts e cls d)) (r : HdLs X hds l) :
      HdLs X (.ExceptHandler (some (.Name x np)) (some n) (st :: suite) q :: hds) ((c, some i, ts) :: l)
section
variable {X : Cx} {body : List Stmt} {h1 : ExceptHandler} {hds : List ExceptHandler} {l : List Hd} {pos : Pos} {tb : WX → TS} {Wout : WX}
theorem ps_try_ls (nd : X.N.Nodup) (hst : X.stack = X.env :: X.outer) (hfr : X.env.frame = some X.env.locals) (tk : Takes X Wout)
    (hb : ∀ (W : WX) (pn : List (Addr × Obj)) (xe : Value → Shared → Prop), Takes (X.tr pn xe) W → PassesOwn (model X.prog X.w) X.A X.env xe → PSs (X.tr pn xe) body (tb W))
    (hh : HdLs X (h1 :: hds) l) : PS X (.Try body (h1 :: hds) [] [] pos) (fun D σ H => tb (wLs X.K Wout D l) D σ H) := by
  refine ⟨fun pins s σ H D I h => wpAny_Try_except ?_⟩
  have ok := I.ok
  have fA : X.A.frames = some (X.env :: X.outer) := ok.frames.trans (congrArg some hst)
  refine wpAny_mono ((hb (wLs X.K Wout D l) (X.pn ++ pins) (fun e s₁ => wpAny (model X.prog X.w) X.A (noteFrame e X.env) (fun _ s₂ => wpAny (model X.prog X.w) X.A (setFlight e none) (fun _ s₃ =>
    wpAny (model X.prog X.w) X.A (handleBy e X.env (h1 :: hds)) (SP X pins D) X.xe s₃) X.xe s₂) X.xe s₁) (fun u s' z => ?_) PassesOwn.looking).run [] s σ H D (I.toTry _) h) (fun fl s1 z => ?_) (fun _ _ z => z)
  · obtain ⟨x, M, s0, p0, τ, G, cls, d, rfl, J0, nb, up, sky0, nx, os, ag, w⟩ := z
    have J : Inv X pins τ G s0 := J0.ofTry ok
    have sky : Sky M (X.env :: X.outer) x (Zc cls d) X.env.locals s'.heap := hst ▸ sky0
    show wpAny (model X.prog X.w) X.A (noteFrame (.ref x) X.env) _ _ _
    refine Sky.land Zc.steady fA hfr sky fun h3 fl3 up3 => ?_
    have J3 : Inv X pins τ G { s' with heap := h3 } := J.landed nb fl3.1 (up.trans up3) os ag
    obtain ⟨oe3, vs3, ge3, hz3, dd3⟩ := fl3.there
    have nfr : x ∉ frs (X.env :: X.outer) := fun hm => by
      obtain ⟨_, o', e', ne⟩ := fl3.2.2.1.mem hm
      rw [ge3] at e'; cases e'
      exact ne _ dd3
    have nL : x ≠ X.env.locals := fun z => nfr (List.mem_filterMap.mpr ⟨X.env, .head _, by rw [hfr, z]⟩)
    have nF : x ∉ X.fs := fun hm => by
      obtain ⟨v, hv, q⟩ := List.mem_filterMap.mp hm
      exact nfr (List.mem_filterMap.mpr ⟨v, .tail _ hv, q⟩)
    have S3 := J3.suite ge3 dd3 nx nL nF
    have LT : PySem.W.Looks (model X.prog X.w) h3 (typeOf (.ref x)) cls := fun A Q E s k q => wpAny_typeOf_ref (k _ _ ge3) (by rw [hz3.1]; exact q)
    have go : ∀ {us : List ExceptHandler} {m : List Hd}, HdLs X us m → wLs X.K Wout D m cls d τ G → wpAny (model X.prog X.w) X.A (handleBy (.ref x) X.env us) (SP X pins D) X.xe { s' with heap := h3 } := by
      intro us m hk
      have look : ∀ {y : Str} {c : Value} {np : Pos} {Q : Value → Shared → Prop} {E : Value → Shared → Prop}, Names X y c → Q c { s' with heap := h3 } → wpAny (model X.prog X.w) (X.A.mark (some (.ref x))) (eval (.Name y np) X.env) Q E { s' with heap := h3 } := fun {y c np Q E} hc q => by
        obtain ⟨g1, g2, g3 | ⟨g3, g4, g5⟩⟩ := hc
        · exact ld_glob (X := X.suite x ((x, oe3) :: (X.pn ++ pins))) S3 g1 g3 q g2
        · exact ld_blt (X := X.suite x ((x, oe3) :: (X.pn ++ pins))) S3 g1 g3 g4 q g5 g2
      induction hk with
      | nil =>
        intro w
        refine wpAny_handleBy_nil ?_
        obtain ⟨k1, k2, k3, oe, vs, T, oT, ts', he, hz, hd, h1, hr⟩ := id fl3
        unfold PySem.passOn
        refine wpAny_bind (wpAny_field he hd h1 ?_)
        rw [if_neg (show ¬ ((Value.ref T == Value.none) = true) from by simp)]
        have off : wpAny (model X.prog X.w) X.A (setFlight (.ref x) X.env.frame) (fun _ s4 => wpAny (model X.prog X.w) X.A (throw (.ref x) : Sem Flow) (SP X pins D) X.xe s4) X.xe { s' with heap := h3 } := by
          rw [hfr]
          exact HandSPX.setFlight_upZ fl3 fun h4 hh4 up4 => wpAny_throw (tk _ _ ⟨x, M, s0, pins, τ, G, cls, d, rfl, J, nb, (up.trans up3).trans up4, .inr (.inr (by rw [hst]; exact hh4)), nx, os, ag, w⟩)
        first | exact wpAny_bind (wpAny_pure (wpAny_bind off)) | exact wpAny_bind off
      | @bare y c ts st suite np q us2 m2 hc hs r ih =>
        intro w
        obtain ⟨b, hm, hyes, hno⟩ := w
        refine wpAny_handleBy_cons (codeAny_handlers_test (look hc ((PySem.W.exm_one (M := model X.prog X.w) J3.kIn LT hm).here ?_))) (fun z => nomatch z)
        cases b with
        | false => exact ih (hno rfl)
        | true =>
          refine codeAny_handlers_suite (HandSPX.lands_againZ fl3 fun h4 fl4 up4 => ?_)
          obtain ⟨oe4, vs4, ge4, hz4, dd4⟩ := fl4.there
          have S4 := (J.landed nb fl4.1 ((up.trans up3).trans up4) os ag : Inv X pins τ G { s' with heap := h4 }).suite ge4 dd4 nx nL nF
          refine wpAny_mono ((hs x oe4 cls d (X.pn ++ pins) hz4 ⟨_, dd4⟩).run [] _ _ G _ S4 (hyes rfl x nx)) (fun f s6 z => ?_) (fun _ _ z => z.elim)
          cases f with
          | ret u => exact let ⟨v6, τ6, G6, S6, r6, q6⟩ := z; ⟨v6, τ6, G6, S6.unsuite ok, r6, q6⟩
          | _ => exact let ⟨τ6, G6, S6, q6⟩ := z; ⟨τ6, G6, S6.unsuite ok, q6⟩
      | @named y n i c ts st suite np q us2 m2 hi hn hc hs r ih =>
        intro w
        obtain ⟨b, hm, hyes, hno⟩ := w
        refine wpAny_handleBy_cons (codeAny_handlers_test (look hc ((PySem.W.exm_one (M := model X.prog X.w) J3.kIn LT hm).here ?_))) (fun z => nomatch z)
        cases b with
        | false => exact ih (hno rfl)
        | true =>
          refine codeAny_handlers_suite_as (HandSPX.lands_againZ fl3 fun h4 fl4 up4 => ?_)
          obtain ⟨oe4, vs4, ge4, hz4, dd4⟩ := fl4.there
          have S4 := (J.landed nb fl4.1 ((up.trans up3).trans up4) os ag : Inv X pins τ G { s' with heap := h4 }).suite ge4 dd4 nx nL nF
          refine store_ok (X := X.suite x ((x, oe4) :: (X.pn ++ pins))) (v := .ref x) S4 nd hi (.inl hn) rfl (fun s5 S5 => ?_) (.inr hn)
          refine wpAny_mono ((hs x oe4 cls d (X.pn ++ pins) hz4 ⟨_, dd4⟩).run [] s5 _ G _ S5 (hyes rfl x nx)) (fun f s6 z => ?_) (fun _ _ z => z.elim)
          have away : ∀ {τ6 : St} {G6 : Hp} {Q : Shared → Prop}, Inv (X.suite x ((x, oe4) :: (X.pn ++ pins))) [] τ6 G6 s6 → (∀ s7, Inv X pins (τ6.set i none) G6 s7 → Q s7) →
              wpAny (model X.prog X.w) X.A (do bindName X.env n .none; unbindBehindTheSuite X.env n q) (fun _ s7 => Q s7) X.xe s6 := fun {τ6 G6 Q} S6 hq => gone_ok (S6.unsuite ok) nd hi hn hq
          cases f with
          | ret u => exact let ⟨v6, τ6, G6, S6, r6, q6⟩ := z; away S6 fun s7 J7 => ⟨v6, _, _, J7, r6, q6⟩
          | _ => exact let ⟨τ6, G6, S6, q6⟩ := z; away S6 fun s7 J7 => ⟨_, _, J7, q6⟩
    exact go hh w
  · cases fl with
    | next => exact let ⟨τ, G, J, q⟩ := z; wpAny_execs_nil ⟨τ, G, J.ofTry ok, q⟩
    | ret u => exact let ⟨v, τ, G, J, r, q⟩ := z; ⟨v, τ, G, J.ofTry ok, r, q⟩
    | _ => exact let ⟨τ, G, J, q⟩ := z; ⟨τ, G, J.ofTry ok, q⟩
end
end L2

namespace L2
open PySem PySem.Spec PyProof.Rows
/-! ### sorted(list) of data that can be ordered -/
section
variable {X : Cx}
def rSortD (K : PySem.W.Frag) : List V → Hp → VK → Prop := fun vs H Q => ∃ (p : Addr) (bs : List (V × PyData)), vs = [.ref p] ∧ SqL K H p (bs.map (·.1)) ∧ (∀ b ∈ bs, Dp K H b.1 b.2) ∧ PySem.W.AllAlike (bs.map (·.2)) ∧ PySem.W.Sortable (bs.map (·.2)) ∧ bs.length ≤ sizeLine ∧ (∀ b ∈ bs, b.2.depth ≤ 50) ∧
  ∀ q, H q = none → Q (.ref q) (upd H q (.lst ((bs.mergeSort (PySem.W.dataLe false (·.2))).map (·.1))))
theorem each_of {R : Value → V × PyData → Prop} : ∀ {bs : List (V × PyData)} {us : List Value}, Vals (bs.map (·.1)) us → (∀ b ∈ bs, ∀ u, RelV b.1 u → R u b) → PySem.W.EachIs R us bs
  | [], _, r, _ => by cases r; exact .nil
  | b :: bs, _, r, h => by
    cases r with
    | cons a t => exact .cons (h b List.mem_cons_self _ a) (each_of t fun c hc => h c (List.mem_cons_of_mem _ hc))
theorem vals_each : ∀ {bs : List (V × PyData)} {us : List Value}, PySem.W.EachIs (fun u (b : V × PyData) => RelV b.1 u) us bs → Vals (bs.map (·.1)) us
  | _, _, .nil => .nil
  | _, _, .cons a t => .cons a (vals_each t)
theorem call_sortD {K : PySem.W.Frag} (hu : X.A.units + 64 < cLine) (hK : X.K = K := by rfl) : CallR X (.builtin "sorted") (rSortD K) := by
  subst hK
  intro pins s σ H xs us Q I r h
  obtain ⟨p, bs, rfl, hS, hD, al, so, hz, dp, q⟩ := h
  obtain ⟨u, rfl, ru⟩ := vals1 r
  cases (show u = Value.ref p from ru)
  obtain ⟨its, rv, hl, _⟩ := I.list hS
  refine PySem.W.sorted_data (R := fun u (b : V × PyData) => RelV b.1 u) (enc := fun b : V × PyData => b.2) (bs := bs) hl.isList (each_of rv fun b _ u ru => ru) (each_of rv fun b hb u ru => Dp.reads I b.2 b.1 u (hD b hb) ru) al so hz (fun b hb => by have := dp b hb; omega) fun out hlen ho => ?_
  obtain ⟨ep, he⟩ := PyProof.Rows.sortedAll_at s.heap its out.toArray
  have rv2 := vals_each ho
  exact ⟨.ref _, upd H (s.heap.objs.size + 1) (.lst ((bs.mergeSort (PySem.W.dataLe false (·.2))).map (·.1))), I.laid (t' := s.toks) (fun _ _ => PyProof.Rows.sortedAll_old) (Nat.le_succ _) ⟨by rw [List.length_map, List.length_mergeSort]; exact hz, out, ep, rv2, by simpa using he⟩, rfl, q _ (I.hok.fresh (Nat.le_succ _))⟩
end
end L2

namespace L2
open PySem PySem.Spec PyProof.Rows
/-! ### len(range(e)) -/
def tLenR (ta : TE) : TE := fun σ H Q => ta σ H fun x H1 => ∃ j : Int, x = .int j ∧ 0 ≤ j ∧ j < 2 ^ 62 ∧ Q (.int j) H1
theorem pe_lenR {X : Cx} {a : Expr} {ta : TE} {p p2 q pos : Pos} (hg : Gl X "len") (hm : X.mg "len" = none) (hg2 : Gl X "range") (hm2 : X.mg "range" = none) (ha : PE X a ta)
    (na : starEach [a] X.env = (false, eval a X.env) :: starEach [] X.env := by rfl) : PE X (.Call (.Name "len" p) [.Call (.Name "range" p2) [a] [] q] [] pos) (tLenR ta) := by
  refine ⟨fun pins s σ H Q I h => ?_⟩
  refine Call_ (ld_blt I hg hm boot_len ?_)
  refine PyProof.Rows.callWith_builtin1 (PyProof.Rows.args_cons ?_ rfl) rfl rfl
  refine Call_ (ld_blt I hg2 hm2 boot_range ?_)
  refine PyProof.Rows.callWith_type1 (PyProof.Rows.args_cons (thn (ha.run pins s σ H _ I h) fun v s1 ⟨x, H1, I1, r1, q1⟩ => PyProof.Rows.args_nil ?_) na) na rfl
  obtain ⟨j, rfl, h0, h1, q1⟩ := q1
  obtain ⟨t, rfl⟩ := r1
  refine call_range_1 (PyProof.Rows.args_nil ?_)
  refine call_len_range (n := j.toNat) (IsRange.new ..) ?_ (by omega) ?_
  · rw [rangeSize_one]
    split <;> omega
  · refine ⟨.int j, H1, ?_, ⟨_, by rw [Int.toNat_of_nonneg h0]⟩, q1⟩
    exact I1.kept fun b o e => Heap.get?_push_of_some _ e
end L2

namespace L2
open PySem PySem.Spec PyProof.Rows
/-! ### != of two objects with an own __eq__ and no own __ne__ -/
section
variable {M : Model} {A : Around} {E : Value → Shared → Prop} {s : Shared} {K : PySem.W.Frag} {x C : Addr} {ox : Obj} {od : Option Obj}
theorem ifBound_objNe {args : List Value} {Q : Option Value → Shared → Prop} (X : K.In s.heap) (I : PySem.W.InstAt s.heap x ox C od) (hs : PySem.W.findIn K (.ref C) "__ne__" = some (some (.builtin "object.__ne__")))
    (h : wpAny M A (call (.builtin "object.__ne__") (.ref x :: args)) (fun v => Q (some v)) E s) : wpAny M A (callSpecialIfBound? (.ref x) "__ne__" args) Q E s := by
  simp only [callSpecialIfBound?, bindSpecialIfBound?]
  refine wpAny_holding (wpAny_bind (wpAny_bind (wpAny_bind (I.type.here ((PySem.W.looks_findIn X hs).here ?_)))))
  refine wpAny_bind (wpAny_askSetting (wpAny_ite ?_))
  have fin : wpAny M A (call (.builtin "object.__ne__") ([.ref x] ++ args) >>= fun v => pure (some v)) Q E s := wpAny_bind (wpAny_mono h (fun v s' h' => wpAny_pure h') fun _ _ h' => h')
  split
  · exact wpAny_bind (wpAny_of_eq (F.cmp_object.ne.bind _) (wpAny_pure (by exact fin)))
  · exact wpAny_tryCatch (wpAny_bind (wpAny_of_eq (F.cmp_object.ne.bind _) (wpAny_pure (by exact fin))))
end
section
variable {X : Cx}
def rNeO (C : Addr) (sp : Sp) (E : XK) : V → V → Hp → VK → Prop := fun x y H Q => ∃ (a b dx dy : Addr) (fs gs : List (Str × V)), x = .ref a ∧ y = .ref b ∧ H a = some (.ins C dx fs) ∧ H b = some (.ins C dy gs) ∧
  sp [.ref a, .ref b] H (fun v H' => ∃ r : Bool, v = .bl r ∧ Q (.bl (!r)) H') E
theorem op_neO {CX : CXT} {n : Nat} {C f : Addr} {fd : FuncData} {ps : List Str} {ds : List Value} {sp : Sp} {E : XK} (hn : PySem.W.findIn X.K (.ref C) "__ne__" = some (some (.builtin "object.__ne__"))) (hm : PySem.W.mroIn X.K C (.type "object") = some true)
    (hs : PySem.W.findIn X.K (.ref C) "__eq__" = some (some (.ref f))) (hf : PySem.W.isFn X.K (.ref f) = true)
    (Fk : FnOk X.prog X.w X.K X.mg X.base CX n f fd ps sp) (hr : Room (n + 1) X.A) (hb : Binds X.K fd ps ds) (hd : Vals [] ds) (hx : Passes CX X E) : OpR X (compareOp .NotEq) (rNeO C sp E) := by
  cases hd
  intro pins s σ H x y v u Q I rx ry h
  obtain ⟨a, b, dx, dy, fs, gs, rfl, rfl, ha, hb', hsp⟩ := h
  cases rx
  cases ry
  obtain ⟨mA, J, _⟩ := ins_get I.hok ha
  obtain ⟨mB, J', _⟩ := ins_get I.hok hb'
  obtain ⟨od, J, _⟩ := J.look
  obtain ⟨od', J', _⟩ := J'.look
  have XK := I.kIn
  have hu := hr.units0
  show wpAny (model X.prog X.w) X.A (richCompare .NotEq (.ref a) (.ref b)) (EP X pins σ Q) X.xe s
  have one : wpAny (model X.prog X.w) X.A (tryCompare (.ref a) "__ne__" (.ref b)) (fun r s' => ∃ v, r = some v ∧ EP X pins σ Q v s') X.xe s := by
    unfold tryCompare
    refine wpAny_bind (ifBound_objNe XK J hn ?_)
    refine wpAny_call (codeAny_call_builtin PySem.F.cmp_object.ne.plain PySem.F.cmpEntry_ne (PySem.W.check_slot PySem.F.cmpKind_ne PySem.F.cmpSplit_ne (J.type.andThen (PySem.W.looks_mroIn XK hm)) (PySem.F.cmpArgs_ne _ _) ?_))
    unfold Builtin.«object.__ne__»
    refine wpAny_bind (m := slotArgs "__ne__" 1 _) (wpAny_pure ?_)
    dsimp only
    refine wpAny_bind (wpAny_cRoomFor hr.in1.units0 ?_)
    refine wpAny_bind (PySem.W.ifBound_K XK J hs hf ?_)
    refine wpAny_mono (own_run Fk hb hx (Sub.in1 ⟨hr, rfl⟩) I (show Vals [V.ref a, V.ref b] [Value.ref a, Value.ref b] from .cons rfl (.cons rfl .nil)) hsp) (fun v s' z => ?_) fun _ _ e => ?_
    · obtain ⟨x, H', I', rv, r, rfl, q⟩ := z
      cases rv
      refine wpAny_bind (wpAny_truthy_bool ?_)
      refine wpAny_pure ?_
      show wpAny (model X.prog X.w) X.A (pure (some (Value.bool !r))) _ _ s'
      exact wpAny_pure ⟨_, rfl, ⟨.bl (!r), H', I', rfl, q⟩⟩
    · exact e
  simp only [richCompare, oneThing_ref]
  refine wpAny_holding (wpAny_bind (wpAny_cRoomFor hu ?_))
  refine wpAny_bind (J.type.here (wpAny_bind (J'.type.here ?_)))
  split
  · rename_i q
    simp at q
  · refine wpAny_bind (wpAny_pure ?_)
    simp only [Bool.false_eq_true, if_false]
    refine wpAny_bind (wpAny_mono one (fun r s' z => ?_) fun _ _ e => e)
    obtain ⟨v, rfl, hq⟩ := z
    exact wpAny_pure hq
end
end L2

namespace L2
open PySem PySem.Spec PyProof.Rows
/-! ### == of an object with an own __eq__ and what is no object -/
/-- the built-in type of a value that is no object -/
def TyBI (K : PySem.W.Frag) (H : Hp) : V → String → Prop
  | .str _, t => t = "str"
  | .int _, t => t = "int"
  | .bl _, t => t = "bool"
  | .non, t => t = "NoneType"
  | .ref p, t => (t = "list" ∧ ∃ xs, SqL K H p xs) ∨ (t = "tuple" ∧ ∃ xs, SqT K H p xs)
  | _, _ => False
theorem sub_b {K : PySem.W.Frag} {C : Addr} {t : String} (h : t = "str" ∨ t = "int" ∨ t = "bool" ∨ t = "NoneType" ∨ t = "list" ∨ t = "tuple") : PySem.W.subIn K (.type t) (.ref C) = some false := by
  have e : ∀ t ∈ ["str", "int", "bool", "NoneType", "list", "tuple"], ∃ l : List String, fastBuiltinMro t = some (l.map Value.type) := by
    intro t ht
    simp only [List.mem_cons, List.not_mem_nil, or_false] at ht
    rcases ht with rfl | rfl | rfl | rfl | rfl | rfl
    · exact ⟨["str", "object"], by decide +kernel⟩
    · exact ⟨["int", "object"], by decide +kernel⟩
    · exact ⟨["bool", "int", "object"], by decide +kernel⟩
    · exact ⟨["NoneType", "object"], by decide +kernel⟩
    · exact ⟨["list", "object"], by decide +kernel⟩
    · exact ⟨["tuple", "object"], by decide +kernel⟩
  obtain ⟨l, hl⟩ := e t (by simpa using h)
  show (fastBuiltinMro t).map (·.contains (.ref C)) = some false
  rw [hl]
  show some ((l.map Value.type).contains (.ref C)) = some false
  congr 1
  rw [List.contains_eq_any_beq, List.any_map]
  exact List.any_eq_false.mpr fun x _ => by simp [Function.comp]
section
variable {X : Cx}
theorem look_b {pins : List (Addr × Obj)} {σ : St} {H : Hp} {s : Shared} {y : V} {u : Value} {t : String} (I : Inv X pins σ H s) (r : RelV y u) (h : TyBI X.K H y t) : (∀ s1 : Shared, (∀ b o, s.heap.get? b = some o → s1.heap.get? b = some o) → s1.TypeIs u t) ∧ (t = "str" ∨ t = "int" ∨ t = "bool" ∨ t = "NoneType" ∨ t = "list" ∨ t = "tuple") := by
  cases y with
  | str z =>
    obtain ⟨k, rfl⟩ := r
    cases (show t = "str" from h)
    exact ⟨fun _ _ => rfl, .inl rfl⟩
  | int z =>
    obtain ⟨k, rfl⟩ := r
    cases (show t = "int" from h)
    exact ⟨fun _ _ => rfl, .inr (.inl rfl)⟩
  | bl z =>
    cases r
    cases (show t = "bool" from h)
    exact ⟨fun _ _ => rfl, .inr (.inr (.inl rfl))⟩
  | non =>
    cases r
    cases (show t = "NoneType" from h)
    exact ⟨fun _ _ => rfl, .inr (.inr (.inr (.inl rfl)))⟩
  | ref p =>
    cases r
    rcases (show (t = "list" ∧ ∃ xs, SqL X.K H p xs) ∨ (t = "tuple" ∧ ∃ xs, SqT X.K H p xs) from h) with ⟨rfl, xs, hx⟩ | ⟨rfl, xs, hx⟩
    · obtain ⟨its, _, pl, _⟩ := I.list hx
      obtain ⟨o, ho, hc, _⟩ := pl.isList
      exact ⟨fun _ k => ⟨o, k _ _ ho, hc⟩, by simp⟩
    · obtain ⟨its, _, pl, _⟩ := I.tuple hx
      obtain ⟨o, ho, hc, _⟩ := pl
      exact ⟨fun _ k => ⟨o, k _ _ ho, hc⟩, by simp⟩
  | _ => exact (show False from h).elim
/-- o == y, y no object -/
def rEqOB (K : PySem.W.Frag) (C : Addr) (sp : Sp) (E : XK) : V → V → Hp → VK → Prop := fun x y H Q => ∃ (a dx : Addr) (fs : List (Str × V)) (t : String), x = .ref a ∧ H a = some (.ins C dx fs) ∧ TyBI K H y t ∧
  sp [.ref a, y] H (fun v H' => ∃ r : Bool, v = .bl r ∧ Q (.bl r) H') E
theorem op_eqOB {K : PySem.W.Frag} {CX : CXT} {n : Nat} {C f : Addr} {fd : FuncData} {ps : List Str} {ds : List Value} {sp : Sp} {E : XK} (hs : PySem.W.findIn X.K (.ref C) "__eq__" = some (some (.ref f))) (hf : PySem.W.isFn X.K (.ref f) = true)
    (F : FnOk X.prog X.w X.K X.mg X.base CX n f fd ps sp) (hr : Room n X.A) (hb : Binds X.K fd ps ds) (hd : Vals [] ds) (hx : Passes CX X E) (hK : X.K = K := by rfl) : OpR X (compareOp .Eq) (rEqOB K C sp E) := by
  subst hK
  cases hd
  intro pins s σ H x y v u Q I rx ry h
  obtain ⟨a, dx, fs, t, rfl, ha, ty, hsp⟩ := h
  cases rx
  obtain ⟨mA, J, _⟩ := ins_get I.hok ha
  obtain ⟨od, J, _⟩ := J.look
  obtain ⟨hT, ht⟩ := look_b I ry ty
  obtain ⟨m, hF⟩ := I.fr
  show wpAny (model X.prog X.w) X.A (richCompare .Eq (.ref a) u) (EP X pins σ Q) X.xe s
  have hL : PySem.W.Looks (model X.prog X.w) s.heap (typeOf u) (.type t) := by
    exact fun A Q E s1 k q => wpAny_typeOf (hT s1 k) q
  refine PySem.W.cmp_K (op := .Eq) (tb := .type t) hr.units0 hF I.ok.mod.kin J hL (by simp [PySem.W.notFirst, sub_b ht]) hs hf ?_
  refine wpAny_mono (own_run F hb hx ⟨hr, rfl⟩ I (show Vals [V.ref a, y] [Value.ref a, u] from .cons rfl (.cons ry .nil)) hsp) (fun v s' z => ?_) fun _ _ e => e
  obtain ⟨x, H', I', rv, r, rfl, q⟩ := z
  cases rv
  exact ⟨.bl r, H', I', rfl, q⟩
end
end L2

namespace L2
open PySem PySem.Spec PyProof.Rows
/-! ### str(x) by an own __str__ -/
section
variable {X : Cx}
def rStrO (C : Addr) (sp : Sp) (E : XK) : List V → Hp → VK → Prop := fun vs H Q => ∃ (a dx : Addr) (fs : List (Str × V)), vs = [.ref a] ∧ H a = some (.ins C dx fs) ∧
  sp [.ref a] H (fun v H' => ∃ z : Str, v = .str z ∧ Q (.str z) H') E
theorem call_strO {CX : CXT} {n : Nat} {C f : Addr} {fd : FuncData} {ps : List Str} {ds : List Value} {sp : Sp} {E : XK} (hs : PySem.W.findIn X.K (.ref C) "__str__" = some (some (.ref f))) (hf : PySem.W.isFn X.K (.ref f) = true)
    (F : FnOk X.prog X.w X.K X.mg X.base CX n f fd ps sp) (hr : Room (n + 2) X.A) (hb : Binds X.K fd ps ds) (hd : Vals [] ds) (hx : Passes CX X E) : CallR X (.type "str") (rStrO C sp E) := by
  cases hd
  intro pins s σ H xs us Q I r h
  obtain ⟨a, dx, fs, rfl, ha, hsp⟩ := h
  obtain ⟨u, rfl, ru⟩ := vals1 r
  cases (show u = Value.ref a from ru)
  obtain ⟨mA, J, _⟩ := ins_get I.hok ha
  obtain ⟨od, J, _⟩ := J.look
  refine PySem.W.kso_call (hr.in1 (k := n + 1)).in1.units0 I.kIn J hs hf ?_
  refine wpAny_mono (own_run F hb hx (Sub.in1 (Sub.in1 ⟨hr, rfl⟩)) I (show Vals [V.ref a] [Value.ref a] from .cons rfl .nil) hsp) (fun v s' z => ?_) fun _ _ e => e
  obtain ⟨x, H', I', rx, z, rfl, q⟩ := z
  obtain ⟨t, rfl⟩ := rx
  exact ⟨.str z, H', I', ⟨t, rfl⟩, q⟩
end
end L2

namespace L2
open PySem PySem.Spec PyProof.Rows
/-! ### e.f, over a fixed written part; != of lists whose items are the same; repr of any data -/
section
variable {X : Cx} {K : PySem.W.Frag}
theorem pe_fldK {e : Expr} {f : Str} {pos : Pos} {ta : TE} (he : PE X e ta) (hb : attributeBase e f X.env (eval e X.env) = eval e X.env) (hK : X.K = K := by rfl) : PE X (.Attribute e f pos) (tFld K ta f) := hK ▸ pe_fld he hb
/-- xs != ys, item by item the same -/
def SelfV : V → Bool
  | .ref _ => true
  | v => flatB v
def rNeS (K : PySem.W.Frag) : R2 := fun x y H Q => ∃ a b xs, x = .ref a ∧ y = .ref b ∧ SqL K H a xs ∧ SqL K H b xs ∧ xs.all SelfV = true ∧ Q (.bl false) H
theorem self_eq {A : Around} {s : Shared} {x : V} {v u : Value} (h : SelfV x = true) (rx : RelV x v) (ry : RelV x u) : SeqAt.EqAt A s v u true := by
  cases x with
  | ref a =>
    cases (show v = Value.ref a from rx)
    cases (show u = Value.ref a from ry)
    exact SeqAt.EqAt.same _
  | _ => exact eqAt_same rx ry h
theorem op_neS (hu64 : X.A.units + 64 < cLine) (hK : X.K = K := by rfl) : OpR X (compareOp .NotEq) (rNeS K) := by
  have hu : X.A.units < cLine := by omega
  subst hK
  intro pins s σ H x y v u Q I rx ry h
  obtain ⟨a, b, xs, rfl, rfl, ha, hb, hs, q⟩ := h
  cases (show v = Value.ref a from rx)
  cases (show u = Value.ref b from ry)
  obtain ⟨us, r1, p1, _⟩ := I.list ha
  obtain ⟨ws, r2, p2, _⟩ := I.list hb
  have hsz : us.toArray.size = ws.toArray.size := by rw [List.size_toArray, List.size_toArray, ← r1.length, ← r2.length]
  have key := SeqAt.RcNeAt.lists (A := X.A) (e := fun _ => true) p1.isList p2.isList hsz hu fun j h1 h2 => ?_
  · refine key _ _ _ _ ?_
    rw [show ((List.range us.toArray.size).all fun _ => true) = true from List.all_eq_true.mpr fun _ _ => rfl]
    exact ⟨.bl false, H, I, rfl, q⟩
  · have hj : j < xs.length := by
      have := r1.length
      simp only [List.size_toArray] at h1
      omega
    obtain ⟨u1, e1, x1⟩ := r1.get (i := j) (x := xs[j]) (List.getElem?_eq_getElem hj)
    obtain ⟨u2, e2, x2⟩ := r2.get (i := j) (x := xs[j]) (List.getElem?_eq_getElem hj)
    have f1 : us.toArray[j] = u1 := by
      have := (List.getElem?_eq_some_iff.mp e1).2
      simpa using this
    have f2 : ws.toArray[j] = u2 := by
      have := (List.getElem?_eq_some_iff.mp e2).2
      simpa using this
    rw [f1, f2]
    exact self_eq (List.all_eq_true.mp hs _ (List.getElem_mem hj)) x1 x2
end
end L2

namespace L2
open PySem PySem.Spec PyProof.Rows
/-! ### min of a tuple of whole numbers -/
section
variable {prog : Program} {w : World} {A : Around} {E : Value → Shared → Prop} {s : Shared} {l : Addr} {its : List Value} {ns : List Int} {Q : Value → Shared → Prop}
theorem minT_raw (hh : A.handled = none) (hl : s.heap.IsTuple l its.toArray) (hi : IntsAre its ns) (hne : 0 < ns.length)
    (h : ∀ h' tk M t', (∀ b o, s.heap.get? b = some o → h'.get? b = some o) → M ∈ ns → (∀ a, a ∈ ns → M ≤ a) → Q (.int M t') { s with heap := h', toks := tk }) : wpAny (model prog w) A (call (.builtin "min") [.ref l]) Q E s := by
  obtain ⟨xs, e⟩ := hi.allInts.items
  have hn : numsOf (intItems xs).toList = ns := by rw [← e]; exact hi.numsOf
  rw [nums_intItems] at hn
  subst hn
  rw [e] at hl
  have hsz : 0 < xs.size := by simpa using hne
  have hlt : l < s.heap.objs.size := by obtain ⟨_, e, _⟩ := hl; exact Heap.lt_size e
  refine call_min_walk (wpAny_pyIter_tuple hl ?_)
  refine ⟨_, [_, l], [_], _, _, _, _, rfl, Walks.tuple (A := A.in1) hh _ l (Nat.ne_of_lt hlt) (intItems xs), ⟨⟨_, Heap.get?_push_size _ rfl, rfl, rfl⟩, hl.push _⟩, fun b hb => ?_, by simpa [intItems] using hsz, CmpOf.ints_lt (numAt xs) (fun _ _ => intItems_at), fun v h' tk hv hk => ?_⟩
  · show b < (s.heap.push _).objs.size
    rw [Heap.size_push]
    rcases List.mem_cons.mp hb with rfl | hb
    · exact Nat.lt_succ_self _
    · rw [List.mem_singleton.mp hb]
      exact Nat.lt_succ_of_lt hlt
  · obtain ⟨t, rfl⟩ := intItems_at hv
    have e2 : (intItems xs).size - 1 = xs.size - 1 := by simp [intItems]
    rw [e2] at *
    obtain ⟨h1, h2⟩ := argBest_lt (numAt xs) (xs.size - 1)
    refine h h' tk _ t (fun b o e => hk b o (fun hm => ?_) (Heap.get?_push_of_some _ e)) ?_ fun a ha => ?_
    · exact absurd (List.mem_singleton.mp hm ▸ Heap.lt_size e) (Nat.lt_irrefl _)
    · rw [numAt_eq]; exact PySem.getD_mem (by rw [List.length_map, Array.length_toList]; omega)
    · obtain ⟨j, hj, rfl⟩ := mem_getD ha
      rw [List.length_map, Array.length_toList] at hj
      rw [← numAt_eq]; exact h2 j (by omega)
end
/-! ### dicts of the module; a def out of one; two defs that a name may hold -/
/-- a module's dict of texts: what it is -/
structure KDt (K : PySem.W.Frag) (w : World) (mg : Str → Option Value) (x : Str) (d : Addr) : Prop where
  mg : mg x = some (.ref d)
  kd : ∃ es n, KDict K w d es n
section
variable {X : Cx} {K : PySem.W.Frag} {w : World}
def rMinT (K : PySem.W.Frag) : List V → Hp → VK → Prop := fun vs H Q => ∃ (a : Addr) (ns : List Int), vs = [V.ref a] ∧ SqT K H a (ns.map V.int) ∧ 0 < ns.length ∧ ∀ m, m ∈ ns → (∀ y, y ∈ ns → m ≤ y) → Q (.int m) H
theorem cr_minT (hc : X.calm = true) (hK : X.K = K := by rfl) : CallR X (.builtin "min") (rMinT K) := by
  subst hK
  intro pins s σ H vs us Q I r h
  obtain ⟨a, ns, rfl, hs, hne, q⟩ := h
  obtain ⟨its, rv, hl, _⟩ := I.tuple hs
  rw [Vals.ref1 r]
  exact minT_raw (I.ok.hd hc) hl rv.ints hne fun h' tk m t' hk h1 h2 => ⟨.int _, H, I.kept hk, ⟨_, rfl⟩, q m h1 h2⟩
def rKIn (K : PySem.W.Frag) (neg : Bool) : R2 := fun x y H Q => ∃ (z : Str) (d : Addr) (r : Option Value), x = .str z ∧ y = .ref d ∧ PySem.W.nsIn K d z = some r ∧ Q (.bl (if neg then !r.isSome else r.isSome)) H
theorem op_kIn {d : Addr} {mg : Str → Option Value} {nm : Str} (D : KDt K w mg nm d) (hK : X.K = K := by rfl) (hw : X.w = w := by rfl) : OpR X (compareOp .In) (fun x y H Q => y = .ref d ∧ rKIn K false x y H Q) := by
  subst hK hw
  obtain ⟨es, n, D⟩ := D.kd
  intro pins s σ H x y v u Q I rx ry h
  obtain ⟨rfl, z, d', r, rfl, e0, e, q⟩ := h
  cases e0
  exact op_in_kd D pins s σ H _ _ v u Q I rx ry ⟨z, r, rfl, rfl, e, q⟩
theorem op_kNotIn {d : Addr} {mg : Str → Option Value} {nm : Str} (D : KDt K w mg nm d) (hK : X.K = K := by rfl) (hw : X.w = w := by rfl) : OpR X (compareOp .NotIn) (fun x y H Q => y = .ref d ∧ rKIn K true x y H Q) := by
  subst hK hw
  obtain ⟨es, n, D⟩ := D.kd
  intro pins s σ H x y v u Q I rx ry h
  obtain ⟨rfl, z, d', r, rfl, e0, e, q⟩ := h
  cases e0
  exact op_notIn_kd D pins s σ H _ _ v u Q I rx ry ⟨z, r, rfl, rfl, e, q⟩
def rKIx (K : PySem.W.Frag) (w : World) (d : Addr) : R2 := fun x y H Q => ∃ z u v, x = .ref d ∧ y = .str z ∧ PySem.W.nsIn K d z = some (some u) ∧ RelV v u ∧ Q v H
theorem ix_k {d : Addr} {mg : Str → Option Value} {nm : Str} (D : KDt K w mg nm d) (hK : X.K = K := by rfl) (hw : X.w = w := by rfl) : IxR X (rKIx K w d) := by
  subst hK hw
  obtain ⟨es, n, D⟩ := D.kd
  intro value slice pins s σ H x y v u Q I rx ry h hs
  obtain ⟨z, u0, v0, rfl, rfl, e, r, q⟩ := h
  exact ix_kdict value slice pins s σ H _ _ v u Q I rx ry ⟨d, z, v0, rfl, rfl, ⟨es, n, u0, D.at_, D.lit, e, r⟩, q⟩ hs
/-- f(e, ..), f a local that holds one of two defs -/
def tCall2 (i : Nat) (f g : Addr) (sp sq : Sp) (E : XK) (t : TA) : TE := fun σ H Q => tCallL i f sp [] E t σ H Q ∨ tCallL i g sq [] E t σ H Q
theorem pe_call2 {CX : CXT} {k i : Nat} {f g : Addr} {fd gd : FuncData} {ps qs : List Str} {sp sq : Sp} {ds es' : List Value} {E : XK} {x : Str} {p pos : Pos} {e : Expr} {es : List Expr} {t : TA}
    (F : FnOk X.prog X.w X.K X.mg X.base CX k f fd ps sp) (G : FnOk X.prog X.w X.K X.mg X.base CX k g gd qs sq) (hr : Room k X.A) (hN : X.N[i]? = some x) (hv : Vis X.env.scope x) (hk : PySem.W.keepIn X.K (.ref f) = true) (hk2 : PySem.W.keepIn X.K (.ref g) = true) (hb : Binds X.K fd ps ds) (hb2 : Binds X.K gd qs es') (hd : Vals [] ds) (hd2 : Vals [] es') (hx : Passes CX X E) (ha : PA X (e :: es) t)
    (hdb : (x == ("__debug__" : Str)) = false := by decide) (hcd : (x == ("__classdict__" : Str)) = false := by decide)
    (he : starEach (e :: es) X.env = (false, eval e X.env) :: starEach es X.env := by rfl) (hpl : (backTo pos (starEach es X.env)).any (·.1) = false := by rfl) : PE X (.Call (.Name x p) (e :: es) [] pos) (tCall2 i f g sp sq E t) := by
  refine ⟨fun pins s σ H Q I h => ?_⟩
  rcases h with h | h
  · exact (pe_callL F hr hN hv hk hb hd hx ha hdb hcd he hpl).run pins s σ H Q I h
  · exact (pe_callL G hr hN hv hk2 hb2 hd2 hx ha hdb hcd he hpl).run pins s σ H Q I h
theorem Room.units65 {k : Nat} {A : Around} (r : Room k A) : A.units + 65 < cLine := by have := r.un; omega
theorem op_catTK (hK : X.K = K := by rfl) : OpR X (binaryOp .Add) (rCatT K) := hK ▸ op_catT
theorem op_inDK (hu : X.A.units + 65 < cLine) (hK : X.K = K := by rfl) : OpR X (compareOp .In) (rInD K) := hK ▸ op_inD hu
theorem op_notInDK (hu : X.A.units + 65 < cLine) (hK : X.K = K := by rfl) : OpR X (compareOp .NotIn) (rNotInD K) := hK ▸ op_notInD hu
end
/-! ### a tuple that isn't empty, times 0 or 1 -/
theorem tuple_mul0 (l : Addr) (items : Array Value) (n : Nat) (dd : Option Addr) (sl : Array (Option Value)) (u : Tok) (hi : items.isEmpty = false) :
    Meets (Builtin.«tuple.__mul__» ⟨[.ref l, .int 0 u], []⟩) (fun _ R s => s.heap.get? l = some { cls := .type "tuple", dict := dd, data := .seq items n, slots := sl } ∧
      R (.ok (.ret (Value.ref s.heap.objs.size))) { s with heap := s.heap.push { cls := Value.type "tuple", data := Data.seq #[] }, toks := s.toks }) :=
  .of_wp fun prog w A R s h => by
    obtain ⟨hp, g, d, tk, os⟩ := s
    obtain ⟨hl, h⟩ := h
    have f1 := AutoSeq1.idx_int
    wp_walk using wpAny_loadPart' hl
    exact ⟨_, rfl, h⟩
theorem tuple_mul1 (l : Addr) (items : Array Value) (n : Nat) (dd : Option Addr) (sl : Array (Option Value)) (u : Tok) :
    Meets (Builtin.«tuple.__mul__» ⟨[.ref l, .int 1 u], []⟩) (fun _ R s => s.heap.get? l = some { cls := .type "tuple", dict := dd, data := .seq items n, slots := sl } ∧ R (.ok (.ret (Value.ref l))) s) :=
  .of_wp fun prog w A R s h => by
    obtain ⟨hp, g, d, tk, os⟩ := s
    obtain ⟨hl, h⟩ := h
    have f1 := AutoSeq1.idx_int
    wp_walk using wpAny_loadPart' hl
    exact ⟨_, rfl, h⟩
def rRep01 (K : PySem.W.Frag) : R2 := fun x y H Q => ∃ l k xs, x = .ref l ∧ y = .int k ∧ SqT K H l xs ∧ xs ≠ [] ∧ ((k = 0 ∧ ∀ p, H p = none → Q (.ref p) (upd H p (.tup []))) ∨ (k = 1 ∧ Q (.ref l) H))
theorem op_rep01 {X : Cx} {K : PySem.W.Frag} (hK : X.K = K := by rfl) : OpR X (binaryOp .Mult) (rRep01 K) := by
  subst hK
  intro pins s σ H x y v u Q I rx ry h
  obtain ⟨l, k, xs, rfl, rfl, hT, hne, q⟩ := h
  cases rx
  obtain ⟨t, rfl⟩ := ry
  obtain ⟨its, r, ⟨⟨cls, dd, data, sl⟩, ho, hc, n, hd⟩, hs⟩ := I.tuple hT
  simp only at hc hd
  subst hc hd
  have hi : its.toArray.isEmpty = false := by
    cases its with
    | nil => exact absurd (List.eq_nil_of_length_eq_zero r.length) hne
    | cons a b => rfl
  rcases q with ⟨rfl, q⟩ | ⟨rfl, q⟩
  · refine wpAny_binaryOp_repeat_ref (T := "tuple") (U := "int") (by decide) ⟨_, ho, rfl⟩ (fun s' => typeIs_int s' 0 t) noFill_tuple_mul F.fills_int_mul F.slot_int_rmul repeat_tuple F.slot_int_index.lookup
      (call_meets F.slot_int_rmul (typeIs_int s 0 t) F.entry_int_rmul (F.args_int_rmul_2 _ _) (int_rmul_tuple 0 t l its.toArray n dd sl)
        ⟨ho, rfl, ⟨_, ho, rfl⟩, call_meets F.slot_tuple_mul ⟨_, ho, rfl⟩ F.entry_tuple_mul (F.args_tuple_mul_2 _ _) (tuple_mul0 l its.toArray n dd sl t hi) ⟨ho, ?_⟩⟩)
    refine ⟨.ref s.heap.objs.size, _, I.laid (t' := s.toks) (o := .tup []) (fun b ob q => Heap.get?_push_of_some _ q) (Nat.le_refl _) ?_, rfl, q _ (I.hok.fresh (Nat.le_refl _))⟩
    exact ⟨Nat.zero_le _, [], .nil, ⟨_, Heap.get?_push_size _ rfl, rfl, _, rfl⟩⟩
  · refine wpAny_binaryOp_repeat_ref (T := "tuple") (U := "int") (by decide) ⟨_, ho, rfl⟩ (fun s' => typeIs_int s' 1 t) noFill_tuple_mul F.fills_int_mul F.slot_int_rmul repeat_tuple F.slot_int_index.lookup
      (call_meets F.slot_int_rmul (typeIs_int s 1 t) F.entry_int_rmul (F.args_int_rmul_2 _ _) (int_rmul_tuple 1 t l its.toArray n dd sl)
        ⟨ho, rfl, ⟨_, ho, rfl⟩, call_meets F.slot_tuple_mul ⟨_, ho, rfl⟩ F.entry_tuple_mul (F.args_tuple_mul_2 _ _) (tuple_mul1 l its.toArray n dd sl t) ⟨ho, ?_⟩⟩)
    exact ⟨.ref l, H, I, rfl, q⟩
end L2
namespace HT
open PySem PyProof.Rows
open PySem.SeqAt
open PySem.MeetsSeq PySem.MeetsSeq2 PySem.MeetsSeq3
section
variable {prog : Program} {w : World} {A : Around} {E : Value → Shared → Prop} {s : Shared}
/-- the whole of a tuple, sliced, is that tuple -/
theorem tup_whole {t sl : Addr} {items : Array Value} {vl vu : Value} {lo hi : Option Int} {Q : Value → Shared → Prop} (h1 : IsTup s.heap t items) (h2 : s.heap.IsSliceOf sl vl vu .none) (h3 : IsPart vl lo) (h4 : IsPart vu hi)
    (z1 : sIx items.size 0 lo = 0) (z2 : sIx items.size items.size hi = items.size) (q : Q (.ref t) s) : wpAny (model prog w) A (getItem (.ref t) (.ref sl)) Q E s := by
  have tS : s.TypeIs (.ref sl) "slice" := let ⟨o, a, b, _⟩ := id h2; ⟨o, a, b⟩
  unfold getItem
  try (with_reducible refine wpAny_holding ?_)
  first | (refine wpAny_bind (wpAny_pure ?_)) | skip
  refine wpAny_bind (wpAny_sequenceKey (h1.typeIs) (by decide) ?_)
  refine wpAny_bind (wpAny_callSpecial?_slot (name := Str.ofString "__getitem__") (h1.typeIs) PyProof.Rows.slot_tuple_getitem (wpAny_call_entry PyProof.Rows.slot_tuple_getitem (h1.typeIs) entry_tuple_getitem ?_ (args_tuple_getitem _ _)))
  show wpAny _ _ ((Builtin.Tuple.tupleItemsOf (.ref t)) >>= _) _ _ s
  refine wpAny_bind (tupleItemsOf_ (h1) ?_)
  refine wpAny_bind (wpAny_typeOf (tS) ?_)
  rw [if_pos (by decide)]
  refine wpAny_bind (sliceApplied_gen (h2) h3 h4 ?_)
  have yes : (((sIx items.size 0 lo : Nat) : Int) == 0 && (1 : Int) == 1 && (sIx items.size items.size hi - sIx items.size 0 lo) == items.size) = true := by
    rw [z1, z2]
    simp
  show wpAny _ _ (if (_ : Bool) = true then _ else _) _ _ s
  rw [if_pos (yes)]
  refine wpAny_bind (m := Builtin.Tuple.tupleIsExact _) ?_
  unfold Builtin.Tuple.tupleIsExact
  first
    | refine wpAny_bind (wpAny_typeOf (h1.typeIs) (wpAny_pure ?_))
    | (wp_walk; skip)
  rw [if_pos (by decide)]
  exact wpAny_bind (wpAny_rule (wpAny_pure ⟨_, rfl, wpAny_pure q⟩))
end
end HT
namespace L2
open PySem PySem.Spec PyProof.Rows
/-- a tuple's slice, the whole too -/
def rSlA (K : PySem.W.Frag) : V → Option Int → Option Int → Hp → VK → Prop := fun x lo hi H Q => ∃ a xs, x = .ref a ∧ SqT K H a xs ∧ ((HT.sIx xs.length 0 lo = 0 ∧ HT.sIx xs.length xs.length hi = xs.length ∧ Q (.ref a) H) ∨
  (¬ (HT.sIx xs.length 0 lo = 0 ∧ HT.sIx xs.length xs.length hi = xs.length) ∧ ∀ p, H p = none → Q (.ref p) (upd H p (.tup (cutV xs lo hi)))))
theorem sl_tupA {X : Cx} {K : PySem.W.Frag} (hK : X.K = K := by rfl) : SlR X (rSlA K) := by
  subst hK
  intro pins s σ H x v vl vu lo hi sl Q I rx hs pl pu h
  obtain ⟨a, xs, rfl, hx, h⟩ := h
  rcases h with ⟨z1, z2, q⟩ | ⟨hw, q⟩
  · cases rx
    obtain ⟨its, r, ht, hz⟩ := I.tuple hx
    have hlen : its.toArray.size = xs.length := (List.size_toArray ..).trans r.length.symm
    refine ⟨"tuple", _, PyProof.Rows.slot_tuple_getitem.lookup, ht.typeIs, ?_⟩
    exact HT.tup_whole ht hs pl pu (by rw [hlen]; exact z1) (by rw [hlen]; exact z2) ⟨.ref a, H, I, rfl, q⟩
  · exact sl_tup pins s σ H _ v vl vu lo hi sl Q I rx hs pl pu ⟨a, xs, rfl, hx, hw, q⟩
end L2

/-! ### nothing + a tuple -/
namespace L2
open PySem PySem.Spec PyProof.Rows HT
section
variable {X : Cx} {K : PySem.W.Frag}
def rCatE (K : PySem.W.Frag) : R2 := fun x y H Q => (∃ a b ys, x = .ref a ∧ y = .ref b ∧ SqT K H a [] ∧ SqT K H b ys ∧ Q (.ref b) H) ∨ rCatT K x y H Q
theorem op_catE (hK : X.K = K := by rfl) : OpR X (binaryOp .Add) (rCatE K) := by
  subst hK
  intro pins s σ H x y v u Q I rx ry h
  rcases h with ⟨a, b, ys, rfl, rfl, ha, hb, q⟩ | h
  rotate_left
  · exact op_catT pins s σ H x y v u Q I rx ry h
  cases rx
  cases ry
  obtain ⟨its, r, p, _⟩ := I.tuple ha
  obtain ⟨jts, _, pb, _⟩ := I.tuple hb
  cases r
  obtain ⟨⟨c1, d1, e1, l1⟩, o1, k1, n1, z1⟩ := id p
  obtain ⟨⟨c2, d2, e2, l2⟩, o2, k2, n2, z2⟩ := id pb
  simp only at k1 z1 k2 z2
  subst k1 z1 k2 z2
  exact concat_meets ⟨_, o1, rfl⟩ ⟨_, o2, rfl⟩ noFill_tuple_add seq_tuple_add PySem.F.slot_tuple_add PySem.F.entry_tuple_add (PySem.F.args_tuple_add_2 _ _)
    (tuple_addW0 a b ([] : List Value).toArray jts.toArray n1 n2 d1 d2 l1 l2 (by simp)) ⟨o1, o2, ⟨.ref b, H, I, rfl, q⟩⟩
end
end L2

/-! ### xs[a:b] = ys as a statement's target -/
namespace L2
open PySem PySem.Spec PyProof.Rows
section
variable {X : Cx} {o : Expr} {lo hi : Option Expr} {p2 pos : Pos}
def gSl (to : TE) (tl th : TO) : TG := fun v σ H Q => to σ H fun x H1 => tl σ H1 fun l H2 => th σ H2 fun u H3 => ∃ (d b : Addr) (xs ys : List V) (a c : Int), x = .ref d ∧ v = .ref b ∧ l = some a ∧ u = some c ∧ H3 d = some (.lst xs) ∧ H3 b = some (.lst ys) ∧ d ≠ b ∧
  0 ≤ a ∧ a ≤ c ∧ c ≤ xs.length ∧ xs.length + ys.length ≤ sizeLine ∧ Q σ (upd H3 d (.lst (xs.take a.toNat ++ ys ++ xs.drop c.toNat)))
theorem pg_slset {to : TE} {tl th : TO} (ho : PE X o to) (hl : PO X lo tl) (hu : PO X hi th)
    (ha : ∀ v, assign (.Subscript o (.Slice lo hi none p2) pos) X.env v = (do
      let ov ← holding [v] (eval o X.env)
      let iv ← holding [v, ov] (eval (.Slice lo hi none p2) X.env)
      standAt pos
      holding [v, ov, iv] (setItem ov iv v)
      release [iv, v, ov] []) := by intro _; rfl) : PG X (.Subscript o (.Slice lo hi none p2) pos) (gSl to tl th) := by
  refine ⟨fun pins s σ H v u Q I r h => ?_⟩
  rw [ha]
  refine wpAny_bind (wpAny_holding (thn (ho.run pins s σ H _ I h) fun ov s1 ⟨x, H1, I1, r1, q1⟩ => ?_))
  refine wpAny_bind (wpAny_holding ?_)
  refine wpAny_Slice (thn (hl.run pins s1 σ H1 _ I1 q1) fun vl s2 ⟨l, H2, I2, pl, q2⟩ => thn (hu.run pins s2 σ H2 _ I2 q2) fun vu s3 ⟨w, H3, I3, pu, q3⟩ => ?_)
  rw [evalPart_none]
  refine wpAny_pure ?_
  obtain ⟨d, b, xs, ys, a, c, rfl, rfl, rfl, rfl, hd, hb, hne, h0, hac, hc, hz, q⟩ := q3
  have I4 : Inv X pins σ H3 { s3 with heap := s3.heap.push { cls := .type "slice", data := .fields #[vl, vu, .none] } } := I3.kept (t' := s3.toks) fun b ob q => Heap.get?_push_of_some _ q
  cases r
  cases r1
  refine wpAny_bind (wpAny_standAt (wpAny_bind (wpAny_holding ?_)))
  have ra : RelV (.int a) vl := by
    cases pl
    exact ⟨_, rfl⟩
  have rc : RelV (.int c) vu := by
    cases pu
    exact ⟨_, rfl⟩
  exact set_slice I4 hd hb hne (Heap.IsSliceOf.new ..) ra rc h0 hac hc hz fun s' I' => wpAny_release ⟨σ, _, I', q⟩
end
end L2

namespace L2
open PySem PySem.Spec PyProof.Rows
/-! ### tuple(x), x a list or a tuple -/
theorem call_tupleA {X : Cx} {K : PySem.W.Frag} (hK : X.K = K := by rfl) : CallR X (.type "tuple") (fun xs H Q => rTupL K xs H Q ∨ ∃ a ys, xs = [.ref a] ∧ SqT K H a ys ∧ Q (.ref a) H) := CallR.or (call_tupleL hK) (hK ▸ call_tupleT)
end L2

namespace Toy
open PySem L2

def top (i : Nat) : Stmt := PySem.Challenge.pw_undotrees_k28_whole_a_chain_or_a_world.main.body.getD i (.Pass ⟨0, 0, 0, 0⟩)
abbrev s_law_pool : Stmt := top 59
abbrev s_law_take : Stmt := top 60
abbrev s_law_turned : Stmt := top 61
abbrev s_law_row : Stmt := top 62
abbrev s_law_other : Stmt := top 63
abbrev s_is_row_within : Stmt := top 15
abbrev s_is_row : Stmt := top 16
abbrev s_look_at_row : Stmt := top 17
abbrev s_contrary_sign : Stmt := top 18
abbrev s_made_plain : Stmt := top 20
abbrev s_is_plain_row : Stmt := top 40
abbrev s_first_wrong : Stmt := top 41
abbrev s_rank : Stmt := top 21
abbrev s_Walk___init__ : Stmt := inClass (top 44) 0
abbrev s_gone : Stmt := top 43
abbrev s_walk_of : Stmt := top 45
abbrev s_Walk___eq__ : Stmt := inClass (top 44) 7
abbrev s_same : Stmt := top 47
abbrev s_Canon___init__ : Stmt := inClass (top 53) 0
abbrev s_Canon_at_leaf : Stmt := inClass (top 53) 1
abbrev s_Canon_swap : Stmt := inClass (top 53) 2
abbrev s_Canon_to_end : Stmt := inClass (top 53) 3
abbrev s_Canon_to_order : Stmt := inClass (top 53) 4
abbrev s_Canon_fall : Stmt := inClass (top 53) 6
abbrev s_Canon_grow : Stmt := inClass (top 53) 5
abbrev s_Canon_go_on : Stmt := inClass (top 53) 7
abbrev s_canon_steps : Stmt := top 54
abbrev s_back_step : Stmt := top 55
abbrev s_chain : Stmt := top 56
abbrev s_Walk_places : Stmt := inClass (top 44) 1
abbrev s_all_within : Stmt := top 48
abbrev s_is_whole : Stmt := top 14
abbrev s_World___init__ : Stmt := inClass (top 37) 0
abbrev s_World_look_at_deed : Stmt := inClass (top 37) 2
abbrev s_World_look_at_thing : Stmt := inClass (top 37) 1
abbrev s_World_lay : Stmt := inClass (top 37) 4
abbrev s_Walk_world : Stmt := inClass (top 44) 5
abbrev s_unlike : Stmt := top 49
abbrev s_World___len__ : Stmt := inClass (top 37) 12
abbrev s_World_led_on : Stmt := inClass (top 37) 7
abbrev s_World_led : Stmt := inClass (top 37) 8
abbrev s_tells_unlike : Stmt := top 50
abbrev s_is_long_row : Stmt := top 24
abbrev s_look_at_long_row : Stmt := top 25
abbrev s_part_of : Stmt := top 26
abbrev s_turned : Stmt := top 19
abbrev s_less_of : Stmt := top 27
abbrev s_more_of : Stmt := top 28
abbrev s_is_formed : Stmt := top 32
abbrev s_past_of : Stmt := top 29
abbrev s_done : Stmt := top 33
abbrev s_NoStep___init__ : Stmt := inClass (top 8) 0
abbrev s_led_on : Stmt := top 34
abbrev s_is_chain : Stmt := top 57
abbrev s_law_back : Stmt := top 64
abbrev s_law : Stmt := top 65
open RowM (sgns con ix Row)
open TL
/-- the reading, as far as it goes by itself -/
local macro_rules | `(tactic| walk_at "rd") => `(tactic| repeat (first
  | refine ⟨_, rfl, ?_⟩
  | refine ⟨_, _, rfl, rfl, ?_⟩
  | refine ⟨rfl, ?_⟩
  | refine ⟨(by show (0 : Int) < _; omega), ?_⟩
  | refine ⟨⟨by omega, by omega⟩, ?_⟩
  | refine ⟨(by decide), ?_⟩
  | refine ⟨(by omega), ?_⟩))
/-- the text of a list of signs' numbers -/
abbrev S (l : List Nat) : Str := ⟨l.toArray⟩
/-- all but the object at p is as it was -/
def Off (p : Addr) (H H' : Hp) : Prop := ∀ b o, b ≠ p → H b = some o → H' b = some o
theorem Off.refl (p : Addr) (H : Hp) : Off p H H := fun _ _ _ h => h
theorem Off.trans {p : Addr} {H H1 H2 : Hp} (a : Off p H H1) (b : Off p H1 H2) : Off p H H2 := fun c o n h => b c o n (a c o n h)
theorem off_of {p : Addr} {H H' : Hp} (a : Same H H') : Off p H H' := fun c o _ h => a c o h
theorem Off.upd {p : Addr} {H H' : Hp} {o : HO} (a : Off p H H') : Off p H (upd H' p o) := fun c u n h => by
  rw [upd_ne n]
  exact a c u n h
/-- the law's own pool of draws -/
def Pool (H : Hp) (p : Addr) : Prop := ∃ c n : Int, H p = some (.lst [.int c, .int n]) ∧ 0 ≤ n ∧ n < 2147483647
theorem Pool.same {H H' : Hp} {p : Addr} (h : Pool H p) (s : Same H H') : Pool H' p := by
  obtain ⟨c, n, e, r⟩ := h
  exact ⟨c, n, s _ _ e, r⟩
theorem Same.new {H : Hp} {p : Addr} {o : HO} (h : H p = none) : Same H (upd H p o) := fun b u e => by
  rw [upd_ne (ne_of_none e h)]
  exact e
theorem atI0 {α : Type} {a : α} {l : List α} : atI (a :: l) 0 = some a := atI_nat (xs := a :: l) (j := 0) rfl
theorem atI1 {α : Type} {a b : α} {l : List α} : atI (a :: b :: l) 1 = some b := atI_nat (xs := a :: b :: l) (j := 1) rfl
theorem one_le {c : Nat} : (⟨#[c]⟩ : Str).length ≤ 5592405 := by show 1 ≤ _; decide
/-! ### signs -/
open RowM (lo up)
theorem low1 : ∀ c ∈ sgns, Txt.lower (S [c]) = S [lo c] := by decide +kernel
theorem up1 : ∀ c ∈ sgns, Txt.upper (S [c]) = S [up c] := by decide +kernel
theorem isup1 : ∀ c ∈ sgns, Txt.isupper (S [c]) = decide (c < 97) := by decide +kernel
theorem islo1 : ∀ c ∈ sgns, Txt.islower (S [c]) = decide (97 ≤ c) := by decide +kernel
theorem six1 : ∀ c ∈ sgns, ∃ r, Builtin.Str.occurrences "aAbBcCdDeEfF" (S [c]) 0 12 1 = ix c :: r := by
  intro c hc
  have h : ∀ c ∈ sgns, (Builtin.Str.occurrences "aAbBcCdDeEfF" (S [c]) 0 12 1).head? = some (ix c) := by decide +kernel
  have := h c hc
  cases e : Builtin.Str.occurrences "aAbBcCdDeEfF" (S [c]) 0 12 1 with
  | nil => rw [e] at this; cases this
  | cons a r => rw [e] at this; cases this; exact ⟨r, rfl⟩
theorem sgns_at : ∀ i : Nat, i < 12 → ∃ c, (Str.ofString "aAbBcCdDeEfF").cps.toList[i]? = some c ∧ c ∈ sgns ∧ ix c = i := by
  have h : ∀ i ∈ List.range 12, (Str.ofString "aAbBcCdDeEfF").cps.toList[i]? = sgns[i]? ∧ (sgns[i]?).isSome = true ∧ ix (sgns.getD i 0) = i := by decide +kernel
  intro i hi
  obtain ⟨h1, h2, h3⟩ := h i (List.mem_range.mpr hi)
  have h4 : i < sgns.length := hi
  refine ⟨sgns[i], by rw [h1, List.getElem?_eq_getElem h4], List.getElem_mem _, ?_⟩
  rw [List.getD_eq_getElem?_getD, List.getElem?_eq_getElem h4] at h3
  exact h3
theorem sgns_mem : ∀ c : Nat, (c ∈ (Str.ofString "aAbBcCdDeEfF").cps.toList) = (c ∈ sgns) := by
  have h : (Str.ofString "aAbBcCdDeEfF").cps.toList = sgns := by decide +kernel
  intro c
  rw [h]
theorem sign_of_at {i : Int} {z : Str} (h0 : 0 ≤ i) (h1 : i < 12) (hz : z = Str.ofString "aAbBcCdDeEfF") : ∃ c, atI z.cps.toList i = some c ∧ c ∈ sgns ∧ (ix c : Int) = i := by
  subst hz
  obtain ⟨c, e, hc, hi⟩ := sgns_at i.toNat (by omega)
  refine ⟨c, ?_, hc, by omega⟩
  have : i = (i.toNat : Int) := by omega
  rw [this]
  exact atI_nat e
theorem el_is {te : TE} {σ : L2.St} {H : Hp} {xs ys : List V} (h : Evl.EvL te σ H xs) (e : xs = ys) : Evl.EvL te σ H ys := e ▸ h
theorem len_S (l : List Nat) : (S l).length = l.length := by simp [S, Str.length]
theorem add_S (l m : List Nat) : S l ++ S m = S (l ++ m) := ext_tl (by rw [tl_append])
theorem joinL_nil : ∀ ps : List (List Nat), joinL [] ps = ps.flatten
  | [] => rfl
  | [p] => by simp [joinL]
  | p :: q :: r => by rw [joinL, joinL_nil (q :: r)]; simp
theorem join_S (a : Str) (ha : tl a = []) (l : List Nat) : Txt.join a (l.map fun c => S [c]) = S l := by
  refine ext_tl ?_
  rw [join_eq, tl_join, ha, joinL_nil]
  show _ = l
  induction l with
  | nil => rfl
  | cons c l ih => simp [tl] at ih ⊢; exact ih
theorem sum_ones (l : List Nat) : ((l.map fun c => S [c]).map (·.length)).sum = l.length := by
  induction l with
  | nil => rfl
  | cons c l ih => simp only [List.map_cons, List.sum_cons, List.length_cons, ih, len_S]; simp; omega
section
open Evl
variable {K : PySem.W.Frag} {σ : L2.St} {H : Hp} {te tl' to : TE} {j : Nat} {vs : List Nat}
/-- "".join([e for sign in text]), each e a sign -/
theorem ev_joinMap {a s : Str} (g : Nat → Nat) (ho : Ev to σ H (.str a)) (ha : tl a = []) (h : Ev tl' σ H (.str s)) (hz : s.length ≤ 40000) (hw : ∀ x, wipe ((wipe σ vs).set j (some x)) vs = wipe σ vs)
    (he : ∀ (c : Nat) H1, Ex H H1 → c ∈ s.cps.toList → Ev te ((wipe σ vs).set j (some (.str ⟨#[c]⟩))) H1 (.str (S [g c]))) :
    Ev (tM1 (rJoinK K) to (tLc (iStr tl') (gName j) tYes te vs)) σ H
      (.str (S (s.cps.toList.map g))) := by
  have e1 : s.cps.toList.map (fun c => V.str (S [g c])) = ((s.cps.toList.map g).map fun c => S [c]).map V.str := by simp [List.map_map, Function.comp]
  have e2 : a.length = 0 := by rw [len_tl, ha]; rfl
  have z : s.cps.toList.length = s.length := rfl
  refine ev_is (ev_join ho (el_is (el_mapS (fun c => .str (S [g c])) h hz hw he) e1) ?_) (by rw [join_S a ha])
  rw [sum_ones, e2, List.length_map, z]
  omega
end
/-- [sign.upper(), sign.lower()][int(sign.isupper())] -/
theorem at_turn {c : Nat} (hc : c ∈ sgns) : atI [V.str (Txt.upper (S [c])), V.str (Txt.lower (S [c]))] (if Txt.isupper (S [c]) then 1 else 0) = some (.str (S [con c])) := by
  rw [up1 c hc, low1 c hc, isup1 c hc]
  unfold con up lo
  by_cases h : c < 97
  · have h2 : ¬ 97 ≤ c := by omega
    rw [if_neg h2, if_neg h2, if_neg h2, decide_eq_true h]
    exact atI1
  · have h2 : 97 ≤ c := by omega
    rw [if_pos h2, if_pos h2, if_pos h2, decide_eq_false h]
    exact atI0
theorem sz_str {l m : List Nat} (h1 : l.length < 40000) (h2 : m.length < 40000) : (S l).length + (S m).length ≤ sizeLine := by
  rw [len_S, len_S]
  exact Nat.le_trans (by omega : _ ≤ 100000) (by decide)
theorem row_snoc {l : List Nat} {c : Nat} (h : Row l) (hc : c ∈ sgns) : Row (l ++ [c]) := fun d hd => by
  rcases List.mem_append.mp hd with q | q
  · exact h d q
  · rw [List.mem_singleton.mp q]; exact hc
theorem all_snoc {P : Nat → Prop} {l : List Nat} {c : Nat} (h : ∀ d ∈ l, P d) (hc : P c) : ∀ d ∈ l ++ [c], P d := fun d hd => by
  rcases List.mem_append.mp hd with q | q
  · exact h d q
  · rw [List.mem_singleton.mp q]; exact hc
theorem at_last {m : List Nat} {d : Nat} : atI (S (m ++ [d])).cps.toList (-(1 : Int)) = some d := by
  show atI (m ++ [d]) (-1) = some d
  unfold atI ixN
  have h : -(((m ++ [d]).length : Nat) : Int) ≤ -1 := by simp; omega
  rw [if_neg (by decide), if_pos h]
  have e : ((-1 : Int) + ((m ++ [d]).length : Nat)).toNat = m.length := by simp; omega
  rw [e]
  simp
theorem cut_S (l : List Nat) (lo hi : Option Int) : cutS (S l) lo hi = S ((l.drop (HT.sIx l.length 0 lo)).take (HT.sIx l.length l.length hi - HT.sIx l.length 0 lo)) := by
  unfold cutS
  rw [len_S]
theorem cut_last {m : List Nat} {d : Nat} : cutS (S (m ++ [d])) none (some (-1)) = S m := by
  rw [cut_S, HT.sIx_none]
  have e : HT.sIx (m ++ [d]).length (m ++ [d]).length (some (-1)) = m.length := by
    show (if (-1 : Int) < 0 then ((-1 : Int) + ((m ++ [d]).length : Nat)).toNat else min (-1 : Int).toNat (m ++ [d]).length) = _
    rw [if_pos (by decide)]
    simp
    omega
  rw [e, List.drop_zero, Nat.sub_zero]
  simp
theorem sz_of' {n : Nat} (h : n ≤ 100000) : n ≤ sizeLine := Nat.le_trans h (by decide)
theorem exists_snoc {α : Type} {m : List α} (h : m ≠ []) : ∃ l d, m = l ++ [d] := ⟨m.dropLast, m.getLast h, (List.dropLast_concat_getLast h).symm⟩
theorem ix_con {c : Nat} (h : c ∈ sgns) : ix (con c) / 2 = ix c / 2 := by
  have : ∀ c ∈ sgns, ix (con c) / 2 = ix c / 2 := by decide
  exact this c h
/-! ### the rank of a row, as data -/
def intsD (xs : List Nat) : List PyData := xs.map fun (c : Nat) => .int (c : Int)
def rankD (l : List Nat) : PyData := .tuple [.int l.length, .list (intsD (l.map ix))]
theorem alike_ints : ∀ xs ys : List Nat, PySem.W.alikeAll (intsD xs) (intsD ys) = true
  | [], _ => by simp [intsD, PySem.W.alikeAll]
  | _ :: _, [] => by simp [intsD, PySem.W.alikeAll]
  | x :: xs, y :: ys => by
    have ih := alike_ints xs ys
    simp only [intsD] at ih ⊢
    simp [PySem.W.alikeAll, PySem.W.alike, ih]
theorem alike_rank (l m : List Nat) : PySem.W.alike (rankD l) (rankD m) = true := by
  simp [rankD, PySem.W.alike, PySem.W.alikeAll, alike_ints]
theorem eqv_int (a b : Int) : PyData.eqv (.int a) (.int b) = decide (a = b) := by
  simp [PyData.eqv]
  by_cases h : a = b <;> simp [h]
theorem lex_ints : ∀ xs ys : List Nat, xs.length = ys.length → PyProof.Rows.lexLt PyProof.Rows.itemOrd (PySem.W.keyToksAll (intsD xs)) (PySem.W.keyToksAll (intsD ys)) = RowM.lexI xs ys
  | [], [], _ => by decide
  | [], _ :: _, h => by simp at h
  | _ :: _, [], h => by simp at h
  | x :: xs, y :: ys, h => by
    have ih := lex_ints xs ys (by simpa using h)
    show PyProof.Rows.lexLt PyProof.Rows.itemOrd (PySem.W.keyToksAll (.int (x : Int) :: intsD xs)) (PySem.W.keyToksAll (.int (y : Int) :: intsD ys)) = _
    by_cases e : x = y
    · rw [PySem.W.dataLt_all_yes rfl (by rw [eqv_int]; simp [e]), ih, RowM.lexI, if_pos e]
    · rw [PySem.W.dataLt_all_no rfl (by rw [eqv_int]; simp; omega), PySem.W.dataLt_int, RowM.lexI, if_neg e]
      congr 1
      simp
theorem eqv_list_len : ∀ xs ys : List Nat, PyData.eqvAll (intsD xs) (intsD ys) = true → xs = ys
  | [], [], _ => rfl
  | [], _ :: _, h => by simp [intsD, PyData.eqvAll] at h
  | _ :: _, [], h => by simp [intsD, PyData.eqvAll] at h
  | x :: xs, y :: ys, h => by
    have h2 : PyData.eqvAll (.int (x : Int) :: intsD xs) (.int (y : Int) :: intsD ys) = true := h
    rw [PySem.W.eqv_all_cons, Bool.and_eq_true, eqv_int] at h2
    have := eqv_list_len xs ys h2.2
    have e := of_decide_eq_true h2.1
    rw [this]
    congr 1
    omega
theorem lt_rank {l m : List Nat} : PySem.W.dataLt (rankD l) (rankD m) = RowM.before l m := by
  unfold rankD
  rw [PySem.W.dataLt_tuple]
  unfold RowM.before
  by_cases e : l.length = m.length
  · rw [if_pos e, PySem.W.dataLt_all_yes rfl (by rw [eqv_int]; simp [e])]
    by_cases q : PyData.eqv (.list (intsD (l.map ix))) (.list (intsD (m.map ix))) = true
    · rw [PySem.W.dataLt_all_yes (by rw [PySem.W.alike]; exact alike_ints _ _) q]
      have : l.map ix = m.map ix := eqv_list_len _ _ (by simpa [PyData.eqv] using q)
      rw [this]
      have z : ∀ n : List Nat, RowM.lexI n n = false := by
        intro n
        induction n with
        | nil => rfl
        | cons a n ih => simp [RowM.lexI, ih]
      rw [z]
      decide
    · rw [PySem.W.dataLt_all_no (by rw [PySem.W.alike]; exact alike_ints _ _) (by simpa using q), PySem.W.dataLt_list, lex_ints _ _ (by simpa using e)]
  · rw [if_neg e, PySem.W.dataLt_all_no rfl (by rw [eqv_int]; simp; omega), PySem.W.dataLt_int]
    congr 1
    simp
section
variable {K : PySem.W.Frag} {H : Hp}
theorem dp_ints : ∀ xs : List Nat, DpAll K H (xs.map fun (c : Nat) => V.int (c : Int)) (intsD xs)
  | [] => .nil
  | x :: xs => .cons (.int _) (dp_ints xs)
theorem dp_rank {t q : Addr} {l : List Nat} (ht : H t = some (.tup [.int l.length, .ref q])) (hq : H q = some (.lst (l.map fun c => V.int (ix c : Nat)))) : Dp K H (.ref t) (rankD l) :=
  .tup (SqT.of ht) (.cons (.int _) (.cons (.lst (SqL.of hq) (by
    have := dp_ints (K := K) (H := H) (l.map ix)
    rw [List.map_map] at this
    exact this)) .nil))
end
theorem depth_ints : ∀ xs : List Nat, PyData.depthAll (intsD xs) = 0
  | [] => rfl
  | x :: xs => by
    have := depth_ints xs
    simp only [intsD, List.map_cons, PyData.depthAll, PyData.depth] at this ⊢
    omega
theorem depth_rank (l : List Nat) : (rankD l).depth ≤ 60 := by
  simp [rankD, PyData.depth, PyData.depthAll, depth_ints]
def isRow (l : List Nat) : Bool := decide (l.length ≤ 60) && l.all fun c => decide (c ∈ sgns)
theorem isRow_iff {l : List Nat} : isRow l = true ↔ l.length ≤ 60 ∧ Row l := by
  simp [isRow, RowM.Row]
theorem turns_ok (x t : Int) (h : 1 ≤ t) : 1 ≤ (if (if t < x then t else x) > 1 then (if t < x then t else x) else 1) ∧ (if (if t < x then t else x) > 1 then (if t < x then t else x) else 1) ≤ t := by
  by_cases a : t < x
  · rw [if_pos a]
    by_cases b : t > 1
    · rw [if_pos b]; omega
    · rw [if_neg b]; omega
  · rw [if_neg a]
    by_cases b : x > 1
    · rw [if_pos b]; omega
    · rw [if_neg b]; omega
theorem at2 {α : Type} {a b : α} {v : Int} (h0 : 0 ≤ v) (h1 : v < 2) : ∃ x, atI [a, b] v = some x ∧ (x = a ∨ x = b) := by
  have : v = 0 ∨ v = 1 := by omega
  rcases this with rfl | rfl
  · exact ⟨a, atI0, .inl rfl⟩
  · exact ⟨b, atI1, .inr rfl⟩
theorem cut_to {l : List Nat} {k : Nat} (h : k ≤ l.length) : cutS (S l) none (some (k : Int)) = S (l.take k) := by
  rw [cut_S, HT.sIx_none, HT.sIx_nat, Nat.min_eq_left h, List.drop_zero, Nat.sub_zero]
theorem cut_from {l : List Nat} {k : Nat} : cutS (S l) (some (k : Int)) none = S (l.drop k) := by
  rw [cut_S, HT.sIx_none, HT.sIx_nat]
  congr 1
  by_cases h : k ≤ l.length
  · rw [Nat.min_eq_left h]
    have : (l.drop k).length = l.length - k := List.length_drop ..
    rw [← this, List.take_length]
  · have h2 : l.length ≤ k := by omega
    rw [Nat.min_eq_right h2, List.drop_eq_nil_of_le h2, Nat.sub_self, List.take_zero]
theorem str_dec {c d : Nat} : decide (V.str (S [c]) = V.str (S [d])) = decide (c = d) := by
  apply decide_eq_decide.mpr
  constructor
  · intro h
    have h1 := congrArg (fun v => match v with | V.str z => z.cps.toList | _ => []) h
    simpa using h1
  · intro h; rw [h]
theorem row_sub {l m : List Nat} (h : Row l) (s : ∀ c ∈ m, c ∈ l) : Row m := fun c hc => h c (s c hc)
theorem row_app {l m : List Nat} (h : Row l) (h2 : Row m) : Row (l ++ m) := fun c hc => by
  rcases List.mem_append.mp hc with q | q
  · exact h c q
  · exact h2 c q
theorem at2of3 {α : Type} {a b c : α} {l : List α} : atI (a :: b :: c :: l) 2 = some c := atI_nat (xs := a :: b :: c :: l) (j := 2) rfl
theorem at3 {α : Type} {a b c : α} {v : Int} (h0 : 0 ≤ v) (h1 : v < 3) : ∃ x, atI [a, b, c] v = some x ∧ (x = a ∨ x = b ∨ x = c) := by
  have : v = 0 ∨ v = 1 ∨ v = 2 := by omega
  rcases this with rfl | rfl | rfl
  · exact ⟨a, atI0, .inl rfl⟩
  · exact ⟨b, atI1, .inr (.inl rfl)⟩
  · exact ⟨c, at2of3, .inr (.inr rfl)⟩
theorem at4 {α : Type} {a b c d : α} {v : Int} (h0 : 0 ≤ v) (h1 : v < 4) : ∃ x, atI [a, b, c, d] v = some x ∧ (x = a ∨ x = b ∨ x = c ∨ x = d) := by
  have : v = 0 ∨ v = 1 ∨ v = 2 ∨ v = 3 := by omega
  rcases this with rfl | rfl | rfl | rfl
  · exact ⟨a, atI0, .inl rfl⟩
  · exact ⟨b, atI1, .inr (.inl rfl)⟩
  · exact ⟨c, at2of3, .inr (.inr (.inl rfl))⟩
  · exact ⟨d, atI_nat (xs := [a, b, c, d]) (j := 3) rfl, .inr (.inr (.inr rfl))⟩
theorem Pool.ne {H : Hp} {p d : Addr} (h : Pool H p) (hd : H d = none) : p ≠ d := fun e => by
  obtain ⟨_, _, q, _⟩ := h
  rw [e, hd] at q
  cases q
theorem Pool.new {H : Hp} {p d : Addr} {o : HO} (h : Pool H p) (hd : H d = none) : Pool (upd H d o) p := h.same (Same.new hd)
/-- what stood ahead of the pool stands -/
theorem Off.same {H0 H H' : Hp} {p : Addr} (hp : H0 p = none) (s : Same H0 H) (o : Off p H H') : Same H0 H' := fun b u e => o b u (fun q => by rw [q, hp] at e; cases e) (s b u e)
/-! ### things of any kind -/
def NotStr (H : Hp) (x : V) : Prop := x = .non ∨ (∃ i, x = .int i) ∨ (∃ b, x = .bl b) ∨ ∃ a, x = .ref a ∧ ((∃ xs, H a = some (.lst xs)) ∨ (∃ xs, H a = some (.tup xs)) ∨ ∃ kvs, H a = some (.dK kvs))
theorem NotStr.same {H H' : Hp} {x : V} (h : NotStr H x) (s : Same H H') : NotStr H' x := by
  rcases h with h | h | h | ⟨a, e, ⟨xs, h⟩ | ⟨xs, h⟩ | ⟨xs, h⟩⟩
  · exact .inl h
  · exact .inr (.inl h)
  · exact .inr (.inr (.inl h))
  · exact .inr (.inr (.inr ⟨a, e, .inl ⟨xs, s _ _ h⟩⟩))
  · exact .inr (.inr (.inr ⟨a, e, .inr (.inl ⟨xs, s _ _ h⟩)⟩))
  · exact .inr (.inr (.inr ⟨a, e, .inr (.inr ⟨xs, s _ _ h⟩)⟩))
theorem NotStr.ty {K : PySem.W.Frag} {H : Hp} {x : V} (h : NotStr H x) : ∃ t : String, TyX K H x (.type t) ∧ kitB t "str" = some false := by
  rcases h with rfl | ⟨i, rfl⟩ | ⟨b, rfl⟩ | ⟨a, rfl, ⟨xs, h⟩ | ⟨xs, h⟩ | ⟨xs, h⟩⟩
  · exact ⟨_, .base .non, by decide +kernel⟩
  · exact ⟨_, .base (.int _), by decide +kernel⟩
  · exact ⟨_, .base (.bl _), by decide +kernel⟩
  · exact ⟨_, .base (.lst h), by decide +kernel⟩
  · exact ⟨_, .base (.tup h), by decide +kernel⟩
  · exact ⟨_, .base (.dK h), by decide +kernel⟩
/-- whether x is a text of at most so many of the twelve signs -/
def IsRowW (H : Hp) (x : V) (most : Int) (r : Bool) : Prop := (∃ l : List Nat, x = .str (S l) ∧ l.length ≤ 40000 ∧ r = (decide ((l.length : Int) ≤ most) && l.all fun c => decide (c ∈ sgns))) ∨ (NotStr H x ∧ r = false)
def IsRowV (H : Hp) (x : V) (r : Bool) : Prop := (∃ l : List Nat, x = .str (S l) ∧ l.length ≤ 40000 ∧ r = isRow l) ∨ (NotStr H x ∧ r = false)
theorem IsRowV.same {H H' : Hp} {x : V} {r : Bool} (h : IsRowV H x r) (s : Same H H') : IsRowV H' x r := by
  rcases h with h | ⟨h, e⟩
  · exact .inl h
  · exact .inr ⟨h.same s, e⟩
theorem IsRowV.w {H : Hp} {x : V} {r : Bool} (h : IsRowV H x r) : IsRowW H x 60 r := by
  rcases h with ⟨l, e, z, q⟩ | h
  · refine .inl ⟨l, e, z, ?_⟩
    rw [q]
    unfold isRow
    have z : decide ((l.length : Int) ≤ 60) = decide (l.length ≤ 60) := decide_eq_decide.mpr (by omega)
    rw [z]
  · exact .inr h
theorem Off.mut {p D : Addr} {H H' : Hp} {o : HO} (a : Off p H H') (hD : H D = none) : Off p H (L2.upd H' D o) := fun b u n h => by
  rw [L2.upd_ne (ne_of_none h hD)]
  exact a b u n h
theorem str_at {z : Str} {u : Int} (h0 : 0 ≤ u) (h1 : u < (z.length : Int)) : ∃ c, atI z.cps.toList u = some c ∧ c ∈ z.cps.toList := by
  obtain ⟨n, rfl⟩ : ∃ n : Nat, u = (n : Int) := ⟨u.toNat, by omega⟩
  have h2 : n < z.cps.toList.length := by
    have : z.cps.toList.length = z.length := rfl
    omega
  exact ⟨z.cps.toList[n], atI_nat (List.getElem?_eq_getElem h2), List.getElem_mem _⟩
/-! ### the ten things that are no texts -/
def oddL (t1 l1 d1 l2 t2 l3 : Addr) : List V := [.non, .int 0, .bl true, .ref t1, .ref l1, .ref d1, .ref l2, .ref t2, .ref l3, .int ((10 : Int) ^ (30 : Int).toNat)]
def oddH (H : Hp) (t1 l1 d1 l2 t2 l3 O : Addr) : Hp := upd (upd (upd (upd (upd (upd (upd H t1 (.tup [])) l1 (.lst [])) d1 (.dK [])) l2 (.lst [.str (Str.ofString "a")])) t2 (.tup [.str (Str.ofString "a")])) l3 (.lst [.str (Str.ofString "a"), .str (Str.ofString "b")])) O (.lst (oddL t1 l1 d1 l2 t2 l3))
theorem oddH_ok {H H1 H2 H3 H4 H5 H6 : Hp} {t1 l1 d1 l2 t2 l3 O : Addr} (e1 : H1 = upd H t1 (.tup [])) (e2 : H2 = upd H1 l1 (.lst [])) (e3 : H3 = upd H2 d1 (.dK [])) (e4 : H4 = upd H3 l2 (.lst [.str (Str.ofString "a")])) (e5 : H5 = upd H4 t2 (.tup [.str (Str.ofString "a")])) (e6 : H6 = upd H5 l3 (.lst [.str (Str.ofString "a"), .str (Str.ofString "b")]))
    (n1 : H t1 = none) (n2 : H1 l1 = none) (n3 : H2 d1 = none) (n4 : H3 l2 = none) (n5 : H4 t2 = none) (n6 : H5 l3 = none) (n7 : H6 O = none) :
    Same H (oddH H t1 l1 d1 l2 t2 l3 O) ∧ oddH H t1 l1 d1 l2 t2 l3 O O = some (.lst (oddL t1 l1 d1 l2 t2 l3)) ∧ ∀ x ∈ oddL t1 l1 d1 l2 t2 l3, NotStr (oddH H t1 l1 d1 l2 t2 l3 O) x := by
  have eH : oddH H t1 l1 d1 l2 t2 l3 O = upd H6 O (.lst (oddL t1 l1 d1 l2 t2 l3)) := by rw [e6, e5, e4, e3, e2, e1]; rfl
  rw [eH]
  have s6 : Same H6 (upd H6 O (.lst (oddL t1 l1 d1 l2 t2 l3))) := Same.new n7
  have s5 : Same H5 _ := Same.trans (e6 ▸ Same.new n6) s6
  have s4 : Same H4 _ := Same.trans (e5 ▸ Same.new n5) s5
  have s3 : Same H3 _ := Same.trans (e4 ▸ Same.new n4) s4
  have s2 : Same H2 _ := Same.trans (e3 ▸ Same.new n3) s3
  have s1 : Same H1 _ := Same.trans (e2 ▸ Same.new n2) s2
  have s0 : Same H _ := Same.trans (e1 ▸ Same.new n1) s1
  refine ⟨s0, upd_same, fun x hx => ?_⟩
  simp only [oddL, List.mem_cons, List.not_mem_nil, or_false] at hx
  rcases hx with rfl | rfl | rfl | rfl | rfl | rfl | rfl | rfl | rfl | rfl
  · exact .inl rfl
  · exact .inr (.inl ⟨_, rfl⟩)
  · exact .inr (.inr (.inl ⟨_, rfl⟩))
  · exact .inr (.inr (.inr ⟨_, rfl, .inr (.inl ⟨_, s1 _ _ (by rw [e1]; exact upd_same)⟩)⟩))
  · exact .inr (.inr (.inr ⟨_, rfl, .inl ⟨_, s2 _ _ (by rw [e2]; exact upd_same)⟩⟩))
  · exact .inr (.inr (.inr ⟨_, rfl, .inr (.inr ⟨_, s3 _ _ (by rw [e3]; exact upd_same)⟩)⟩))
  · exact .inr (.inr (.inr ⟨_, rfl, .inl ⟨_, s4 _ _ (by rw [e4]; exact upd_same)⟩⟩))
  · exact .inr (.inr (.inr ⟨_, rfl, .inr (.inl ⟨_, s5 _ _ (by rw [e5]; exact upd_same)⟩)⟩))
  · exact .inr (.inr (.inr ⟨_, rfl, .inl ⟨_, s6 _ _ (by rw [e6]; exact upd_same)⟩⟩))
  · exact .inr (.inl ⟨_, rfl⟩)
/-- a sign among the twelve, in a list of them -/
theorem inV_signs (c : Nat) : inV (V.str (S [c])) ((Str.ofString "aAbBcCdDeEfF").cps.toList.map fun d => V.str ⟨#[d]⟩) = decide (c ∈ sgns) := by
  have h : (Str.ofString "aAbBcCdDeEfF").cps.toList = sgns := by decide +kernel
  rw [h]
  unfold inV
  rw [List.any_map]
  have e : ∀ d : Nat, eqV (V.str ⟨#[d]⟩) (V.str (S [c])) = decide (d = c) := fun d => by
    show ((⟨#[d]⟩ : Str) == S [c]) = decide (d = c)
    by_cases q : d = c
    · subst q; simp
    · rw [decide_eq_false q]
      apply beq_eq_false_iff_ne.mpr
      intro z
      have := congrArg (fun z : Str => z.cps.toList) z
      simp at this
      exact q this
  rw [show (sgns.any ((fun y => eqV y (V.str (S [c]))) ∘ fun d => V.str ⟨#[d]⟩)) = sgns.any fun d => decide (d = c) from by congr 1; funext d; exact e d]
  by_cases q : c ∈ sgns
  · rw [decide_eq_true q]
    exact List.any_eq_true.mpr ⟨c, q, by simp⟩
  · rw [decide_eq_false q]
    exact List.any_eq_false.mpr fun d hd => by simp; intro z; subst z; exact q hd
theorem dp_strs {K : PySem.W.Frag} {H : Hp} : ∀ zs : List Str, DpAll K H (zs.map V.str) (zs.map PyData.str)
  | [] => .nil
  | z :: zs => .cons (.str z) (dp_strs zs)
theorem eqv_nil : ∀ ds : List PyData, PyData.eqv (.list ds) (.list []) = ds.isEmpty
  | [] => by simp [PyData.eqv, PyData.eqvAll]
  | _ :: _ => by simp [PyData.eqv, PyData.eqvAll]
/-- a list of code points that a text may hold -/
def Chs (l : List Nat) : Prop := ∀ c ∈ l, c < 1114112
theorem chs_in {l m : List Nat} (h : ∀ c ∈ l, c ∈ m) (g : (m.all fun c => decide (c < 1114112)) = true) : Chs l := fun c hc => of_decide_eq_true (List.all_eq_true.mp g c (h c hc))
theorem chs_sgns : (sgns.all fun c => decide (c < 1114112)) = true := by decide
theorem Chs.app {l m : List Nat} (a : Chs l) (b : Chs m) : Chs (l ++ m) := fun c h => by
  rcases List.mem_append.mp h with h | h
  · exact a c h
  · exact b c h
theorem shaped_strs (zs : List Str) (hz : zs.all PyData.strOk = true) : SeqAt.shaped (.list (zs.map PyData.str)) = true := by
  have h1 : PyData.canLayAll0 (zs.map PyData.str) = true := by
    induction zs with
    | nil => rfl
    | cons z zs ih =>
      simp only [List.all_cons, Bool.and_eq_true] at hz
      simp [PyData.canLayAll0, PyData.canLay0, hz.1, ih hz.2]
  have h2 : ∀ zs : List Str, PyData.depthAll (zs.map PyData.str) = 0 := by
    intro zs
    induction zs with
    | nil => rfl
    | cons z zs ih => simp [PyData.depthAll, PyData.depth, ih]
  simp [SeqAt.shaped, PyData.canLay0, h1, PyData.depth, h2]
/-- the signs of a text that are none of the twelve -/
def strays (l : List Nat) : List Str := ((List.range l.length).filter fun i => !decide (l.getD i 0 ∈ sgns)).map fun i => S [l.getD i 0]
theorem given_strays (l : List Nat) : Evl.given l.length (fun i => !decide (l.getD i 0 ∈ sgns)) (fun i => V.str (S [l.getD i 0])) = (strays l).map V.str := by
  unfold Evl.given strays
  rw [List.map_map]
  rfl
theorem getD_mem {l : List Nat} {i : Nat} (h : i < l.length) : l.getD i 0 ∈ l := by
  rw [List.getD_eq_getElem?_getD, List.getElem?_eq_getElem h]
  exact List.getElem_mem _
theorem strays_ok {l : List Nat} (h : Chs l) : (strays l).all PyData.strOk = true := by
  refine List.all_eq_true.mpr fun z hz => ?_
  unfold strays at hz
  obtain ⟨i, hi, rfl⟩ := List.mem_map.mp hz
  have hi := (List.mem_filter.mp hi).1
  have := h _ (getD_mem (List.mem_range.mp hi))
  simp [PyData.strOk]
  simpa using this
theorem strays_none (l : List Nat) : (strays l).isEmpty = l.all fun c => decide (c ∈ sgns) := by
  by_cases h : ∀ c ∈ l, c ∈ sgns
  · have e : strays l = [] := by
      unfold strays
      rw [List.map_eq_nil_iff, List.filter_eq_nil_iff]
      intro i hi
      have := h _ (getD_mem (List.mem_range.mp hi))
      simpa using this
    rw [e, List.all_eq_true.mpr fun c hc => decide_eq_true (h c hc)]
    rfl
  · rw [show (l.all fun c => decide (c ∈ sgns)) = false from by
      cases q : l.all fun c => decide (c ∈ sgns)
      · rfl
      · exact absurd (fun c hc => of_decide_eq_true (List.all_eq_true.mp q c hc)) h]
    cases q : (strays l).isEmpty
    · rfl
    · refine absurd (fun c hc => ?_) h
      obtain ⟨i, hi, e⟩ := List.getElem_of_mem hc
      have z := List.isEmpty_iff.mp q
      unfold strays at z
      rw [List.map_eq_nil_iff, List.filter_eq_nil_iff] at z
      have := z i (List.mem_range.mpr hi)
      rw [List.getD_eq_getElem?_getD, List.getElem?_eq_getElem hi] at this
      simpa [e] using this
/-! ### walks -/
open WalkM (PRow Tree addK gone srt)
theorem S_inj1 {l m : List Nat} (h : S l = S m) : l = m := by
  have := congrArg (fun z : Str => z.cps.toList) h
  simpa using this
theorem sT_inj {l m : List Nat} (h : V.str (S l) = .str (S m)) : l = m := by
  injection h with h
  exact S_inj1 h
theorem no_both {x y : Option HO} {o : HO} (h : x = none) (g : y = some o) (e : x = y := by rfl) : False := by
  rw [← e, h] at g
  cases g
/-- a row as a value, as a key -/
def sT (p : List Nat) : V := .str (S p)
def kT (p : List Nat) : Key := Sum.inr (S p)
def kvT (ks : List (List Nat)) : List (Key × V) := ks.map fun p => (kT p, .bl true)
theorem kT_inj {p q : List Nat} : kT p = kT q ↔ p = q := ⟨fun h => by injection h with h; exact S_inj1 h, fun h => by rw [h]⟩
theorem kV_kT (p : List Nat) : kV (kT p) = sT p := rfl
theorem keys_T (ks : List (List Nat)) : (kvT ks).map (fun kv => kV kv.1) = ks.map sT := by simp [kvT, Function.comp, kV_kT]
theorem val_T (ks : List (List Nat)) (p : List Nat) : valV (kvT ks) (kT p) = if p ∈ ks then some (.bl true) else none := by
  unfold valV kvT
  induction ks with
  | nil => rfl
  | cons q ks ih =>
    rw [List.map_cons, List.find?_cons]
    by_cases h : kT q = kT p
    · have := kT_inj.mp h
      subst this
      simp
    · have h2 : ¬ p = q := fun e => h (by rw [e])
      simp only [h, decide_false]
      rw [ih]
      simp [h2]
theorem put_T (ks : List (List Nat)) (p : List Nat) : putK (kvT ks) (kT p) (.bl true) = kvT (addK ks p) := by
  have e : (kvT ks).any (fun kv => decide (kv.1 = kT p)) = decide (p ∈ ks) := by
    unfold kvT
    rw [List.any_map]
    induction ks with
    | nil => rfl
    | cons q ks ih =>
      rw [List.any_cons, ih]
      by_cases h : q = p
      · subst h; simp
      · have h2 : ¬ p = q := fun e => h e.symm
        simp [kT_inj, h, h2]
  unfold putK addK
  rw [e]
  by_cases h : p ∈ ks
  · rw [if_pos h, decide_eq_true h, if_pos rfl]
    unfold kvT
    rw [List.map_map]
    refine List.map_congr_left fun q _ => ?_
    simp only [Function.comp]
    by_cases h2 : kT q = kT p
    · rw [if_pos h2]
    · rw [if_neg h2]
  · rw [if_neg h, decide_eq_false h, if_neg (by decide)]
    simp [kvT]
theorem merge_T (p : List Nat) : mergeK [] [(kT p, V.bl true)] = kvT [p] := rfl
theorem len_kvT (ks : List (List Nat)) : (kvT ks).length = ks.length := by simp [kvT]
/-- the last sign of a text -/
theorem ends_last {l : List Nat} {d : Nat} : Txt.endswith (S l) (S [d]) = decide (l.getLast? = some d) := by
  have e1 : (S [d]).length = 1 := rfl
  have e : Txt.endswith (S l) (S [d]) = (decide ((S [d]).length ≤ (S l).length) && Builtin.Str.subAt (S l) (S [d]) ((S l).length - (S [d]).length)) := by
    unfold Txt.endswith
    simp
  rw [e, PySem.StrLaws.subAt_eq, e1, len_S]
  show (decide (1 ≤ l.length) && ((l.drop (l.length - 1)).take 1 == [d])) = _
  rcases List.eq_nil_or_concat l with rfl | ⟨m, x, rfl⟩
  · rfl
  · have h1 : (m.concat x).length - 1 = m.length := by simp
    rw [h1, List.concat_eq_append, List.drop_left]
    by_cases h : x = d <;> simp [h]
theorem made_on {l : List Nat} {i c : Nat} (hc : l[i]? = some c) : RowM.plain (l.take (i + 1)) = WalkM.on (RowM.plain (l.take i)) c := by
  rw [List.take_add_one, hc]
  exact WalkM.plain_snoc _ _
/-- a walk in the heap: the object, the list of its places, the places, the end -/
def wkfs (q : Addr) (e : List Nat) : List (Str × V) := [(Str.ofString "own_places", .ref q), (Str.ofString "own_end", sT e)]
def WkAt (C : Addr) (H : Hp) (a q : Addr) (ps : List (List Nat)) (e : List Nat) : Prop := (∃ dx, H a = some (.ins C dx (wkfs q e))) ∧ H q = some (.lst (ps.map sT))
theorem WkAt.same {C : Addr} {H H' : Hp} {a q : Addr} {ps : List (List Nat)} {e : List Nat} (h : WkAt C H a q ps e) (s : Same H H') : WkAt C H' a q ps e := ⟨let ⟨dx, z⟩ := h.1; ⟨dx, s _ _ z⟩, s _ _ h.2⟩
theorem WkAt.off {C p : Addr} {H H' : Hp} {a q : Addr} {ps : List (List Nat)} {e : List Nat} (h : WkAt C H a q ps e) (s : Off p H H') (n1 : a ≠ p) (n2 : q ≠ p) : WkAt C H' a q ps e := ⟨let ⟨dx, z⟩ := h.1; ⟨dx, s _ _ n1 z⟩, s _ _ n2 h.2⟩
theorem le_rank (l m : List Nat) : PySem.W.dataLe false (fun b : V × PyData => b.2) (sT l, rankD l) (sT m, rankD m) = WalkM.leR l m := by
  show (!PySem.W.dataLt (rankD m) (rankD l)) = _
  rw [lt_rank]
  rfl
def bsT (ts : List (List Nat)) : List (V × PyData) := ts.map fun p => (sT p, rankD p)
theorem bsT_fst (ts : List (List Nat)) : (bsT ts).map (·.1) = ts.map sT := by simp [bsT, Function.comp]
theorem sort_bsT (ts : List (List Nat)) : ((bsT ts).mergeSort (PySem.W.dataLe false (·.2))).map (·.1) = (srt ts).map sT := by
  have h : (ts.mergeSort WalkM.leR).map (fun p => ((sT p, rankD p) : V × PyData)) = (bsT ts).mergeSort (PySem.W.dataLe false (·.2)) :=
    List.map_mergeSort fun a _ b _ => (le_rank a b).symm
  rw [← h, List.map_map]
  rfl
theorem alike_bsT (ts : List (List Nat)) : PySem.W.AllAlike ((bsT ts).map (·.2)) := fun d hd d' hd' => by
  simp only [bsT, List.map_map, List.mem_map, Function.comp] at hd hd'
  obtain ⟨p, _, rfl⟩ := hd
  obtain ⟨q, _, rfl⟩ := hd'
  exact alike_rank p q
theorem sortable_bsT (ts : List (List Nat)) : PySem.W.Sortable ((bsT ts).map (·.2)) := .inl fun d hd => by
  simp only [bsT, List.map_map, List.mem_map, Function.comp] at hd
  obtain ⟨p, _, rfl⟩ := hd
  exact ⟨_, _, rfl⟩
theorem depth_rank2 (l : List Nat) : (rankD l).depth ≤ 50 := by
  simp [rankD, PyData.depth, PyData.depthAll, depth_ints]
theorem in_texts (ts : List (List Nat)) (p : List Nat) : inV (sT p) (ts.map sT) = decide (p ∈ ts) := by
  unfold inV sT
  rw [List.any_map]
  induction ts with
  | nil => rfl
  | cons q ts ih =>
    rw [List.any_cons, ih]
    by_cases h : p = q
    · subst h; simp [eqV]
    · have h2 : ¬ S p = S q := fun e => h (S_inj1 e)
      have h3 : ¬ S q = S p := fun e => h (S_inj1 e).symm
      simp [eqV, h, h2, h3]
theorem flat_T (ts : List (List Nat)) : (ts.map sT).all flatV = true := by
  rw [List.all_map]
  exact List.all_eq_true.mpr fun _ _ => rfl
/-- a tree whose rows are short -/
structure TreeS (ts : List (List Nat)) : Prop where
  t : Tree ts
  z : ∀ p ∈ ts, p.length ≤ 60
  n0 : 1 ≤ ts.length
  n1 : ts.length ≤ 61
theorem treeS_gone {l : List Nat} (h : Row l) (z : l.length ≤ 60) : TreeS (gone l) :=
  ⟨WalkM.tree_gone h, fun p hp => Nat.le_trans (WalkM.gone_small l p hp) z, WalkM.gone_pos l, Nat.le_trans (WalkM.gone_length l) (by omega)⟩
theorem on_snoc {m : List Nat} {c : Nat} : WalkM.on (m ++ [con c]) c = m := by
  unfold WalkM.on
  rw [if_pos (by simp)]
  simp
theorem on_else {p : List Nat} {c : Nat} (h : ¬ p.getLast? = some (con c)) : WalkM.on p c = p ++ [c] := if_neg h
theorem TreeS.row {ts : List (List Nat)} (h : TreeS ts) {p : List Nat} (hp : p ∈ ts) : isRow p = true := isRow_iff.mpr ⟨h.z p hp, (h.t.pr p hp).1⟩
/-- what lies within -/
def within (l m : List Nat) : Bool := (gone l).all fun p => decide (p ∈ gone m)
theorem within_srt (l m : List Nat) : ((srt (gone l)).all fun p => decide (p ∈ srt (gone m))) = within l m := by
  unfold within
  rw [(WalkM.srt_perm (gone l)).all_eq]
  simp only [WalkM.srt_mem]
theorem con_is {c : Nat} (hc : c ∈ sgns) : (if Txt.isupper (S [c]) = true then V.str (Txt.lower (S [c])) else V.str (Txt.upper (S [c]))) = .str (S [con c]) := by
  rw [up1 c hc, low1 c hc, isup1 c hc]
  unfold con lo up
  by_cases h : c < 97
  · have h2 : ¬ 97 ≤ c := by omega
    rw [decide_eq_true h, if_pos rfl, if_neg h2, if_neg h2]
  · have h2 : 97 ≤ c := by omega
    rw [decide_eq_false h, if_neg (by decide), if_pos h2, if_pos h2]
theorem ne_nil {l : List Nat} (h : l ≠ []) : decide (V.str (S l) = V.str (Str.ofString "")) = false := decide_eq_false fun e => h (sT_inj (l := l) (m := []) e)
theorem dec_nil (l : List Nat) : decide (V.str (S l) = V.str (Str.ofString "")) = decide (l = []) := decide_eq_decide.mpr ⟨fun e => sT_inj (l := l) (m := []) e, fun e => by rw [e]; rfl⟩
theorem dec_str (l m : List Nat) : decide (V.str (S l) = V.str (S m)) = decide (l = m) := decide_eq_decide.mpr ⟨sT_inj, fun e => by rw [e]⟩
/-- rows as data -/
def sD (ts : List (List Nat)) : List PyData := (ts.map S).map PyData.str
theorem sT_map (ts : List (List Nat)) : ts.map sT = (ts.map S).map V.str := by rw [List.map_map]; rfl
theorem dp_T {K : PySem.W.Frag} {H : Hp} {q : Addr} {ts : List (List Nat)} (h : H q = some (.lst (ts.map sT))) : Dp K H (.ref q) (.list (sD ts)) := .lst (SqL.of h) (by rw [sT_map]; exact dp_strs _)
theorem strOk_row {l : List Nat} (h : Row l) : PyData.strOk (S l) = true := by
  have := strays_ok (l := l) (chs_in (m := sgns) h chs_sgns)
  have q : ∀ c ∈ l, c < 1114112 := chs_in (m := sgns) h chs_sgns
  unfold PyData.strOk
  simp only [List.all_eq_true, Array.all_eq_true, decide_eq_true_eq]
  first
    | exact q
    | (intro i hi; exact q _ (by simpa using List.getElem_mem (l := l) (by simpa using hi)))
theorem shaped_T {ts : List (List Nat)} (h : ∀ p ∈ ts, Row p) : SeqAt.shaped (.list (sD ts)) = true := shaped_strs _ (by
  rw [List.all_map]
  exact List.all_eq_true.mpr fun p hp => strOk_row (h p hp))
theorem eqv_sD : ∀ ts us : List (List Nat), PyData.eqvAll (sD ts) (sD us) = decide (ts = us)
  | [], [] => by simp [sD, PyData.eqvAll]
  | [], _ :: _ => by simp [sD, PyData.eqvAll]
  | _ :: _, [] => by simp [sD, PyData.eqvAll]
  | t :: ts, u :: us => by
    have ih := eqv_sD ts us
    have e : sD (t :: ts) = .str (S t) :: sD ts := rfl
    have e2 : sD (u :: us) = .str (S u) :: sD us := rfl
    rw [e, e2, PySem.W.eqv_all_cons, ih]
    have e3 : PyData.eqv (.str (S t)) (.str (S u)) = decide (t = u) := by
      simp only [PyData.eqv]
      by_cases h : t = u
      · subst h; simp
      · have : ¬ S t = S u := fun z => h (S_inj1 z)
        simp [h, this]
    rw [e3]
    by_cases h1 : t = u
    · by_cases h2 : ts = us
      · simp [h1, h2]
      · simp [h1, h2]
    · simp [h1]
theorem eqv_T (ts us : List (List Nat)) : PyData.eqv (.list (sD ts)) (.list (sD us)) = decide (ts = us) := by rw [PyData.eqv, eqv_sD]
theorem within_nil (l m : List Nat) : decide (((gone l).filter fun p => !decide (p ∈ gone m)) = []) = within l m := by
  unfold within
  rw [Bool.eq_iff_iff, decide_eq_true_iff, List.filter_eq_nil_iff, List.all_eq_true]
  simp
theorem turn_one (c : Nat) : RowM.turn [c] = [con c] := rfl
theorem isRow_of {l : List Nat} (h : Row l) (z : l.length ≤ 60) : isRow l = true := isRow_iff.mpr ⟨z, h⟩

/-! ### rounds: what is left at each place -/
theorem starts_S {e q : List Nat} : Txt.startswith (S e) (S q) = q.isPrefixOf e := by
  have h : Txt.startswith (S e) (S q) = (decide ((S q).length ≤ (S e).length) && Builtin.Str.subAt (S e) (S q) 0) := by
    unfold Txt.startswith
    simp
  rw [h, PySem.StrLaws.subAt_eq, len_S, len_S]
  show (decide (q.length ≤ e.length) && ((e.drop 0).take q.length == q)) = _
  rw [List.drop_zero, Bool.eq_iff_iff, List.isPrefixOf_iff_prefix, Bool.and_eq_true, decide_eq_true_eq, beq_iff_eq]
  constructor
  · rintro ⟨_, h⟩
    exact ⟨e.drop q.length, by conv => lhs; lhs; rw [← h]
                               exact List.take_append_drop _ _⟩
  · rintro ⟨t, rfl⟩
    exact ⟨by simp, by simp⟩
def kvL (ps : List (List Nat)) (g : List Nat → List Nat) : List (Key × V) := ps.map fun p => (kT p, sT (g p))
def setF (g : List Nat → List Nat) (p x : List Nat) (q : List Nat) : List Nat := if q = p then x else g q
theorem setF_same {g : List Nat → List Nat} {p x : List Nat} : setF g p x p = x := if_pos rfl
theorem setF_ne {g : List Nat → List Nat} {p x q : List Nat} (h : q ≠ p) : setF g p x q = g q := if_neg h
theorem keys_L (ps : List (List Nat)) (g : List Nat → List Nat) : (kvL ps g).map (fun kv => kV kv.1) = ps.map sT := by simp [kvL, Function.comp, kV_kT]
theorem any_L (ps : List (List Nat)) (g : List Nat → List Nat) (p : List Nat) : (kvL ps g).any (fun kv => decide (kv.1 = kT p)) = decide (p ∈ ps) := by
  unfold kvL
  rw [List.any_map]
  induction ps with
  | nil => rfl
  | cons q ks ih =>
    rw [List.any_cons, ih]
    by_cases h : q = p
    · subst h; simp
    · have h2 : ¬ p = q := fun e => h e.symm
      simp [kT_inj, h, h2]
theorem val_L (g : List Nat → List Nat) {p : List Nat} : ∀ {ps : List (List Nat)}, p ∈ ps → valV (kvL ps g) (kT p) = some (sT (g p))
  | q :: ks, h => by
    unfold valV kvL
    rw [List.map_cons, List.find?_cons]
    by_cases e : kT q = kT p
    · have := kT_inj.mp e
      subst this
      simp
    · simp only [e, decide_false]
      have h2 : p ∈ ks := (List.mem_cons.mp h).resolve_left fun z => e (by rw [z])
      exact val_L g h2
theorem put_new {ps : List (List Nat)} {g : List Nat → List Nat} {p x : List Nat} (h : p ∉ ps) : putK (kvL ps g) (kT p) (sT x) = kvL (ps ++ [p]) (setF g p x) := by
  unfold putK
  rw [any_L, decide_eq_false h, if_neg (by decide)]
  unfold kvL
  rw [List.map_append, List.map_singleton, setF_same]
  congr 1
  exact List.map_congr_left fun q hq => by rw [setF_ne (fun e => h (by rw [← e]; exact hq))]
theorem put_old {ps : List (List Nat)} {g : List Nat → List Nat} {p x : List Nat} (h : p ∈ ps) : putK (kvL ps g) (kT p) (sT x) = kvL ps (setF g p x) := by
  unfold putK
  rw [any_L, decide_eq_true h, if_pos rfl]
  unfold kvL
  rw [List.map_map]
  refine List.map_congr_left fun q _ => ?_
  simp only [Function.comp]
  by_cases h2 : q = p
  · subst h2; rw [if_pos rfl, setF_same]
  · rw [if_neg (fun e => h2 (kT_inj.mp e)), setF_ne h2]
/-- a step off the way to the end -/
def offE (e p q : List Nat) : Bool := decide (q ≠ []) && decide (q.dropLast = p) && !(q.isPrefixOf e)
def cnt (qs : List (List Nat)) (e p : List Nat) : Nat := (qs.filter (offE e p)).length
theorem cnt_snoc (qs : List (List Nat)) (e p q : List Nat) : cnt (qs ++ [q]) e p = cnt qs e p + if offE e p q = true then 1 else 0 := by
  unfold cnt
  rw [List.filter_append, List.length_append, List.filter_cons]
  split <;> simp
theorem cnt_le (qs : List (List Nat)) (e p : List Nat) : cnt qs e p ≤ qs.length := List.length_filter_le _ _
theorem len_of_leR {a b : List Nat} (h : WalkM.leR a b = true) : a.length ≤ b.length := by
  unfold WalkM.leR RowM.before at h
  by_cases q : a.length ≤ b.length
  · exact q
  · have h1 : b.length < a.length := by omega
    have h2 : ¬ b.length = a.length := by omega
    simp [h1, h2] at h
/-- places in their order -/
structure Ord (ps : List (List Nat)) : Prop where
  t : TreeS ps
  le : ps.Pairwise (fun a b => WalkM.leR a b = true)
theorem ord_srt {ts : List (List Nat)} (t : TreeS ts) : Ord (srt ts) := ⟨⟨WalkM.srt_tree t.t, fun p hp => t.z p (WalkM.srt_mem.mp hp), by rw [WalkM.srt_length]; exact t.n0, by rw [WalkM.srt_length]; exact t.n1⟩, WalkM.srt_pairwise ts⟩
theorem srt_ord {ps : List (List Nat)} (o : Ord ps) : srt ps = ps := by
  refine List.Perm.eq_of_pairwise (le := fun a b => WalkM.leR a b = true) (fun a b ha hb h1 h2 => ?_) (WalkM.srt_pairwise ps) o.le (WalkM.srt_perm ps)
  have ra := (o.t.t.pr a (WalkM.srt_mem.mp ha)).1
  have rb := (o.t.t.pr b hb).1
  unfold WalkM.leR at h1 h2
  simp only [Bool.not_eq_true'] at h1 h2
  exact WalkM.before_eq ra rb h2 h1
theorem ord_before {ps : List (List Nat)} (o : Ord ps) {i j : Nat} {p q : List Nat} (hi : ps[i]? = some p) (hj : ps[j]? = some q) (h : i < j) : p.length ≤ q.length := by
  obtain ⟨h1, rfl⟩ := List.getElem?_eq_some_iff.mp hi
  obtain ⟨h2, rfl⟩ := List.getElem?_eq_some_iff.mp hj
  exact len_of_leR (List.pairwise_iff_getElem.mp o.le i j h1 h2 h)
theorem ord_new {ps : List (List Nat)} (o : Ord ps) {i : Nat} {p : List Nat} (hi : ps[i]? = some p) : p ∉ ps.take i := fun h => by
  obtain ⟨j, hj⟩ := List.mem_iff_getElem?.mp h
  have hji : j < i := by
    have := (List.getElem?_eq_some_iff.mp hj).1
    rw [List.length_take] at this
    omega
  rw [List.getElem?_take_of_lt hji] at hj
  obtain ⟨h1, e1⟩ := List.getElem?_eq_some_iff.mp hi
  obtain ⟨h2, e2⟩ := List.getElem?_eq_some_iff.mp hj
  exact (List.pairwise_iff_getElem.mp o.t.t.nd j i h2 h1 hji) (e2.trans e1.symm)
theorem ord_parent {ps : List (List Nat)} (o : Ord ps) {i : Nat} {p : List Nat} (hi : ps[i]? = some p) (ne : p ≠ []) : p.dropLast ∈ ps.take i := by
  have hp := o.t.t.cl p (List.mem_of_getElem? hi) ne
  obtain ⟨j, hj⟩ := List.mem_iff_getElem?.mp hp
  have hl : p.dropLast.length + 1 = p.length := by
    rw [List.length_dropLast]
    have := List.length_pos_iff.mpr ne
    omega
  have hji : j < i := by
    rcases Nat.lt_trichotomy j i with h | h | h
    · exact h
    · subst h
      rw [hj] at hi
      injection hi with hi
      rw [hi] at hl
      omega
    · have := ord_before o hi hj h
      omega
  exact List.mem_iff_getElem?.mpr ⟨j, by rw [List.getElem?_take_of_lt hji]; exact hj⟩
/-- nothing goes on from a place ahead of it -/
theorem ord_none {ps : List (List Nat)} (o : Ord ps) {i : Nat} {p : List Nat} (e : List Nat) (hi : ps[i]? = some p) : cnt (ps.take (i + 1)) e p = 0 := by
  unfold cnt
  rw [List.length_eq_zero_iff, List.filter_eq_nil_iff]
  intro q hq h
  unfold offE at h
  simp only [Bool.and_eq_true, decide_eq_true_eq] at h
  have hl : p.length + 1 = q.length := by
    rw [← h.1.2, List.length_dropLast]
    have := List.length_pos_iff.mpr h.1.1
    omega
  obtain ⟨j, hj⟩ := List.mem_iff_getElem?.mp hq
  have hji : j < i + 1 := by
    have := (List.getElem?_eq_some_iff.mp hj).1
    rw [List.length_take] at this
    omega
  rw [List.getElem?_take_of_lt hji] at hj
  by_cases z : j = i
  · subst z
    rw [hi] at hj
    injection hj with hj
    rw [hj] at hl
    omega
  · have := ord_before o hj hi (by omega)
    omega
/-- what is left: as many signs as steps off the way -/
def Left (ps : List (List Nat)) (e : List Nat) (g : List Nat → List Nat) : Prop := ∀ q ∈ ps, (g q).length = cnt ps e q ∧ Row (g q)
theorem take_one {ps : List (List Nat)} {i : Nat} {p : List Nat} (h : ps[i]? = some p) : ps.take (i + 1) = ps.take i ++ [p] := by rw [List.take_add_one, h]; rfl
theorem left_in {ps : List (List Nat)} (o : Ord ps) {e : List Nat} {g : List Nat → List Nat} {i : Nat} {p : List Nat} (hi : ps[i]? = some p) (L : Left (ps.take i) e g) (h : p = [] ∨ p.isPrefixOf e = true) : Left (ps.take (i + 1)) e (setF g p []) := by
  intro q hq
  by_cases z : q = p
  · subst z
    rw [setF_same, ord_none o e hi]
    exact ⟨rfl, RowM.nil_row⟩
  · rw [setF_ne z]
    rw [take_one hi] at hq ⊢
    have hq2 : q ∈ ps.take i := (List.mem_append.mp hq).resolve_right fun y => z (List.mem_singleton.mp y)
    have ho : offE e q p = false := by
      unfold offE
      rcases h with h | h
      · rw [h]; simp
      · rw [h]; simp
    rw [cnt_snoc, ho, if_neg (by decide)]
    exact L q hq2
theorem left_on {ps : List (List Nat)} (o : Ord ps) {e : List Nat} {g : List Nat → List Nat} {i : Nat} {m : List Nat} {c : Nat} (hi : ps[i]? = some (m ++ [c])) (L : Left (ps.take i) e g) (h : (m ++ [c]).isPrefixOf e = false) :
    Left (ps.take (i + 1)) e (setF (setF g (m ++ [c]) []) m (setF g (m ++ [c]) [] m ++ [c])) := by
  have nm : m ≠ m ++ [c] := fun z => by
    have := congrArg List.length z
    rw [List.length_append, List.length_singleton] at this
    omega
  have sc : c ∈ sgns := (o.t.t.pr _ (List.mem_of_getElem? hi)).1 c (by simp)
  intro q hq
  have pm : m ∈ ps.take i := by
    have := ord_parent o hi (by simp)
    rwa [List.dropLast_concat] at this
  have ho : offE e q (m ++ [c]) = decide (m = q) := by
    unfold offE
    rw [h, List.dropLast_concat]
    simp
  by_cases z : q = m
  · subst z
    rw [setF_same, setF_ne nm, take_one hi, cnt_snoc, ho, decide_eq_true rfl, if_pos rfl, List.length_append]
    exact ⟨by rw [(L q pm).1]; rfl, row_snoc (L q pm).2 sc⟩
  · rw [setF_ne z]
    by_cases y : q = m ++ [c]
    · rw [y, setF_same, ord_none o e hi]
      exact ⟨rfl, RowM.nil_row⟩
    · rw [setF_ne y]
      rw [take_one hi] at hq ⊢
      have hq2 : q ∈ ps.take i := (List.mem_append.mp hq).resolve_right fun x => y (List.mem_singleton.mp x)
      rw [cnt_snoc, ho, decide_eq_false (fun x => z x.symm), if_neg (by decide)]
      exact L q hq2
theorem left_set {ps : List (List Nat)} {e : List Nat} {g : List Nat → List Nat} {p y : List Nat} (L : Left ps e g) (hp : p ∈ ps) (h : y.Perm (g p)) : Left ps e (setF g p y) := by
  intro q hq
  by_cases z : q = p
  · subst z
    rw [setF_same, h.length_eq]
    exact ⟨(L q hq).1, fun c hc => (L q hq).2 c (h.mem_iff.mp hc)⟩
  · rw [setF_ne z]
    exact L q hq
/-- one sign each, sorted -/
theorem srt_signs (x : List Nat) : ∃ y : List Nat, srt (x.map fun c => [c]) = y.map (fun c => [c]) ∧ y.Perm x := by
  refine ⟨(srt (x.map fun c => [c])).map (fun p => p.headD 0), ?_, ?_⟩
  · rw [List.map_map]
    refine (List.map_id _).symm.trans (List.map_congr_left fun p hp => ?_)
    obtain ⟨c, _, rfl⟩ := List.mem_map.mp (WalkM.srt_mem.mp hp)
    rfl
  · have h := (WalkM.srt_perm (x.map fun c => [c])).map (fun p => p.headD 0)
    rw [List.map_map] at h
    have e : x.map ((fun p : List Nat => p.headD 0) ∘ fun c => [c]) = x := by
      conv => rhs; rw [← List.map_id x]
      rfl
    rwa [e] at h
/-! ### in how many ways -/
def fct : Nat → Nat
  | 0 => 1
  | n + 1 => fct n * (n + 1)
theorem fct_step (a j : Nat) : ((a * fct (j + 1) : Nat) : Int) = ((a * fct j : Nat) : Int) * (0 + (j : Int) + 1) := by
  have e : (0 + (j : Int) + 1) = ((j + 1 : Nat) : Int) := by omega
  rw [e, ← Int.natCast_mul, Nat.mul_assoc]
  rfl
def ways (f : List Nat → Nat) (qs : List (List Nat)) : Nat := qs.foldl (fun a p => a * fct (f p)) 1
theorem ways_snoc (f : List Nat → Nat) (qs : List (List Nat)) (p : List Nat) : ways f (qs ++ [p]) = ways f qs * fct (f p) := by simp [ways, List.foldl_append]
theorem ways_congr {f g : List Nat → Nat} {qs : List (List Nat)} (h : ∀ q ∈ qs, f q = g q) : ways f qs = ways g qs := by
  unfold ways
  generalize 1 = a
  induction qs generalizing a with
  | nil => rfl
  | cons q qs ih =>
    rw [List.foldl_cons, List.foldl_cons, h q List.mem_cons_self]
    exact ih (fun r hr => h r (List.mem_cons_of_mem _ hr)) _
/-- rounds in the heap -/
def rdfs (e : List Nat) (d : Addr) : List (Str × V) := [(Str.ofString "own_end", sT e), (Str.ofString "own_left", .ref d), (Str.ofString "own_here", sT [])]
def RdAt (C : Addr) (H : Hp) (a d : Addr) (ps : List (List Nat)) (e : List Nat) (g : List Nat → List Nat) : Prop := (∃ dx, H a = some (.ins C dx (rdfs e d))) ∧ H d = some (.dK (kvL ps g)) ∧ a ≠ d

/-! ### how many they can be -/
theorem fct_le : ∀ n : Nat, n ≤ 64 → fct n ≤ 64 ^ n
  | 0, _ => Nat.le_refl _
  | n + 1, h => by
    rw [fct, Nat.pow_succ]
    exact Nat.mul_le_mul (fct_le n (by omega)) h
theorem ways_le {f : List Nat → Nat} (h : ∀ q, f q ≤ 64) (qs : List (List Nat)) : ways f qs ≤ 64 ^ (qs.map f).sum := by
  unfold ways
  have g : ∀ (qs : List (List Nat)) (a : Nat), qs.foldl (fun a p => a * fct (f p)) a ≤ a * 64 ^ (qs.map f).sum := by
    intro qs
    induction qs with
    | nil => intro a; simp
    | cons q qs ih =>
      intro a
      rw [List.foldl_cons, List.map_cons, List.sum_cons, Nat.pow_add, ← Nat.mul_assoc]
      exact Nat.le_trans (ih _) (Nat.mul_le_mul (Nat.mul_le_mul (Nat.le_refl _) (fct_le _ (h q))) (Nat.le_refl _))
  have := g qs 1
  rwa [Nat.one_mul] at this
theorem off_zero {e q : List Nat} : ∀ {ps : List (List Nat)}, (∀ p ∈ ps, p ≠ q.dropLast) → (ps.map fun p => if offE e p q = true then 1 else 0).sum = 0
  | [], _ => rfl
  | p :: ps, h => by
    have hp : offE e p q = false := by
      unfold offE
      have := h p List.mem_cons_self
      simp [Ne.symm this]
    rw [List.map_cons, List.sum_cons, hp, off_zero fun r hr => h r (List.mem_cons_of_mem _ hr)]
    rfl
theorem off_one {e q : List Nat} : ∀ {ps : List (List Nat)}, ps.Nodup → (ps.map fun p => if offE e p q = true then 1 else 0).sum ≤ 1
  | [], _ => Nat.zero_le _
  | p :: ps, h => by
    obtain ⟨h1, h2⟩ := List.nodup_cons.mp h
    rw [List.map_cons, List.sum_cons]
    by_cases z : p = q.dropLast
    · rw [off_zero fun r hr e => h1 (by rw [z, ← e]; exact hr)]
      split <;> omega
    · have hp : offE e p q = false := by
        unfold offE
        simp [Ne.symm z]
      rw [hp]
      have := off_one (e := e) (q := q) h2
      simpa using this
theorem sum_add (f g : List Nat → Nat) : ∀ ps : List (List Nat), (ps.map fun p => f p + g p).sum = (ps.map f).sum + (ps.map g).sum
  | [] => rfl
  | p :: ps => by
    rw [List.map_cons, List.map_cons, List.map_cons, List.sum_cons, List.sum_cons, List.sum_cons, sum_add f g ps]
    omega
theorem cnt_sum {ps : List (List Nat)} (nd : ps.Nodup) (e : List Nat) (qs : List (List Nat)) : (ps.map (cnt qs e)).sum ≤ qs.length := by
  have g : ∀ n, (ps.map (cnt (qs.take n) e)).sum ≤ (qs.take n).length := by
    intro n
    induction n with
    | zero =>
      have : ∀ ps : List (List Nat), (ps.map (cnt (qs.take 0) e)).sum = 0 := by
        intro ps
        induction ps with
        | nil => rfl
        | cons p ps ih =>
          rw [List.map_cons, List.sum_cons, ih]
          rfl
      rw [this]
      exact Nat.zero_le _
    | succ n ih =>
      cases hq : qs[n]? with
      | none =>
        have : qs.take (n + 1) = qs.take n := by rw [List.take_add_one, hq]; simp
        rw [this]
        exact ih
      | some q =>
        rw [take_one hq]
        have ec : (cnt (qs.take n ++ [q]) e) = fun p => cnt (qs.take n) e p + if offE e p q = true then 1 else 0 := funext fun p => cnt_snoc _ e p q
        rw [ec, sum_add, List.length_append]
        exact Nat.add_le_add ih (off_one nd)
  have := g qs.length
  rwa [List.take_length] at this
theorem log_small {n k : Nat} (hk : 0 < k) (h : n < 2 ^ k) : n.log2 < k := by
  by_cases z : n = 0
  · subst z; exact hk
  · exact (Nat.log2_lt z).mpr h
theorem ways_log {ps : List (List Nat)} (o : Ord ps) (e : List Nat) : (ways (cnt ps e) ps).log2 < 1900 := by
  have h1 := ways_le (f := cnt ps e) (fun q => Nat.le_trans (cnt_le ps e q) (Nat.le_trans o.t.n1 (by decide))) ps
  have h2 := Nat.le_trans (cnt_sum o.t.t.nd e ps) o.t.n1
  have h3 : (64 : Nat) ^ (ps.map (cnt ps e)).sum ≤ 64 ^ 61 := Nat.pow_le_pow_right (by decide) h2
  have h4 : (64 : Nat) ^ 61 = 2 ^ 366 := by rw [show (64 : Nat) = 2 ^ 6 from rfl, ← Nat.pow_mul]
  have h5 : (2 : Nat) ^ 366 < 2 ^ 367 := Nat.pow_lt_pow_right (by decide) (by decide)
  have := log_small (n := ways (cnt ps e) ps) (k := 367) (by decide) (Nat.lt_of_le_of_lt (Nat.le_trans h1 h3) (h4 ▸ h5))
  omega
theorem small_log {i : Int} (h : i.natAbs < 1024) : i.natAbs.log2 < 1900 := by
  have := log_small (n := i.natAbs) (k := 10) (by decide) h
  omega
theorem two_ints {i j : Int} (hi : i.natAbs.log2 < 1900) (hj : j.natAbs.log2 < 1900) : (PyData.list [.int i, .int j]).showable = true ∧ (PyData.list [.int i, .int j]).hasDict = false ∧ (PyData.list [.int i, .int j]).shown.length ≤ sizeLine ∧ (PyData.list [.int i, .int j]).depth ≤ 60 := by
  refine ⟨?_, by simp [PyData.hasDict, PyData.hasDictAll], ?_, by simp [PyData.depth, PyData.depthAll]⟩
  · have h1 : i.natAbs.log2 < 1920 := by omega
    have h2 : j.natAbs.log2 < 1920 := by omega
    simp [PyData.showable, PyData.showableAll, h1, h2]
  · have l1 : (PyData.int i).shown.length ≤ 2000 := Nat.le_trans (PyProof.Rows.int_text_len_1921 (by omega)) (by decide)
    have l2 : (PyData.int j).shown.length ≤ 2000 := Nat.le_trans (PyProof.Rows.int_text_len_1921 (by omega)) (by decide)
    show (listText [(PyData.int i).shown, (PyData.int j).shown]).length ≤ sizeLine
    refine Nat.le_trans (listText_len_le _) ?_
    simp only [List.map_cons, List.map_nil, List.sum_cons, List.sum_nil, List.length_cons, List.length_nil]
    exact Nat.le_trans (by omega : _ ≤ 5000) (by decide)

/-! ### rows that are the same -/
def sameR (l m : List Nat) : Bool := decide (srt (gone l) = srt (gone m)) && decide (RowM.plain l = RowM.plain m)
theorem kit_self {K : PySem.W.Frag} {C : Addr} : PySem.W.kitOne K (.ref C) (.ref C) = some true := by simp [PySem.W.kitOne]
theorem mem_S {ps : List (List Nat)} {p : List Nat} : S p ∈ ps.map S ↔ p ∈ ps := by
  rw [List.mem_map]
  exact ⟨fun ⟨q, hq, e⟩ => by rw [← S_inj1 e]; exact hq, fun h => ⟨p, h, rfl⟩⟩
theorem mems_S {ps us : List (List Nat)} : (∀ k, k ∈ ps.map S ↔ k ∈ us.map S) ↔ ∀ p, p ∈ ps ↔ p ∈ us := by
  constructor
  · intro h p
    exact mem_S.symm.trans ((h (S p)).trans mem_S)
  · intro h k
    rw [List.mem_map, List.mem_map]
    exact ⟨fun ⟨q, hq, e⟩ => ⟨q, (h q).mp hq, e⟩, fun ⟨q, hq, e⟩ => ⟨q, (h q).mpr hq, e⟩⟩
theorem same_iff {l m : List Nat} (rl : Row l) (rm : Row m) : (RowM.plain l = RowM.plain m ∧ ∀ p, p ∈ srt (gone l) ↔ p ∈ srt (gone m)) ↔ sameR l m = true := by
  have tl := WalkM.tree_gone rl
  have tm := WalkM.tree_gone rm
  unfold sameR
  rw [Bool.and_eq_true, decide_eq_true_eq, decide_eq_true_eq]
  constructor
  · rintro ⟨h1, h2⟩
    refine ⟨WalkM.srt_uniq ((List.perm_ext_iff_of_nodup tl.nd tm.nd).mpr fun p => ?_) (fun p hp => (tl.pr p hp).1), h1⟩
    exact WalkM.srt_mem.symm.trans ((h2 p).trans WalkM.srt_mem)
  · rintro ⟨h1, h2⟩
    exact ⟨h2, fun p => by rw [h1]⟩
theorem sameR_comm (l m : List Nat) : sameR l m = sameR m l := by
  unfold sameR
  congr 1 <;> exact decide_eq_decide.mpr eq_comm
theorem sameR_self (l : List Nat) : sameR l l = true := by simp [sameR]
theorem cut_take (l : List Nat) (n : Nat) : cutS (S l) none (some (n : Int)) = S (l.take n) := by
  rw [cut_S, HT.sIx_none, HT.sIx_nat, List.drop_zero, Nat.sub_zero]
  congr 1
  by_cases h : n ≤ l.length
  · rw [Nat.min_eq_left h]
  · rw [Nat.min_eq_right (by omega), List.take_of_length_le (Nat.le_refl _), List.take_of_length_le (by omega)]
theorem cut_m1 (l : List Nat) : cutS (S l) none (some (-(1 : Int))) = S l.dropLast := by
  rcases List.eq_nil_or_concat l with rfl | ⟨m, c, rfl⟩
  · decide
  · rw [List.concat_eq_append, List.dropLast_concat]
    exact cut_last
theorem row_take {l : List Nat} (h : Row l) (n : Nat) : Row (l.take n) := fun c hc => h c (List.mem_of_mem_take hc)
theorem row_drop {l : List Nat} (h : Row l) (n : Nat) : Row (l.drop n) := fun c hc => h c (List.mem_of_mem_drop hc)
theorem at_in {L : List V} {z : Int} (h0 : 0 ≤ z) (h1 : z < (L.length : Int)) : ∃ y, atI L z = some y ∧ y ∈ L := by
  obtain ⟨n, rfl⟩ : ∃ n : Nat, z = (n : Int) := ⟨z.toNat, by omega⟩
  have hn : n < L.length := by omega
  exact ⟨L[n], atI_nat (List.getElem?_eq_getElem hn), List.getElem_mem _⟩
/-! ### rows put together -/
theorem plain_app_r {n x : List Nat} (rn : Row n) (rx : Row x) : RowM.plain (n ++ RowM.plain x) = RowM.plain (n ++ x) := by
  unfold RowM.plain
  rw [RowM.act_append, RowM.act_append]
  have := RowM.act_plain (w := x) (st := RowM.act n []) rx (RowM.act_red _ _ trivial) (RowM.act_row _ _ rn RowM.nil_row)
  unfold RowM.plain at this
  rw [this]
theorem plain_app_l {n x : List Nat} (rn : Row n) : RowM.plain (RowM.plain n ++ x) = RowM.plain (n ++ x) := by
  have h := RowM.act_plain (w := n) (st := []) rn trivial RowM.nil_row
  show (RowM.act (RowM.plain n ++ x) []).reverse = (RowM.act (n ++ x) []).reverse
  rw [RowM.act_append, RowM.act_append, h]
theorem gone_app {n l : List Nat} (rn : Row n) (rl : Row l) (p : List Nat) : p ∈ gone (n ++ l) ↔ p ∈ gone n ∨ ∃ q ∈ gone l, p = RowM.plain (n ++ q) := by
  refine WalkM.snoc_ind (P := fun l => Row l → (p ∈ gone (n ++ l) ↔ p ∈ gone n ∨ ∃ q ∈ gone l, p = RowM.plain (n ++ q))) (fun _ => ?_) (fun l c ih rl => ?_) l rl
  · rw [List.append_nil, WalkM.gone_nil]
    refine ⟨.inl, fun h => h.elim id ?_⟩
    rintro ⟨q, hq, rfl⟩
    rw [List.mem_singleton.mp hq, List.append_nil]
    exact WalkM.end_gone n
  have hl : Row l := fun d hd => rl d (List.mem_append_left _ hd)
  rw [← List.append_assoc, WalkM.gone_snoc, WalkM.mem_addK, ih hl, ← WalkM.plain_snoc, WalkM.gone_snoc, ← WalkM.plain_snoc, List.append_assoc]
  constructor
  · rintro ((h | ⟨q, hq, e⟩) | h)
    · exact .inl h
    · exact .inr ⟨q, WalkM.mem_addK.mpr (.inl hq), e⟩
    · exact .inr ⟨_, WalkM.mem_addK.mpr (.inr rfl), by rw [plain_app_r rn rl]; exact h⟩
  · rintro (h | ⟨q, hq, e⟩)
    · exact .inl (.inl h)
    · rcases WalkM.mem_addK.mp hq with h | h
      · exact .inl (.inr ⟨q, h, e⟩)
      · rw [h, plain_app_r rn rl] at e
        exact .inr e
theorem sameR_iff {l m : List Nat} (rl : Row l) (rm : Row m) : sameR l m = true ↔ RowM.plain l = RowM.plain m ∧ ∀ p, p ∈ gone l ↔ p ∈ gone m := by
  rw [← same_iff rl rm]
  simp only [WalkM.srt_mem]
theorem sameR_trans {l m n : List Nat} (rl : Row l) (rm : Row m) (rn : Row n) (h1 : sameR l m = true) (h2 : sameR m n = true) : sameR l n = true := by
  obtain ⟨a, b⟩ := (sameR_iff rl rm).mp h1
  obtain ⟨c, d⟩ := (sameR_iff rm rn).mp h2
  exact (sameR_iff rl rn).mpr ⟨a.trans c, fun p => (b p).trans (d p)⟩
theorem sameR_ahead {n l m : List Nat} (rn : Row n) (rl : Row l) (rm : Row m) (h : sameR l m = true) : sameR (n ++ l) (n ++ m) = true := by
  obtain ⟨a, b⟩ := (sameR_iff rl rm).mp h
  refine (sameR_iff (row_app rn rl) (row_app rn rm)).mpr ⟨by rw [← plain_app_r rn rl, a, plain_app_r rn rm], fun p => ?_⟩
  rw [gone_app rn rl, gone_app rn rm]
  refine or_congr Iff.rfl ⟨?_, ?_⟩
  · rintro ⟨q, hq, e⟩; exact ⟨q, (b q).mp hq, e⟩
  · rintro ⟨q, hq, e⟩; exact ⟨q, (b q).mpr hq, e⟩
theorem sameR_behind {n l m : List Nat} (rn : Row n) (rl : Row l) (rm : Row m) (h : sameR l m = true) : sameR (l ++ n) (m ++ n) = true := by
  obtain ⟨a, b⟩ := (sameR_iff rl rm).mp h
  have e : ∀ x, RowM.plain (l ++ x) = RowM.plain (m ++ x) := fun x => by rw [← plain_app_l rl, a, plain_app_l rm]
  refine (sameR_iff (row_app rl rn) (row_app rm rn)).mpr ⟨e n, fun p => ?_⟩
  rw [gone_app rl rn, gone_app rm rn, b p]
  simp only [e]
/-! ### worlds: the dict of the ways, keys (sign, thing) -/
abbrev Kvs := List (List Key × V)
def ky (c : Nat) (i : Int) : List Key := [.inr (S [c]), .inl i]
theorem ky_inj {c e : Nat} {i j : Int} (h : ky c i = ky e j) : c = e ∧ i = j := by
  unfold ky at h
  injection h with h1 h2
  injection h2 with h2 _
  injection h1 with h1
  injection h2 with h2
  refine ⟨?_, h2⟩
  have := congrArg (fun z : Str => z.cps.toList) h1
  simpa using this
/-- what the ways are: they lead things to things, and back -/
structure Ways (kvs : Kvs) (n : Nat) : Prop where
  val : ∀ k v, valV kvs k = some v → ∃ (c : Nat) (i j : Nat), k = ky c i ∧ c ∈ sgns ∧ v = .int (j : Int) ∧ i < n ∧ j < n
  sym : ∀ (c : Nat) (i j : Int), valV kvs (ky c i) = some (.int j) → valV kvs (ky (con c) j) = some (.int i)
theorem Ways.nil {n : Nat} : Ways [] n := ⟨fun k v h => (by rw [valV_nil] at h; cases h), fun c i j h => (by rw [valV_nil] at h; cases h)⟩
theorem Ways.lay {kvs : Kvs} {n c i j : Nat} (w : Ways kvs n) (hc : c ∈ sgns) (hi : i < n) (hj : j < n) (h1 : valV kvs (ky c i) = none) (h2 : valV kvs (ky (con c) j) = none) :
    Ways (putK (putK kvs (ky c i) (.int (j : Int))) (ky (con c) j) (.int (i : Int))) n := by
  have hcc := RowM.con_mem hc
  have ne := RowM.con_ne hc
  refine ⟨fun k v h => ?_, fun e a b h => ?_⟩
  · rw [valV_put] at h
    by_cases q : k = ky (con c) j
    · rw [if_pos q] at h
      injection h with h
      exact ⟨con c, j, i, q, hcc, h.symm, hj, hi⟩
    · rw [if_neg q, valV_put] at h
      by_cases q2 : k = ky c i
      · rw [if_pos q2] at h
        injection h with h
        exact ⟨c, i, j, q2, hc, h.symm, hi, hj⟩
      · rw [if_neg q2] at h
        exact w.val k v h
  · rw [valV_put] at h
    by_cases q : ky e a = ky (con c) j
    · rw [if_pos q] at h
      obtain ⟨rfl, rfl⟩ := ky_inj q
      injection h with h
      injection h with h
      subst h
      rw [RowM.con_con hc, valV_put, if_neg (fun z => ne (ky_inj z).1.symm), valV_put, if_pos rfl]
    · rw [if_neg q, valV_put] at h
      by_cases q2 : ky e a = ky c i
      · rw [if_pos q2] at h
        obtain ⟨rfl, rfl⟩ := ky_inj q2
        injection h with h
        injection h with h
        subst h
        rw [valV_put, if_pos rfl]
      · rw [if_neg q2] at h
        have s := w.sym e a b h
        rw [valV_put, if_neg (fun z => by rw [z, h2] at s; cases s), valV_put, if_neg (fun z => by rw [z, h1] at s; cases s)]
        exact s
/-- the thing to which a sign leads -/
def stepW (kvs : Kvs) (o : Option Int) (c : Nat) : Option Int := o.bind fun i => match valV kvs (ky c i) with
  | some (.int j) => some j
  | _ => none
def ledW (kvs : Kvs) (l : List Nat) (o : Option Int) : Option Int := l.foldl (stepW kvs) o
theorem ledW_none (kvs : Kvs) : ∀ l, ledW kvs l none = none
  | [] => rfl
  | c :: l => ledW_none kvs l
theorem ledW_app (kvs : Kvs) (l m : List Nat) (o : Option Int) : ledW kvs (l ++ m) o = ledW kvs m (ledW kvs l o) := by simp [ledW, List.foldl_append]
theorem stepW_back {kvs : Kvs} {n : Nat} (w : Ways kvs n) {c : Nat} {i j : Int} (h : stepW kvs (some i) c = some j) : stepW kvs (some j) (con c) = some i := by
  have e : valV kvs (ky c i) = some (.int j) := by
    unfold stepW at h
    simp only [Option.bind_some] at h
    split at h
    · rename_i j' q
      injection h with h
      rw [q, h]
    · cases h
  have s := w.sym c i j e
  unfold stepW
  simp only [Option.bind_some, s]
theorem ledW_back {kvs : Kvs} {n : Nat} (w : Ways kvs n) : ∀ (l : List Nat) (i j : Int), ledW kvs l (some i) = some j → ledW kvs (RowM.turn l) (some j) = some i
  | [], i, j, h => by
    injection h with h
    subst h
    rfl
  | c :: l, i, j, h => by
    have h2 : ledW kvs l (stepW kvs (some i) c) = some j := h
    cases e : stepW kvs (some i) c with
    | none => rw [e, ledW_none] at h2; cases h2
    | some m =>
      rw [e] at h2
      rw [RowM.turn_cons, ledW_app, ledW_back w l m j h2]
      exact stepW_back w e
theorem ledW_loop {kvs : Kvs} {n : Nat} (w : Ways kvs n) (u v : List Nat) (o : Option Int) : ledW kvs (((u ++ RowM.turn u) ++ u) ++ v) o = ledW kvs (u ++ v) o := by
  cases o with
  | none => rw [ledW_none, ledW_none]
  | some i =>
    rw [ledW_app, ledW_app, ledW_app, ledW_app kvs u v]
    congr 1
    cases e : ledW kvs u (some i) with
    | none => rw [ledW_none, ledW_none]
    | some j => rw [ledW_back w u i j e, e]
theorem ledW_range {kvs : Kvs} {n : Nat} (w : Ways kvs n) : ∀ (l : List Nat) (i j : Int), 0 ≤ i → i < n → ledW kvs l (some i) = some j → 0 ≤ j ∧ j < n
  | [], i, j, h0, h1, h => by
    injection h with h
    omega
  | c :: l, i, j, h0, h1, h => by
    have h2 : ledW kvs l (stepW kvs (some i) c) = some j := h
    cases e : stepW kvs (some i) c with
    | none => rw [e, ledW_none] at h2; cases h2
    | some m =>
      rw [e] at h2
      have q : valV kvs (ky c i) = some (.int m) := by
        unfold stepW at e
        simp only [Option.bind_some] at e
        split at e
        · rename_i j' q
          injection e with e
          rw [q, e]
        · cases e
      obtain ⟨_, _, b, _, _, e2, _, hb⟩ := w.val _ _ q
      injection e2 with e2
      exact ledW_range w l m j (by omega) (by omega) h2
def optV : Option Int → V
  | some i => .int i
  | none => .non
/-- the things from which a row can be done, with those to which it comes -/
def pairsW (kvs : Kvs) (l : List Nat) (n : Nat) : List (Int × Int) := (List.range n).filterMap fun (t : Nat) => (ledW kvs l (some (t : Int))).map fun s => ((t : Int), s)
theorem pairs_eq {f g : Nat → Option Int} : ∀ n : Nat, ((List.range n).filterMap fun t => (f t).map fun s => ((t : Int), s)) = ((List.range n).filterMap fun t => (g t).map fun s => ((t : Int), s)) ↔ ∀ t, t < n → f t = g t
  | 0 => by simp
  | n + 1 => by
    have fst : ∀ (h : Nat → Option Int) (m : Nat), ∀ p ∈ (List.range m).filterMap (fun t => (h t).map fun s => ((t : Int), s)), p.1 < (m : Int) := fun h m p hp => by
      obtain ⟨t, ht, e⟩ := List.mem_filterMap.mp hp
      obtain ⟨s, _, e⟩ := Option.map_eq_some_iff.mp e
      have := List.mem_range.mp ht
      rw [← e]
      show (t : Int) < m
      omega
    constructor
    · intro h
      rw [List.range_succ, List.filterMap_append, List.filterMap_append] at h
      have key : ((List.range n).filterMap fun t => (f t).map fun s => ((t : Int), s)) = ((List.range n).filterMap fun t => (g t).map fun s => ((t : Int), s)) ∧ f n = g n := by
        have cut : ∀ (a b : List (Int × Int)) (x y : Option Int), (∀ p ∈ a, p.1 < (n : Int)) → (∀ p ∈ b, p.1 < (n : Int)) → a ++ (x.map fun s => ((n : Int), s)).toList = b ++ (y.map fun s => ((n : Int), s)).toList → a = b ∧ x = y := by
          intro a b x y ha hb e
          have fl : ∀ (a : List (Int × Int)) (x : Option Int), (∀ p ∈ a, p.1 < (n : Int)) → (a ++ (x.map fun s => ((n : Int), s)).toList).filter (fun p => decide (p.1 < (n : Int))) = a ∧ (a ++ (x.map fun s => ((n : Int), s)).toList).filter (fun p => !decide (p.1 < (n : Int))) = (x.map fun s => ((n : Int), s)).toList := by
            intro a x ha
            have h1 : a.filter (fun p => decide (p.1 < (n : Int))) = a := List.filter_eq_self.mpr fun p hp => decide_eq_true (ha p hp)
            have h2 : a.filter (fun p => !decide (p.1 < (n : Int))) = [] := List.filter_eq_nil_iff.mpr fun p hp => by simp [ha p hp]
            rw [List.filter_append, List.filter_append, h1, h2]
            cases x <;> simp
          obtain ⟨p1, p2⟩ := fl a x ha
          obtain ⟨q1, q2⟩ := fl b y hb
          rw [e] at p1 p2
          refine ⟨p1.symm.trans q1, ?_⟩
          have := p2.symm.trans q2
          cases x <;> cases y <;> simp_all
        refine cut _ _ _ _ (fst f n) (fst g n) ?_
        have one : ∀ x : Option Int, (List.filterMap (fun t : Nat => (if t = n then x else none).map fun s => ((t : Int), s)) [n]) = (x.map fun s => ((n : Int), s)).toList := fun x => by cases x <;> simp
        have h1 : ∀ h : Nat → Option Int, List.filterMap (fun t : Nat => (h t).map fun s => ((t : Int), s)) [n] = ((h n).map fun s => ((n : Int), s)).toList := fun h => by cases e : h n <;> simp [e]
        rw [← h1, ← h1]
        exact h
      intro t ht
      rcases Nat.lt_succ_iff_lt_or_eq.mp ht with w | rfl
      · exact (pairs_eq n).mp key.1 t w
      · exact key.2
    · intro h
      have cg : ∀ l : List Nat, (∀ t ∈ l, f t = g t) → (l.filterMap fun t => (f t).map fun s => ((t : Int), s)) = (l.filterMap fun t => (g t).map fun s => ((t : Int), s)) := by
        intro l
        induction l with
        | nil => intro _; rfl
        | cons a l ih =>
          intro hl
          rw [List.filterMap_cons, List.filterMap_cons, hl a List.mem_cons_self, ih fun t ht => hl t (List.mem_cons_of_mem _ ht)]
      exact cg _ fun t ht => h t (List.mem_range.mp ht)
/-! ### a world in the heap -/
def wfs (n : Nat) (dw : Addr) : List (Str × V) := [(Str.ofString "own_many", .int (n : Int)), (Str.ofString "own_ways", .ref dw)]
def WAt (C : Addr) (H : Hp) (a dw : Addr) (n : Nat) (kvs : Kvs) : Prop := (∃ dx, H a = some (.ins C dx (wfs n dw))) ∧ H dw = some (.dT kvs)
theorem WAt.same {C : Addr} {H H' : Hp} {a dw : Addr} {n : Nat} {kvs : Kvs} (h : WAt C H a dw n kvs) (s : Same H H') : WAt C H' a dw n kvs := ⟨let ⟨dx, e⟩ := h.1; ⟨dx, s _ _ e⟩, s _ _ h.2⟩
theorem WAt.ne {C : Addr} {H : Hp} {a dw : Addr} {n : Nat} {kvs : Kvs} (h : WAt C H a dw n kvs) : a ≠ dw := fun e => by
  obtain ⟨⟨dx, q⟩, r⟩ := h
  rw [e, r] at q
  cases q
/-- the deeds' small letters -/
def Deed (c : Nat) : Prop := c ∈ sgns ∧ 97 ≤ c
theorem deed_in : ∀ c ∈ sgns, 97 ≤ c → c ∈ (Str.ofString "abcdef").cps.toList := by decide +kernel
theorem deed_up : ∀ c ∈ sgns, 97 ≤ c → up c = con c := by decide
theorem kV_ky (c : Nat) (i : Int) : (ky c i).map kV = [.str (S [c]), .int i] := rfl
/-- tuples of two numbers -/
inductive TP (H : Hp) : List Addr → List (Int × Int) → Prop
  | nil : TP H [] []
  | snoc {ts : List Addr} {ps : List (Int × Int)} {t : Addr} {p : Int × Int} (h : TP H ts ps) (e : H t = some (.tup [.int p.1, .int p.2])) : TP H (ts ++ [t]) (ps ++ [p])
theorem TP.same {H H' : Hp} {ts : List Addr} {ps : List (Int × Int)} (h : TP H ts ps) (s : ∀ b xs, H b = some (.tup xs) → H' b = some (.tup xs)) : TP H' ts ps := by
  induction h with
  | nil => exact .nil
  | snoc _ e ih => exact .snoc ih (s _ _ e)
def pD (ps : List (Int × Int)) : List PyData := ps.map fun p => .tuple [.int p.1, .int p.2]
theorem dpall_app {K : PySem.W.Frag} {H : Hp} : ∀ {vs ws : List V} {ds es : List PyData}, DpAll K H vs ds → DpAll K H ws es → DpAll K H (vs ++ ws) (ds ++ es)
  | _, _, _, _, .nil, h => h
  | _, _, _, _, .cons a b, h => .cons a (dpall_app b h)
theorem TP.dp {K : PySem.W.Frag} {H : Hp} {ts : List Addr} {ps : List (Int × Int)} (h : TP H ts ps) : DpAll K H (ts.map V.ref) (pD ps) := by
  induction h with
  | nil => exact .nil
  | @snoc ts ps t p _ e ih =>
    unfold pD at *
    rw [List.map_append, List.map_append]
    exact dpall_app ih (.cons (.tup (Evl.st_of e) (.cons (.int _) (.cons (.int _) .nil))) .nil)
theorem eqv_pD : ∀ ps qs : List (Int × Int), PyData.eqvAll (pD ps) (pD qs) = decide (ps = qs)
  | [], [] => by simp [pD, PyData.eqvAll]
  | [], _ :: _ => by simp [pD, PyData.eqvAll]
  | _ :: _, [] => by simp [pD, PyData.eqvAll]
  | (a, b) :: ps, (c, d) :: qs => by
    have ih := eqv_pD ps qs
    unfold pD at ih ⊢
    simp only [List.map_cons, PyData.eqvAll, PyData.eqv, eqv_int, ih]
    by_cases h1 : a = c
    · by_cases h2 : b = d
      · by_cases h3 : ps = qs
        · simp [h1, h2, h3]
        · simp [h1, h2, h3]
      · simp [h1, h2]
    · simp [h1]
theorem shaped_pD (ps : List (Int × Int)) : SeqAt.shaped (.list (pD ps)) = true := by
  have h1 : PyData.canLayAll0 (pD ps) = true := by
    unfold pD
    induction ps with
    | nil => rfl
    | cons p ps ih => simp [PyData.canLayAll0, PyData.canLay0, ih]
  have h2 : ∀ ps : List (Int × Int), PyData.depthAll (pD ps) ≤ 1 := by
    intro ps
    unfold pD
    induction ps with
    | nil => simp [PyData.depthAll]
    | cons p ps ih =>
      have e : PyData.depth (.tuple [.int p.1, .int p.2]) = 1 := by simp [PyData.depth, PyData.depthAll]
      rw [List.map_cons, PyData.depthAll, e]
      omega
  have h2 := h2 ps
  have h3 : PyData.depth (.list (pD ps)) ≤ 2 := by
    rw [PyData.depth]
    omega
  simp only [SeqAt.shaped, PyData.canLay0, h1, Bool.true_and, decide_eq_true_eq]
  exact Nat.le_trans h3 (by decide)
/-! ### the law's world: the world at a, its dict at dw, the law's own dict at dl, the pool at p -/
structure Apart (H0 : Hp) (p a dw dl : Addr) : Prop where
  ap : a ≠ p
  wp : dw ≠ p
  lp : dl ≠ p
  lw : dl ≠ dw
  aw : a ≠ dw
  al : a ≠ dl
  fw : H0 dw = none
  fl : H0 dl = none
structure WS (C : Addr) (H0 H : Hp) (p a dw dl : Addr) (n : Nat) (kw kl : Kvs) : Prop where
  w : WAt C H a dw n kw
  l : H dl = some (.dT kl)
  pl : Pool H p
  old : ∀ b o, b ≠ p → H0 b = some o → H b = some o
section
variable {C : Addr} {H0 H H' : Hp} {p a dw dl : Addr} {n : Nat} {kw kl k2 : Kvs}
theorem WS.same (h : WS C H0 H p a dw dl n kw kl) (s : Same H H') : WS C H0 H' p a dw dl n kw kl := ⟨h.w.same s, s _ _ h.l, h.pl.same s, fun b o n e => s _ _ (h.old b o n e)⟩
theorem WS.off (h : WS C H0 H p a dw dl n kw kl) (d : Apart H0 p a dw dl) (o : Off p H H') (q : Pool H' p) : WS C H0 H' p a dw dl n kw kl :=
  ⟨⟨let ⟨dx, e⟩ := h.w.1; ⟨dx, o _ _ d.ap e⟩, o _ _ d.wp h.w.2⟩, o _ _ d.lp h.l, q, fun b u n e => o _ _ n (h.old b u n e)⟩
theorem WS.putW (h : WS C H0 H p a dw dl n kw kl) (d : Apart H0 p a dw dl) (o : Off dw H H') (g : H' dw = some (.dT k2)) : WS C H0 H' p a dw dl n k2 kl :=
  ⟨⟨let ⟨dx, e⟩ := h.w.1; ⟨dx, o _ _ d.aw e⟩, g⟩, o _ _ d.lw h.l, let ⟨c, m, e, r⟩ := h.pl; ⟨c, m, o _ _ d.wp.symm e, r⟩, fun b u n e => o _ _ (ne_of_none e d.fw) (h.old b u n e)⟩
theorem WS.putL (h : WS C H0 H p a dw dl n kw kl) (d : Apart H0 p a dw dl) : WS C H0 (upd H dl (.dT k2)) p a dw dl n kw k2 :=
  ⟨⟨let ⟨dx, e⟩ := h.w.1; ⟨dx, by rw [upd_ne d.al]; exact e⟩, by rw [upd_ne d.lw.symm]; exact h.w.2⟩, upd_same, let ⟨c, m, e, r⟩ := h.pl; ⟨c, m, by rw [upd_ne d.lp.symm]; exact e, r⟩,
    fun b u n e => by rw [upd_ne (ne_of_none e d.fl)]; exact h.old b u n e⟩
end
theorem putK_le (kvs : Kvs) (k : List Key) (v : V) : (putK kvs k v).length ≤ kvs.length + 1 := by
  unfold putK
  split <;> simp
theorem deed_at : ∀ i : Nat, i < 6 → ∃ c, (Str.ofString "abcdef").cps.toList[i]? = some c ∧ Deed c := by
  have h : ∀ i : Nat, i < 6 → ∃ c ∈ sgns, (Str.ofString "abcdef").cps.toList[i]? = some c ∧ 97 ≤ c := by decide +kernel
  intro i hi
  obtain ⟨c, h1, h2, h3⟩ := h i hi
  exact ⟨c, h2, h1, h3⟩
theorem WS.offN {C : Addr} {H0 H H' : Hp} {p a dw dl : Addr} {n : Nat} {kw kl : Kvs} (h : WS C H0 H p a dw dl n kw kl) (d : a ≠ p ∧ dw ≠ p ∧ dl ≠ p) (o : Off p H H') (q : Pool H' p) : WS C H0 H' p a dw dl n kw kl :=
  ⟨⟨let ⟨dx, e⟩ := h.w.1; ⟨dx, o _ _ d.1 e⟩, o _ _ d.2.1 h.w.2⟩, o _ _ d.2.2 h.l, q, fun b u n e => o _ _ n (h.old b u n e)⟩
/-! ### what is due -/
def optD : Option Int → PyData
  | some i => .int i
  | none => .none
theorem eqv_optD : ∀ xs ys : List (Option Int), PyData.eqvAll (xs.map optD) (ys.map optD) = decide (xs = ys)
  | [], [] => by simp [PyData.eqvAll]
  | [], _ :: _ => by simp [PyData.eqvAll]
  | _ :: _, [] => by simp [PyData.eqvAll]
  | x :: xs, y :: ys => by
    rw [List.map_cons, List.map_cons, PyData.eqvAll, eqv_optD xs ys]
    have e : PyData.eqv (optD x) (optD y) = decide (x = y) := by
      cases x <;> cases y <;> simp [optD, PyData.eqv, eqv_int]
    rw [e]
    by_cases h1 : x = y
    · by_cases h2 : xs = ys
      · simp [h1, h2]
      · simp [h1, h2]
    · simp [h1]
def dueW (kvs : Kvs) (l : List Nat) (n : Nat) : List (Option Int) := (List.range n).map fun (t : Nat) => ledW kvs l (some (t : Int))
theorem due_eq (kvs : Kvs) (l m : List Nat) (n : Nat) : PyData.eqv (.list ((dueW kvs l n).map optD)) (.list ((dueW kvs m n).map optD)) = decide (pairsW kvs l n = pairsW kvs m n) := by
  rw [PyData.eqv, eqv_optD]
  refine decide_eq_decide.mpr ?_
  unfold dueW pairsW
  rw [pairs_eq, List.map_inj_left]
  exact ⟨fun h t ht => h t (List.mem_range.mpr ht), fun h t ht => h t (List.mem_range.mp ht)⟩
theorem dp_due {K : PySem.W.Frag} {H : Hp} : ∀ xs : List (Option Int), DpAll K H (xs.map optV) (xs.map optD)
  | [] => .nil
  | none :: xs => .cons .non (dp_due xs)
  | some i :: xs => .cons (.int i) (dp_due xs)
theorem shaped_due (xs : List (Option Int)) : SeqAt.shaped (.list (xs.map optD)) = true := by
  have h1 : ∀ xs : List (Option Int), PyData.canLayAll0 (xs.map optD) = true := by
    intro xs
    induction xs with
    | nil => rfl
    | cons x xs ih => cases x <;> simp [PyData.canLayAll0, PyData.canLay0, optD, ih]
  have h2 : ∀ xs : List (Option Int), PyData.depthAll (xs.map optD) = 0 := by
    intro xs
    induction xs with
    | nil => rfl
    | cons x xs ih => cases x <;> simp [PyData.depthAll, PyData.depth, optD, ih]
  simp [SeqAt.shaped, PyData.canLay0, h1, PyData.depth, h2]
theorem due_succ (kvs : Kvs) (l : List Nat) (i : Nat) : (dueW kvs l (i + 1)).map optV = (dueW kvs l i).map optV ++ [optV (ledW kvs l (some (i : Int)))] := by
  unfold dueW
  rw [List.range_succ, List.map_append, List.map_append]
  rfl
theorem due_len (kvs : Kvs) (l : List Nat) (i : Nat) : (dueW kvs l i).length = i := by simp [dueW]
theorem pairs_loop {kvs : Kvs} {n m : Nat} (w : Ways kvs m) (u v : List Nat) : pairsW kvs (((u ++ RowM.turn u) ++ u) ++ v) n = pairsW kvs (u ++ v) n := by
  unfold pairsW
  exact (pairs_eq n).mpr fun t _ => ledW_loop w u v _
theorem S_inj {l m : List Nat} (h : V.str (S l) = .str (S m)) : l = m := by
  injection h with h
  have := congrArg (fun z : Str => z.cps.toList) h
  simpa using this
theorem WS.mutN {C : Addr} {H0 H : Hp} {p a dw dl R : Addr} {n : Nat} {kw kl : Kvs} {o : HO} (h : WS C H0 H p a dw dl n kw kl) (n1 : a ≠ R) (n2 : dw ≠ R) (n3 : dl ≠ R) (n4 : p ≠ R) (f : H0 R = none) : WS C H0 (upd H R o) p a dw dl n kw kl :=
  ⟨⟨let ⟨dx, e⟩ := h.w.1; ⟨dx, by rw [upd_ne n1]; exact e⟩, by rw [upd_ne n2]; exact h.w.2⟩, by rw [upd_ne n3]; exact h.l, let ⟨c, m, e, r⟩ := h.pl; ⟨c, m, by rw [upd_ne n4]; exact e, r⟩,
    fun b u nb e => by rw [upd_ne (ne_of_none e f)]; exact h.old b u nb e⟩
/-! ### lists of pairs -/
theorem TP.len {H : Hp} {ts : List Addr} {ps : List (Int × Int)} (h : TP H ts ps) : ts.length = ps.length := by
  induction h with
  | nil => rfl
  | snoc _ _ ih => simp [ih]
theorem TP.get {H : Hp} {ts : List Addr} {ps : List (Int × Int)} (h : TP H ts ps) : ∀ (i : Nat) (t : Addr), ts[i]? = some t → ∃ p, ps[i]? = some p ∧ H t = some (.tup [.int p.1, .int p.2]) := by
  induction h with
  | nil => intro i t h; simp at h
  | @snoc ts ps u p h e ih =>
    intro i t hi
    have hl := h.len
    by_cases q : i < ts.length
    · rw [List.getElem?_append_left q] at hi
      rw [List.getElem?_append_left (by omega)]
      exact ih i t hi
    · have il : i < ts.length + 1 := by
        have := (List.getElem?_eq_some_iff.mp hi).1
        simpa using this
      have ei : i = ts.length := by omega
      subst ei
      rw [List.getElem?_append_right (Nat.le_refl _), Nat.sub_self] at hi
      injection hi with hi
      subst hi
      exact ⟨p, by rw [List.getElem?_append_right (by omega), hl]; simp, e⟩
theorem TP.mono {H H' : Hp} {ts : List Addr} {ps : List (Int × Int)} (h : TP H ts ps) (s : Same H H') : TP H' ts ps := h.same fun b xs e => s b _ e
/-- one pair more -/
theorem tp_more {H : Hp} {D u : Addr} {us : List Addr} {ps : List (Int × Int)} {p : Int × Int} (hD : H D = some (.lst (us.map V.ref))) (tp : TP H us ps) (hu : H u = none) :
    (upd (upd H u (.tup [.int p.1, .int p.2])) D (.lst (us.map V.ref ++ [.ref u]))) D = some (.lst ((us ++ [u]).map V.ref)) ∧ TP (upd (upd H u (.tup [.int p.1, .int p.2])) D (.lst (us.map V.ref ++ [.ref u]))) (us ++ [u]) (ps ++ [p]) := by
  have nD : D ≠ u := ne_of_none hD hu
  refine ⟨by rw [upd_same, List.map_append]; rfl, .snoc (tp.same fun b xs hb => ?_) ?_⟩
  · rw [upd_ne (fun e => by rw [e, hD] at hb; cases hb), upd_ne (ne_of_none hb hu)]
    exact hb
  · rw [upd_ne nD.symm]
    exact upd_same
theorem same_more {H1 H : Hp} {D u : Addr} {o o' : HO} (s : Same H1 H) (nD : H1 D = none) (hu : H u = none) : Same H1 (upd (upd H u o) D o') := fun b x hb => by
  have := s _ _ hb
  rw [upd_ne (ne_of_none hb nD), upd_ne (ne_of_none this hu)]
  exact this
theorem take_more {α β : Type} {ps : List α} {i : Nat} {p : α} (f : α → Option β) (h : ps[i]? = some p) : (ps.take (i + 1)).filterMap f = (ps.take i).filterMap f ++ (f p).toList := by
  rw [List.take_add_one, h, List.filterMap_append]
  cases e : f p <;> simp [e]
/-- sorted pairs -/
def leP (p q : Int × Int) : Bool := decide (p.1 < q.1 ∨ (p.1 = q.1 ∧ p.2 ≤ q.2))
def pDat (c : Addr × (Int × Int)) : V × PyData := (.ref c.1, .tuple [.int c.2.1, .int c.2.2])
theorem le_pDat (c d : Addr × (Int × Int)) : PySem.W.dataLe false (fun b : V × PyData => b.2) (pDat c) (pDat d) = leP c.2 d.2 := by
  have := congrFun (congrFun (PySem.W.dataLe_ii (β := Addr × (Int × Int)) (fun c => c.2.1) (fun c => c.2.2)) c) d
  exact this
theorem zip_fst : ∀ (us : List Addr) (ps : List (Int × Int)), us.length = ps.length → ((us.zip ps).map pDat).map (·.1) = us.map V.ref
  | [], [], _ => rfl
  | [], _ :: _, h => by simp at h
  | _ :: _, [], h => by simp at h
  | u :: us, p :: ps, h => by
    simp only [List.zip_cons_cons, List.map_cons, zip_fst us ps (by simpa using h)]
    rfl
theorem zip_snd : ∀ (us : List Addr) (ps : List (Int × Int)), us.length = ps.length → (us.zip ps).map (·.2) = ps
  | [], [], _ => rfl
  | [], _ :: _, h => by simp at h
  | _ :: _, [], h => by simp at h
  | u :: us, p :: ps, h => by
    simp only [List.zip_cons_cons, List.map_cons, zip_snd us ps (by simpa using h)]
theorem dpall_of {K : PySem.W.Frag} {H : Hp} : ∀ {bs : List (V × PyData)}, (∀ b ∈ bs, Dp K H b.1 b.2) → DpAll K H (bs.map (·.1)) (bs.map (·.2))
  | [], _ => .nil
  | b :: bs, h => .cons (h b List.mem_cons_self) (dpall_of fun c hc => h c (List.mem_cons_of_mem _ hc))
theorem sort_pD {us : List Addr} {ps : List (Int × Int)} (h : us.length = ps.length) : (((us.zip ps).map pDat).mergeSort (PySem.W.dataLe false (·.2))).map (·.2) = pD (ps.mergeSort leP) := by
  have e1 : (((us.zip ps).mergeSort fun c d => leP c.2 d.2).map pDat) = ((us.zip ps).map pDat).mergeSort (PySem.W.dataLe false (·.2)) := List.map_mergeSort fun a _ b _ => (le_pDat a b).symm
  have e2 : (((us.zip ps).mergeSort fun c d => leP c.2 d.2).map (·.2)) = ((us.zip ps).map (·.2)).mergeSort leP := List.map_mergeSort fun a _ b _ => rfl
  rw [zip_snd us ps h] at e2
  rw [← e1, List.map_map, ← e2]
  unfold pD
  rw [List.map_map]
  rfl
theorem pDat_dp {K : PySem.W.Frag} {H : Hp} {us : List Addr} {ps : List (Int × Int)} (tp : TP H us ps) : ∀ b ∈ (us.zip ps).map pDat, Dp K H b.1 b.2 := by
  intro b hb
  obtain ⟨c, hc, rfl⟩ := List.mem_map.mp hb
  obtain ⟨i, hi⟩ := List.mem_iff_getElem?.mp hc
  obtain ⟨t, p⟩ := c
  rw [List.getElem?_zip_eq_some] at hi
  obtain ⟨q, hq, e⟩ := tp.get i t hi.1
  rw [hi.2] at hq
  injection hq with hq
  subst hq
  exact .tup (Evl.st_of e) (.cons (.int _) (.cons (.int _) .nil))
theorem pDat_alike (cs : List (Addr × (Int × Int))) : PySem.W.AllAlike ((cs.map pDat).map (·.2)) := fun d hd d' hd' => by
  simp only [List.map_map, List.mem_map, Function.comp] at hd hd'
  obtain ⟨c, _, rfl⟩ := hd
  obtain ⟨c', _, rfl⟩ := hd'
  simp [pDat, PySem.W.alike, PySem.W.alikeAll]
theorem pDat_sortable (cs : List (Addr × (Int × Int))) : PySem.W.Sortable ((cs.map pDat).map (·.2)) := .inl fun d hd => by
  simp only [List.map_map, List.mem_map, Function.comp] at hd
  obtain ⟨c, _, rfl⟩ := hd
  exact ⟨_, _, rfl⟩
theorem pDat_depth (cs : List (Addr × (Int × Int))) : ∀ b ∈ cs.map pDat, b.2.depth ≤ 50 := fun b hb => by
  obtain ⟨c, _, rfl⟩ := List.mem_map.mp hb
  simp [pDat, PyData.depth, PyData.depthAll]
/-! ### pairs of a row and of its contrary -/
theorem mem_pairsW {kvs : Kvs} {l : List Nat} {n : Nat} {p : Int × Int} : p ∈ pairsW kvs l n ↔ 0 ≤ p.1 ∧ p.1 < n ∧ ledW kvs l (some p.1) = some p.2 := by
  unfold pairsW
  rw [List.mem_filterMap]
  constructor
  · rintro ⟨t, ht, e⟩
    obtain ⟨s, hs, rfl⟩ := Option.map_eq_some_iff.mp e
    have := List.mem_range.mp ht
    exact ⟨by omega, by show (t : Int) < n; omega, hs⟩
  · rintro ⟨h0, h1, h2⟩
    refine ⟨p.1.toNat, List.mem_range.mpr (by omega), ?_⟩
    have e : ((p.1.toNat : Nat) : Int) = p.1 := by omega
    rw [e, h2]
    rfl
theorem pairs_pairwise (kvs : Kvs) (l : List Nat) : ∀ n : Nat, (pairsW kvs l n).Pairwise fun p q => p.1 < q.1
  | 0 => .nil
  | n + 1 => by
    have e : pairsW kvs l (n + 1) = pairsW kvs l n ++ ((ledW kvs l (some (n : Int))).map fun s => ((n : Int), s)).toList := by
      unfold pairsW
      rw [List.range_succ, List.filterMap_append]
      cases e : ledW kvs l (some (n : Int)) <;> simp [e]
    rw [e, List.pairwise_append]
    refine ⟨pairs_pairwise kvs l n, ?_, fun p hp q hq => ?_⟩
    · cases ledW kvs l (some (n : Int)) <;> simp
    · have h1 := (mem_pairsW.mp hp).2.1
      cases e2 : ledW kvs l (some (n : Int)) with
      | none => rw [e2] at hq; simp at hq
      | some s =>
        rw [e2] at hq
        simp at hq
        rw [hq]
        exact h1
theorem nodup_of_lt {ps : List (Int × Int)} (h : ps.Pairwise fun p q => p.1 < q.1) : ps.Nodup := h.imp fun {p q} h e => by rw [e] at h; omega
theorem leP_of_lt {ps : List (Int × Int)} (h : ps.Pairwise fun p q => p.1 < q.1) : ps.Pairwise fun p q => leP p q = true := h.imp fun {p q} h => decide_eq_true (.inl h)
theorem leP_trans (a b c : Int × Int) (h1 : leP a b = true) (h2 : leP b c = true) : leP a c = true := by
  unfold leP at *
  rw [decide_eq_true_iff] at *
  omega
theorem leP_total (a b : Int × Int) : (leP a b || leP b a) = true := by
  unfold leP
  rw [Bool.or_eq_true, decide_eq_true_iff, decide_eq_true_iff]
  omega
theorem leP_anti (a b : Int × Int) (h1 : leP a b = true) (h2 : leP b a = true) : a = b := by
  unfold leP at *
  rw [decide_eq_true_iff] at *
  exact Prod.ext (by omega) (by omega)
def swp (p : Int × Int) : Int × Int := (p.2, p.1)
theorem back_sorted {kvs : Kvs} {n : Nat} (w : Ways kvs n) {l : List Nat} (hl : Row l) : ((pairsW kvs l n).map swp).mergeSort leP = pairsW kvs (RowM.turn l) n := by
  have nd1 : ((pairsW kvs l n).map swp).Nodup := by
    refine List.pairwise_map.mpr ((nodup_of_lt (pairs_pairwise kvs l n)).imp fun {a b} ne e => ne ?_)
    unfold swp at e
    injection e with e1 e2
    exact Prod.ext e2 e1
  have nd2 := nodup_of_lt (pairs_pairwise kvs (RowM.turn l) n)
  have pm : ((pairsW kvs l n).map swp).Perm (pairsW kvs (RowM.turn l) n) := by
    refine (List.perm_ext_iff_of_nodup nd1 nd2).mpr fun p => ?_
    rw [List.mem_map]
    constructor
    · rintro ⟨q, hq, rfl⟩
      obtain ⟨h0, h1, h2⟩ := mem_pairsW.mp hq
      have r := ledW_range w l q.1 q.2 h0 h1 h2
      exact mem_pairsW.mpr ⟨r.1, r.2, ledW_back w l _ _ h2⟩
    · intro hp
      obtain ⟨h0, h1, h2⟩ := mem_pairsW.mp hp
      have r := ledW_range w _ p.1 p.2 h0 h1 h2
      have b := ledW_back w _ _ _ h2
      rw [RowM.turn_turn hl] at b
      exact ⟨(p.2, p.1), mem_pairsW.mpr ⟨r.1, r.2, b⟩, rfl⟩
  refine List.Perm.eq_of_pairwise (le := fun a b => leP a b = true) (fun a b _ _ h1 h2 => leP_anti a b h1 h2) (List.pairwise_mergeSort (by exact leP_trans) (by exact leP_total) _) (leP_of_lt (pairs_pairwise kvs _ n)) ((List.mergeSort_perm _ _).trans pm)
theorem lasts_nodup {kvs : Kvs} {n : Nat} (w : Ways kvs n) (l : List Nat) : ((pairsW kvs l n).map (·.2)).Nodup := by
  have h := pairs_pairwise kvs l n
  have h2 : (pairsW kvs l n).Pairwise fun p q => p.2 ≠ q.2 := by
    refine List.Pairwise.imp_of_mem (fun {p q} hp hq lt e => ?_) h
    have a := ledW_back w l _ _ (mem_pairsW.mp hp).2.2
    have b := ledW_back w l _ _ (mem_pairsW.mp hq).2.2
    rw [e, b] at a
    injection a with a
    omega
  exact List.pairwise_map.mpr h2
theorem look_led {kvs : Kvs} {n : Nat} (w : Ways kvs n) (l : List Nat) (i : Int) : ledW kvs (l ++ RowM.turn l) (some i) = (ledW kvs l (some i)).map fun _ => i := by
  rw [ledW_app]
  cases e : ledW kvs l (some i) with
  | none => rw [ledW_none]; rfl
  | some j => rw [ledW_back w l i j e]; rfl
theorem look_pairs {kvs : Kvs} {n : Nat} (w : Ways kvs n) (l : List Nat) : pairsW kvs (l ++ RowM.turn l) n = (pairsW kvs l n).map fun p => (p.1, p.1) := by
  unfold pairsW
  rw [List.map_filterMap]
  congr 1
  funext t
  rw [look_led w]
  cases ledW kvs l (some (t : Int)) <;> rfl
theorem looks_swap {kvs : Kvs} {n m : Nat} (w : Ways kvs m) (l k : List Nat) : pairsW kvs ((l ++ RowM.turn l) ++ (k ++ RowM.turn k)) n = pairsW kvs ((k ++ RowM.turn k) ++ (l ++ RowM.turn l)) n := by
  unfold pairsW
  refine (pairs_eq n).mpr fun t _ => ?_
  rw [ledW_app, ledW_app kvs (k ++ RowM.turn k), look_led w, look_led w]
  cases e1 : ledW kvs l (some (t : Int)) with
  | none =>
    cases e2 : ledW kvs k (some (t : Int)) with
    | none => rw [Option.map_none, ledW_none, ledW_none]
    | some j => rw [Option.map_none, Option.map_some, ledW_none, look_led w, e1]; rfl
  | some i =>
    cases e2 : ledW kvs k (some (t : Int)) with
    | none => rw [Option.map_none, Option.map_some, ledW_none, look_led w, e2]; rfl
    | some j => rw [Option.map_some, Option.map_some, look_led w, look_led w, e1, e2]; rfl
/-- what the second row does behind the first -/
theorem behind_pairs {kvs : Kvs} {n : Nat} (w : Ways kvs n) (l k : List Nat) : pairsW kvs (l ++ k) n = (pairsW kvs l n).filterMap fun p => (ledW kvs k (some p.2)).map fun s => (p.1, s) := by
  unfold pairsW
  rw [List.filterMap_filterMap]
  congr 1
  funext t
  rw [ledW_app]
  cases e : ledW kvs l (some (t : Int)) with
  | none => rw [ledW_none]; rfl
  | some j => rfl
/-- the dict of pairs -/
def kvI (ps : List (Int × Int)) : List (Key × V) := ps.map fun p => (Sum.inl p.1, .int p.2)
theorem merge_kvI : ∀ (ps qs : List (Int × Int)), (qs ++ ps).Pairwise (fun p q => p.1 < q.1) → mergeK (kvI qs) (kvI ps) = kvI (qs ++ ps)
  | [], qs, _ => by simp [kvI, mergeK]
  | p :: ps, qs, h => by
    have e : putK (kvI qs) (Sum.inl p.1) (V.int p.2) = kvI (qs ++ [p]) := by
      rw [putK_new]
      · simp [kvI]
      · unfold valV kvI
        rw [List.find?_map]
        have : qs.find? ((fun kv : Key × V => decide (kv.1 = Sum.inl p.1)) ∘ fun p : Int × Int => ((Sum.inl p.1 : Key), V.int p.2)) = none := by
          rw [List.find?_eq_none]
          intro q hq
          have lt := (List.pairwise_append.mp h).2.2 q hq p List.mem_cons_self
          simp only [Function.comp, decide_eq_true_eq]
          intro e
          injection e with e
          omega
        rw [this]
        rfl
    have ih := merge_kvI ps (qs ++ [p]) (by rw [List.append_assoc]; exact h)
    have e2 : mergeK (kvI qs) (kvI (p :: ps)) = mergeK (putK (kvI qs) (Sum.inl p.1) (V.int p.2)) (kvI ps) := rfl
    rw [e2, e, ih, List.append_assoc]
    rfl
theorem val_kvI {kvs : Kvs} {n : Nat} {k : List Nat} (i : Int) (h0 : 0 ≤ i) (h1 : i < n) : valV (kvI (pairsW kvs k n)) (Sum.inl i) = (ledW kvs k (some i)).map V.int := by
  unfold valV kvI
  rw [List.find?_map, Option.map_map]
  have pw := pairs_pairwise kvs k n
  cases e : ledW kvs k (some i) with
  | none =>
    have : (pairsW kvs k n).find? ((fun kv : Key × V => decide (kv.1 = Sum.inl i)) ∘ fun p : Int × Int => ((Sum.inl p.1 : Key), V.int p.2)) = none := by
      rw [List.find?_eq_none]
      intro q hq
      simp only [Function.comp, decide_eq_true_eq]
      intro z
      injection z with z
      have := (mem_pairsW.mp hq).2.2
      rw [z, e] at this
      cases this
    rw [this]
    rfl
  | some s =>
    have hm : ((i, s) : Int × Int) ∈ pairsW kvs k n := mem_pairsW.mpr ⟨h0, h1, e⟩
    cases f : (pairsW kvs k n).find? ((fun kv : Key × V => decide (kv.1 = Sum.inl i)) ∘ fun p : Int × Int => ((Sum.inl p.1 : Key), V.int p.2)) with
    | none =>
      rw [List.find?_eq_none] at f
      have := f _ hm
      simp at this
    | some q =>
      have hq := List.mem_of_find?_eq_some f
      have z := List.find?_some f
      simp only [Function.comp, decide_eq_true_eq] at z
      injection z with z
      have := (mem_pairsW.mp hq).2.2
      rw [z, e] at this
      injection this with this
      simp [this]
theorem eqv_pairs (ps qs : List (Int × Int)) : PyData.eqv (.list (pD ps)) (.list (pD qs)) = decide (ps = qs) := by
  rw [← eqv_pD]
  simp [PyData.eqv]
theorem paired_of {K : PySem.W.Frag} {H : Hp} : ∀ (us : List Addr) (ps : List (Int × Int)), us.length = ps.length → (∀ (i : Nat) (t : Addr), us[i]? = some t → ∃ p, ps[i]? = some p ∧ H t = some (.tup [.int p.1, .int p.2])) → Paired (fun p (kv : Key × V) => SqT K H p [kV kv.1, kv.2]) us (kvI ps)
  | [], [], _, _ => .nil
  | [], _ :: _, h, _ => by simp at h
  | _ :: _, [], h, _ => by simp at h
  | u :: us, p :: ps, h, g => by
    refine .cons ?_ (paired_of us ps (by simpa using h) fun i t hi => g (i + 1) t hi)
    obtain ⟨q, hq, e⟩ := g 0 u rfl
    injection hq with hq
    subst hq
    exact SqT.of e
theorem isR {r : List Nat} (h : Row r) (z : r.length ≤ 60) : isRow r = true := isRow_iff.mpr ⟨z, h⟩
theorem pairs_nil (kvs : Kvs) (n : Nat) : pairsW kvs [] n = (List.range n).map fun (t : Nat) => ((t : Int), (t : Int)) := by
  unfold pairsW
  induction List.range n with
  | nil => rfl
  | cons a l ih => rw [List.filterMap_cons, ih]; rfl
/-! ### rows and walks in worlds -/
theorem stepW_some {kvs : Kvs} {c : Nat} {i j : Int} : stepW kvs (some i) c = some j ↔ valV kvs (ky c i) = some (.int j) := by
  unfold stepW
  simp only [Option.bind_some]
  constructor
  · intro h
    split at h
    · rename_i j' q
      injection h with h
      rw [q, h]
    · cases h
  · intro h
    rw [h]
theorem stepW_none (kvs : Kvs) (c : Nat) : stepW kvs none c = none := rfl
theorem ledW_snoc (kvs : Kvs) (l : List Nat) (c : Nat) (o : Option Int) : ledW kvs (l ++ [c]) o = stepW kvs (ledW kvs l o) c := by rw [ledW_app]; rfl
theorem ledW_on {kvs : Kvs} {n : Nat} (w : Ways kvs n) {p : List Nat} {c : Nat} {i m : Int} (hc : c ∈ sgns) (h : ledW kvs p (some i) = some m) : ledW kvs (WalkM.on p c) (some i) = stepW kvs (some m) c := by
  unfold WalkM.on
  split
  · rename_i q
    obtain ⟨r, hr⟩ : ∃ r, p = r ++ [con c] := by
      rcases List.eq_nil_or_concat p with rfl | ⟨r, x, rfl⟩
      · cases q
      · rw [List.concat_eq_append] at q ⊢
        rw [List.getLast?_append] at q
        simp at q
        exact ⟨r, by rw [q]⟩
    subst hr
    rw [List.dropLast_concat]
    rw [ledW_snoc] at h
    cases e : ledW kvs r (some i) with
    | none => rw [e, stepW_none] at h; cases h
    | some x =>
      rw [e] at h
      have := stepW_back w h
      rw [RowM.con_con hc] at this
      exact this.symm
  · rw [ledW_snoc, h]
theorem ledW_plain {kvs : Kvs} {n : Nat} (w : Ways kvs n) {l : List Nat} {i j : Int} (rl : Row l) (h : ledW kvs l (some i) = some j) : ledW kvs (RowM.plain l) (some i) = some j := by
  revert j
  refine WalkM.snoc_ind (P := fun l => Row l → ∀ {j : Int}, ledW kvs l (some i) = some j → ledW kvs (RowM.plain l) (some i) = some j) (fun _ _ h => h) (fun l c ih rl j h => ?_) l rl
  have hl : Row l := fun d hd => rl d (List.mem_append_left _ hd)
  have hc : c ∈ sgns := rl c (by simp)
  rw [ledW_snoc] at h
  cases e : ledW kvs l (some i) with
  | none => rw [e, stepW_none] at h; cases h
  | some m =>
    rw [e] at h
    rw [WalkM.plain_snoc, ledW_on w hc (ih hl e), h]
theorem ledW_gone {kvs : Kvs} {n : Nat} (w : Ways kvs n) {l : List Nat} {i : Int} (rl : Row l) : (∃ j, ledW kvs l (some i) = some j) ↔ ∀ p ∈ gone l, ∃ j, ledW kvs p (some i) = some j := by
  refine WalkM.snoc_ind (P := fun l => Row l → ((∃ j, ledW kvs l (some i) = some j) ↔ ∀ p ∈ gone l, ∃ j, ledW kvs p (some i) = some j)) (fun _ => ⟨fun _ p hp => ?_, fun _ => ⟨i, rfl⟩⟩) (fun l c ih rl => ?_) l rl
  · rw [WalkM.gone_nil] at hp
    rw [List.mem_singleton.mp hp]
    exact ⟨i, rfl⟩
  have hl : Row l := fun d hd => rl d (List.mem_append_left _ hd)
  have hc : c ∈ sgns := rl c (by simp)
  rw [WalkM.gone_snoc]
  constructor
  · rintro ⟨j, h⟩ p hp
    rw [ledW_snoc] at h
    cases e : ledW kvs l (some i) with
    | none => rw [e, stepW_none] at h; cases h
    | some m =>
      rcases WalkM.mem_addK.mp hp with q | q
      · exact (ih hl).mp ⟨m, e⟩ p q
      · rw [e] at h
        rw [q, ledW_on w hc (ledW_plain w hl e)]
        exact ⟨j, h⟩
  · intro h
    obtain ⟨m, e⟩ := (ih hl).mpr fun p hp => h p (WalkM.mem_addK.mpr (.inl hp))
    obtain ⟨j, ej⟩ := h _ (WalkM.mem_addK.mpr (.inr rfl))
    rw [ledW_on w hc (ledW_plain w hl e)] at ej
    rw [ledW_snoc, e]
    exact ⟨j, ej⟩
theorem ledW_same {kvs : Kvs} {n : Nat} (w : Ways kvs n) {l m : List Nat} (rl : Row l) (rm : Row m) (h : sameR l m = true) (i : Int) : ledW kvs l (some i) = ledW kvs m (some i) := by
  obtain ⟨he, hp⟩ := (same_iff rl rm).mpr h
  have hg : ∀ p, p ∈ gone l ↔ p ∈ gone m := fun p => WalkM.srt_mem.symm.trans ((hp p).trans WalkM.srt_mem)
  cases e : ledW kvs l (some i) with
  | some j =>
    obtain ⟨k, ek⟩ := (ledW_gone w rm).mpr fun p hp => (ledW_gone w rl).mp ⟨j, e⟩ p ((hg p).mpr hp)
    have h1 := ledW_plain w rl e
    have h2 := ledW_plain w rm ek
    rw [he] at h1
    rw [ek, ← h2, h1]
  | none =>
    cases e2 : ledW kvs m (some i) with
    | none => rfl
    | some k =>
      obtain ⟨j, ej⟩ := (ledW_gone w rl).mpr fun p hp => (ledW_gone w rm).mp ⟨k, e2⟩ p ((hg p).mp hp)
      rw [ej] at e
      cases e
/-! ### the world of a tree -/
/-- so far as the places below k are laid -/
def HalfW (ps : List (List Nat)) (k : Nat) (kvs : Kvs) : Prop := ∀ (c : Nat) (i j : Int), valV kvs (ky c i) = some (.int j) ↔
  ∃ (a b : Nat) (p : List Nat), i = a ∧ j = b ∧ c ∈ sgns ∧ ps[a]? = some p ∧ ps[b]? = some (WalkM.on p c) ∧ (if WalkM.on p c = p ++ [c] then b < k else a < k)
theorem at_inj {ps : List (List Nat)} (nd : ps.Nodup) {a b : Nat} {p : List Nat} (h1 : ps[a]? = some p) (h2 : ps[b]? = some p) : a = b := by
  obtain ⟨x1, e1⟩ := List.getElem?_eq_some_iff.mp h1
  obtain ⟨x2, e2⟩ := List.getElem?_eq_some_iff.mp h2
  exact (List.getElem_inj nd).mp (e1.trans e2.symm)
theorem half_nil {ps : List (List Nat)} : HalfW ps 0 [] := fun c i j => by
  rw [valV_nil]
  constructor
  · intro h; cases h
  · rintro ⟨a, b, p, _, _, _, _, _, h⟩
    split at h <;> omega
theorem on_up {q : List Nat} {s : Nat} (h : PRow (q ++ [s])) : WalkM.on q s = q ++ [s] := by
  rw [← WalkM.on_plain s ⟨fun c hc => h.1 c (List.mem_append_left _ hc), by have := (WalkM.prow_drop h).2; rwa [List.dropLast_concat] at this⟩]
  exact WalkM.plain_prow h
theorem on_down {q : List Nat} {s : Nat} (hs : s ∈ sgns) : WalkM.on (q ++ [s]) (con s) = q := by
  unfold WalkM.on
  rw [RowM.con_con hs, if_pos (by simp), List.dropLast_concat]
theorem app_ne (q : List Nat) (s c : Nat) : q ≠ (q ++ [s]) ++ [c] := fun e => by
  have := congrArg List.length e
  simp at this
theorem half_free {ps : List (List Nat)} {kvs : Kvs} {n m a s : Nat} {q : List Nat} (t : Tree ps) (h : HalfW ps m kvs) (w : Ways kvs n) (hm : ps[m]? = some (q ++ [s])) (ha : ps[a]? = some q) :
    valV kvs (ky s (a : Int)) = none ∧ valV kvs (ky (con s) (m : Int)) = none := by
  have hs : s ∈ sgns := (t.pr _ (List.mem_of_getElem? hm)).1 s (by simp)
  constructor
  · cases e : valV kvs (ky s (a : Int)) with
    | none => rfl
    | some v =>
      obtain ⟨_, _, j, _, _, rfl, _, _⟩ := w.val _ _ e
      obtain ⟨a', b, p, ea, _, _, hp, hb, hk⟩ := (h s a j).mp e
      have ea : a' = a := by omega
      subst ea
      rw [ha] at hp
      injection hp with hp
      subst hp
      rw [on_up (t.pr _ (List.mem_of_getElem? hm))] at hb hk
      rw [if_pos rfl] at hk
      have := at_inj t.nd hb hm
      omega
  · cases e : valV kvs (ky (con s) (m : Int)) with
    | none => rfl
    | some v =>
      obtain ⟨_, _, j, _, _, rfl, _, _⟩ := w.val _ _ e
      obtain ⟨a', b, p, ea, _, _, hp, hb, hk⟩ := (h (con s) m j).mp e
      have ea : a' = m := by omega
      subst ea
      rw [hm] at hp
      injection hp with hp
      subst hp
      rw [on_down hs] at hk
      rw [if_neg (app_ne q s (con s))] at hk
      omega
theorem half_step {ps : List (List Nat)} {kvs kvs' : Kvs} {n m a s : Nat} {q : List Nat} (t : Tree ps) (h : HalfW ps m kvs) (w : Ways kvs n) (hm : ps[m]? = some (q ++ [s])) (ha : ps[a]? = some q)
    (hv : ∀ k, valV kvs' k = if k = ky (con s) (m : Int) then some (.int (a : Int)) else if k = ky s (a : Int) then some (.int (m : Int)) else valV kvs k) : HalfW ps (m + 1) kvs' := by
  have hpm := t.pr _ (List.mem_of_getElem? hm)
  have hs : s ∈ sgns := hpm.1 s (by simp)
  obtain ⟨f1, f2⟩ := half_free t h w hm ha
  intro c i j
  rw [hv]
  by_cases q1 : ky c i = ky (con s) (m : Int)
  · rw [if_pos q1]
    obtain ⟨rfl, rfl⟩ := ky_inj q1
    constructor
    · intro e
      injection e with e
      injection e with e
      refine ⟨m, a, q ++ [s], rfl, e.symm, RowM.con_mem hs, hm, by rw [on_down hs]; exact ha, ?_⟩
      rw [on_down hs, if_neg (app_ne q s (con s))]
      omega
    · rintro ⟨a', b, p, ea, rfl, _, hp, hb, _⟩
      have ea : a' = m := by omega
      subst ea
      rw [hm] at hp
      injection hp with hp
      subst hp
      rw [on_down hs] at hb
      rw [at_inj t.nd hb ha]
  · rw [if_neg q1]
    by_cases q2 : ky c i = ky s (a : Int)
    · rw [if_pos q2]
      obtain ⟨rfl, rfl⟩ := ky_inj q2
      constructor
      · intro e
        injection e with e
        injection e with e
        refine ⟨a, m, q, rfl, e.symm, hs, ha, by rw [on_up hpm]; exact hm, ?_⟩
        rw [on_up hpm, if_pos rfl]
        omega
      · rintro ⟨a', b, p, ea, rfl, _, hp, hb, _⟩
        have ea : a' = a := by omega
        subst ea
        rw [ha] at hp
        injection hp with hp
        subst hp
        rw [on_up hpm] at hb
        rw [at_inj t.nd hb hm]
    · rw [if_neg q2, h c i j]
      constructor
      · rintro ⟨a', b, p, e1, e2, hc, hp, hb, hk⟩
        refine ⟨a', b, p, e1, e2, hc, hp, hb, ?_⟩
        split
        · rename_i z; rw [if_pos z] at hk; omega
        · rename_i z; rw [if_neg z] at hk; omega
      · rintro ⟨a', b, p, rfl, rfl, hc, hp, hb, hk⟩
        refine ⟨a', b, p, rfl, rfl, hc, hp, hb, ?_⟩
        split
        · rename_i z
          rw [if_pos z] at hk
          by_cases y : b = m
          · subst y
            rw [z, hm] at hb
            injection hb with hb
            obtain ⟨e1, e2⟩ := List.append_inj' hb rfl
            injection e2 with e2
            subst e1 e2
            exact absurd (by rw [at_inj t.nd hp ha]) q2
          · omega
        · rename_i z
          rw [if_neg z] at hk
          by_cases y : a' = m
          · subst y
            rw [hm] at hp
            injection hp with hp
            subst hp
            by_cases g : s = con c
            · have : c = con s := by rw [g, RowM.con_con hc]
              exact absurd (by rw [this]) q1
            · refine absurd ?_ z
              unfold WalkM.on
              rw [if_neg (by simpa using g)]
          · omega
/-- in the world of a tree a sign leads a place to that with it behind -/
def TreeW (ps : List (List Nat)) (kvs : Kvs) : Prop := ∀ (c : Nat) (i j : Int), valV kvs (ky c i) = some (.int j) ↔
  ∃ (a b : Nat) (p : List Nat), i = a ∧ j = b ∧ c ∈ sgns ∧ ps[a]? = some p ∧ ps[b]? = some (WalkM.on p c)
theorem half_all {ps : List (List Nat)} {kvs : Kvs} (h : HalfW ps ps.length kvs) : TreeW ps kvs := fun c i j => by
  rw [h c i j]
  constructor
  · rintro ⟨a, b, p, e1, e2, hc, hp, hb, _⟩
    exact ⟨a, b, p, e1, e2, hc, hp, hb⟩
  · rintro ⟨a, b, p, e1, e2, hc, hp, hb⟩
    refine ⟨a, b, p, e1, e2, hc, hp, hb, ?_⟩
    have := (List.getElem?_eq_some_iff.mp hp).1
    have := (List.getElem?_eq_some_iff.mp hb).1
    split <;> assumption
theorem led_tree {ps : List (List Nat)} {kvs : Kvs} (t : Tree ps) (h0 : ps[0]? = some []) (h : TreeW ps kvs) {l : List Nat} (rl : Row l) (j : Int) :
    ledW kvs l (some 0) = some j ↔ (∀ p ∈ gone l, p ∈ ps) ∧ ∃ b : Nat, j = b ∧ ps[b]? = some (RowM.plain l) := by
  revert j
  refine WalkM.snoc_ind (P := fun l => Row l → ∀ j : Int, ledW kvs l (some 0) = some j ↔ (∀ p ∈ gone l, p ∈ ps) ∧ ∃ b : Nat, j = b ∧ ps[b]? = some (RowM.plain l)) (fun _ j => ?_) (fun l c ih rl j => ?_) l rl
  · constructor
    · intro e
      have e : some (0 : Int) = some j := e
      injection e with e
      subst e
      refine ⟨fun p hp => ?_, 0, rfl, h0⟩
      rw [WalkM.gone_nil] at hp
      rw [List.mem_singleton.mp hp]
      exact List.mem_of_getElem? h0
    · rintro ⟨_, b, rfl, hb⟩
      have : b = 0 := at_inj t.nd hb h0
      subst this
      rfl
  have hl : Row l := fun d hd => rl d (List.mem_append_left _ hd)
  have hc : c ∈ sgns := rl c (by simp)
  rw [ledW_snoc, WalkM.plain_snoc]
  have hg : (∀ p ∈ gone (l ++ [c]), p ∈ ps) ↔ (∀ p ∈ gone l, p ∈ ps) ∧ WalkM.on (RowM.plain l) c ∈ ps := by
    rw [WalkM.gone_snoc]
    constructor
    · intro z
      exact ⟨fun p hp => z p (WalkM.mem_addK.mpr (.inl hp)), z _ (WalkM.mem_addK.mpr (.inr rfl))⟩
    · rintro ⟨z1, z2⟩ p hp
      rcases WalkM.mem_addK.mp hp with q | q
      · exact z1 p q
      · rw [q]; exact z2
  rw [hg]
  constructor
  · intro e
    cases e1 : ledW kvs l (some 0) with
    | none => rw [e1, stepW_none] at e; cases e
    | some m =>
      rw [e1, stepW_some] at e
      obtain ⟨z1, b1, rfl, hb1⟩ := (ih hl m).mp e1
      obtain ⟨a', b, p, ea, rfl, _, hp, hb⟩ := (h _ _ _).mp e
      have ea : a' = b1 := by omega
      subst ea
      rw [hb1] at hp
      injection hp with hp
      subst hp
      exact ⟨⟨z1, List.mem_of_getElem? hb⟩, b, rfl, hb⟩
  · rintro ⟨⟨z1, _⟩, b, rfl, hb⟩
    obtain ⟨b1, hb1⟩ := List.getElem?_of_mem (z1 _ (WalkM.end_gone l))
    rw [(ih hl b1).mpr ⟨z1, b1, rfl, hb1⟩, stepW_some]
    exact (h _ _ _).mpr ⟨b1, b, _, rfl, rfl, hc, hb1, hb⟩
theorem half_skip {ps : List (List Nat)} {kvs : Kvs} {m : Nat} (t : Tree ps) (h : HalfW ps m kvs) (hm : ps[m]? = some []) : HalfW ps (m + 1) kvs := fun c i j => by
  rw [h c i j]
  constructor
  · rintro ⟨a', b, p, e1, e2, hc, hp, hb, hk⟩
    refine ⟨a', b, p, e1, e2, hc, hp, hb, ?_⟩
    split
    · rename_i z; rw [if_pos z] at hk; omega
    · rename_i z; rw [if_neg z] at hk; omega
  · rintro ⟨a', b, p, rfl, rfl, hc, hp, hb, hk⟩
    refine ⟨a', b, p, rfl, rfl, hc, hp, hb, ?_⟩
    split
    · rename_i z
      rw [if_pos z] at hk
      by_cases y : b = m
      · subst y
        rw [z, hm] at hb
        injection hb with hb
        exact absurd hb.symm (by simp)
      · omega
    · rename_i z
      rw [if_neg z] at hk
      by_cases y : a' = m
      · subst y
        rw [hm] at hp
        injection hp with hp
        subst hp
        exact absurd rfl z
      · omega
theorem eqV_T (p q : List Nat) : eqV (sT p) (sT q) = decide (p = q) := by
  have := in_texts [p] q
  simp [inV, eqV, sT] at this
  simp only [eqV, sT]
  rw [this]
  exact decide_eq_decide.mpr eq_comm
theorem lo_of {c : Nat} (h : 97 ≤ c) : lo c = c := if_pos h
theorem lo_up {c : Nat} (h : ¬ 97 ≤ c) : lo c = con c := by unfold lo con; rw [if_neg h, if_neg h]
theorem con_up {c : Nat} (h : c ∈ sgns) (h2 : ¬ 97 ≤ c) : 97 ≤ con c := by
  have : ∀ c ∈ sgns, ¬ 97 ≤ c → 97 ≤ con c := by decide
  exact this c h h2
theorem ord_nil {ps : List (List Nat)} (o : Ord ps) : ps[0]? = some [] := by
  cases e : ps with
  | nil => have := o.t.n0; rw [e] at this; simp at this
  | cons p qs =>
    by_cases h : p = []
    · rw [h]; rfl
    · have := ord_parent o (i := 0) (p := p) (by rw [e]; rfl) h
      simp at this
theorem ord_empty {ps : List (List Nat)} (o : Ord ps) : [] ∈ ps := List.mem_of_getElem? (ord_nil o)
theorem dp_oW {K : PySem.W.Frag} {H : Hp} : ∀ o : Option Int, Dp K H (optV o) (optD o)
  | none => .non
  | some i => .int i
theorem shaped_oW : ∀ o : Option Int, SeqAt.shaped (optD o) = true
  | none => by simp [SeqAt.shaped, optD, PyData.canLay0, PyData.depth]
  | some i => by simp [SeqAt.shaped, optD, PyData.canLay0, PyData.depth]
theorem eqv_oW (x y : Option Int) : PyData.eqv (optD x) (optD y) = decide (x = y) := by
  cases x <;> cases y <;> simp [optD, PyData.eqv, eqv_int]
/-- the things from which two rows do unlike -/
def toldU (kvs : Kvs) (l m : List Nat) (n : Nat) : List (Option Int) := ((List.range n).filter fun (t : Nat) => !decide (ledW kvs l (some (t : Int)) = ledW kvs m (some (t : Int)))).map fun (t : Nat) => some (t : Int)
theorem toldU_len (kvs : Kvs) (l m : List Nat) (n : Nat) : (toldU kvs l m n).length ≤ n := by
  unfold toldU
  rw [List.length_map]
  exact Nat.le_trans (List.length_filter_le _ _) (by rw [List.length_range]; exact Nat.le_refl _)
theorem toldU_no {kvs : Kvs} {l m : List Nat} {i : Nat} (h : ledW kvs l (some (i : Int)) = ledW kvs m (some (i : Int))) : toldU kvs l m (i + 1) = toldU kvs l m i := by
  unfold toldU
  rw [List.range_succ, List.filter_append]
  simp [h]
theorem toldU_yes {kvs : Kvs} {l m : List Nat} {i : Nat} (h : ledW kvs l (some (i : Int)) ≠ ledW kvs m (some (i : Int))) : toldU kvs l m (i + 1) = toldU kvs l m i ++ [some (i : Int)] := by
  unfold toldU
  rw [List.range_succ, List.filter_append]
  simp [h]
theorem toldU_nil {kvs : Kvs} {l m : List Nat} {n : Nat} : toldU kvs l m n = [] ↔ pairsW kvs l n = pairsW kvs m n := by
  unfold toldU pairsW
  rw [pairs_eq, List.map_eq_nil_iff, List.filter_eq_nil_iff]
  constructor
  · intro h t ht
    have := h t (List.mem_range.mpr ht)
    simpa using this
  · intro h t ht
    have := h t (List.mem_range.mp ht)
    simpa using this
theorem eqv_told (xs : List (Option Int)) : PyData.eqv (.list (xs.map optD)) (.list []) = decide (xs = []) := by
  have := eqv_optD xs []
  rw [PyData.eqv]
  simpa using this
/-! ### what is no whole number, of anything -/
def NInt (H : Hp) (x : V) : Prop := x = .non ∨ (∃ b, x = .bl b) ∨ (∃ s, x = .str s) ∨ ∃ a, x = .ref a ∧ ((∃ xs, H a = some (.lst xs)) ∨ (∃ xs, H a = some (.tup xs)) ∨ ∃ kvs, H a = some (.dK kvs))
theorem NInt.same {H H' : Hp} {x : V} (h : NInt H x) (s : Same H H') : NInt H' x := by
  rcases h with h | h | h | ⟨a, e, ⟨xs, h⟩ | ⟨xs, h⟩ | ⟨xs, h⟩⟩
  · exact .inl h
  · exact .inr (.inl h)
  · exact .inr (.inr (.inl h))
  · exact .inr (.inr (.inr ⟨a, e, .inl ⟨xs, s _ _ h⟩⟩))
  · exact .inr (.inr (.inr ⟨a, e, .inr (.inl ⟨xs, s _ _ h⟩)⟩))
  · exact .inr (.inr (.inr ⟨a, e, .inr (.inr ⟨xs, s _ _ h⟩)⟩))
theorem NInt.ty {K : PySem.W.Frag} {H : Hp} {x : V} (h : NInt H x) : ∃ t : String, TyX K H x (.type t) ∧ ((kitB t "int" = some false) ∨ (kitB t "int" = some true ∧ kitB t "bool" = some true)) := by
  rcases h with rfl | ⟨b, rfl⟩ | ⟨s, rfl⟩ | ⟨a, rfl, ⟨xs, h⟩ | ⟨xs, h⟩ | ⟨xs, h⟩⟩
  · exact ⟨_, .base .non, .inl (by decide +kernel)⟩
  · exact ⟨_, .base (.bl _), .inr ⟨by decide +kernel, by decide +kernel⟩⟩
  · exact ⟨_, .base (.str _), .inl (by decide +kernel)⟩
  · exact ⟨_, .base (.lst h), .inl (by decide +kernel)⟩
  · exact ⟨_, .base (.tup h), .inl (by decide +kernel)⟩
  · exact ⟨_, .base (.dK h), .inl (by decide +kernel)⟩
def IntW (H : Hp) (x : V) (r : Bool) : Prop := (∃ i : Int, x = .int i ∧ r = true) ∨ (NInt H x ∧ r = false)
/-- a thing of a world of n, or none -/
def ThW (H : Hp) (n : Nat) (x : V) (r : Bool) : Prop := (∃ i : Int, x = .int i ∧ r = decide (0 ≤ i ∧ i < n)) ∨ (NInt H x ∧ r = false)
theorem ThW.same {H H' : Hp} {n : Nat} {x : V} {r : Bool} (h : ThW H n x r) (s : Same H H') : ThW H' n x r := h.imp id fun h => ⟨h.1.same s, h.2⟩
/-- an exception with one field, made -/
theorem madeF {H : Hp} {a C : Addr} {f : Str} {v : V} {E : XK} (ha : H a = none) (k : ∀ (d : Addr) (H' : Hp), Same H H' → H' d = some (.xd [(f, v)]) → E (.ref C) (some d) H') (d : Addr) (hd : (upd H a (exo a C none)) d = none) (ne : d ≠ a) :
    V.non = .non ∧ ∃ (d' : Addr) (fs : List (Str × V)), (upd (upd (upd (upd H a (exo a C none)) d (exd d [])) a (exo a C (some d))) d (exd d [(f, v)])) a = some (exo a C (some d')) ∧ (upd (upd (upd (upd H a (exo a C none)) d (exd d [])) a (exo a C (some d))) d (exd d [(f, v)])) d' = some (exd d' fs) ∧
      H d' = none ∧ E (.ref C) (some d') (upd (del (upd (upd (upd (upd H a (exo a C none)) d (exd d [])) a (exo a C (some d))) d (exd d [(f, v)])) a) d' (.xd fs)) := by
  have h0 : H d = none := by rw [upd_ne ne] at hd; exact hd
  refine ⟨rfl, d, [(f, v)], by rw [upd_ne ne.symm, upd_same], upd_same, h0, ?_⟩
  rw [fresh_xd ha ne]
  exact k d _ (Same.new h0) upd_same
/-! ### things of no own class -/
/-- what is no world -/
def NWld (H : Hp) (x : V) : Prop := x = .non ∨ (∃ i, x = .int i) ∨ (∃ b, x = .bl b) ∨ (∃ s, x = .str s) ∨ ∃ a, x = .ref a ∧ ((∃ xs, H a = some (.lst xs)) ∨ ∃ xs, H a = some (.tup xs))
theorem NWld.same {H H' : Hp} {x : V} (h : NWld H x) (s : Same H H') : NWld H' x := by
  rcases h with h | h | h | h | ⟨a, e, ⟨xs, h⟩ | ⟨xs, h⟩⟩
  · exact .inl h
  · exact .inr (.inl h)
  · exact .inr (.inr (.inl h))
  · exact .inr (.inr (.inr (.inl h)))
  · exact .inr (.inr (.inr (.inr ⟨a, e, .inl ⟨xs, s _ _ h⟩⟩)))
  · exact .inr (.inr (.inr (.inr ⟨a, e, .inr ⟨xs, s _ _ h⟩⟩)))
theorem NWld.ty {K : PySem.W.Frag} {H : Hp} {x : V} (h : NWld H x) : ∃ t : String, TyX K H x (.type t) ∧ (t = "NoneType" ∨ t = "int" ∨ t = "bool" ∨ t = "str" ∨ t = "list" ∨ t = "tuple") := by
  rcases h with rfl | ⟨i, rfl⟩ | ⟨b, rfl⟩ | ⟨s, rfl⟩ | ⟨a, rfl, ⟨xs, h⟩ | ⟨xs, h⟩⟩
  · exact ⟨_, .base .non, by simp⟩
  · exact ⟨_, .base (.int _), by simp⟩
  · exact ⟨_, .base (.bl _), by simp⟩
  · exact ⟨_, .base (.str _), by simp⟩
  · exact ⟨_, .base (.lst h), by simp⟩
  · exact ⟨_, .base (.tup h), by simp⟩
theorem kit_tC {K : PySem.W.Frag} {C : Addr} {t : String} {l : List Value} (h : PySem.fastBuiltinMro t = some l) (hl : l.contains (Value.ref C) = false) (iD : PySem.W.isClsIn K C = true) (tD : PySem.W.typeIn K (.ref C) = some (.type "type")) : PySem.W.kitOne K (.type t) (.ref C) = some false := by
  have q : (PySem.W.clsIn K C).isSome = true := iD
  have n : (Value.type t == Value.ref C) = false := by
    apply beq_eq_false_iff_ne.mpr
    intro z
    cases z
  show (if (Value.type t == Value.ref C) = true then some true else if ((PySem.W.clsIn K C).isSome && PySem.W.typeIn K (.ref C) == some (.type "type")) = true then (PySem.fastBuiltinMro t).map (·.contains (Value.ref C)) else none) = some false
  rw [n, if_neg (by decide), if_pos (by rw [q, tD]; rfl), h]
  show some (l.contains (Value.ref C)) = some false
  rw [hl]
theorem kit_tCs {K : PySem.W.Frag} {C : Addr} {t : String} (ht : t = "NoneType" ∨ t = "int" ∨ t = "bool" ∨ t = "str" ∨ t = "list" ∨ t = "tuple") (iD : PySem.W.isClsIn K C = true) (tD : PySem.W.typeIn K (.ref C) = some (.type "type")) : PySem.W.kitOne K (.type t) (.ref C) = some false := by
  rcases ht with rfl | rfl | rfl | rfl | rfl | rfl
  · exact kit_tC (l := [.type "NoneType", .type "object"]) (by kernel_rfl) rfl iD tD
  · exact kit_tC (l := [.type "int", .type "object"]) (by kernel_rfl) rfl iD tD
  · exact kit_tC (l := [.type "bool", .type "int", .type "object"]) (by kernel_rfl) rfl iD tD
  · exact kit_tC (l := [.type "str", .type "object"]) (by kernel_rfl) rfl iD tD
  · exact kit_tC (l := [.type "list", .type "object"]) (by kernel_rfl) rfl iD tD
  · exact kit_tC (l := [.type "tuple", .type "object"]) (by kernel_rfl) rfl iD tD
/-! ### products and contraries of walks -/
theorem mem_gone {l p : List Nat} : p ∈ gone l ↔ ∃ u v, l = u ++ v ∧ p = RowM.plain u := by
  refine WalkM.snoc_ind (P := fun l => p ∈ gone l ↔ ∃ u v, l = u ++ v ∧ p = RowM.plain u) ?_ (fun l c ih => ?_) l
  · rw [WalkM.gone_nil, List.mem_singleton]
    constructor
    · rintro rfl
      exact ⟨[], [], rfl, rfl⟩
    · rintro ⟨u, v, e, rfl⟩
      obtain ⟨rfl, rfl⟩ := List.append_eq_nil_iff.mp e.symm
      rfl
  · rw [WalkM.gone_snoc, WalkM.mem_addK, ih, ← WalkM.plain_snoc]
    constructor
    · rintro (⟨u, v, rfl, e⟩ | e)
      · exact ⟨u, v ++ [c], by simp, e⟩
      · exact ⟨l ++ [c], [], by simp, e⟩
    · rintro ⟨u, v, e, rfl⟩
      rcases List.eq_nil_or_concat v with rfl | ⟨w, x, rfl⟩
      · rw [List.append_nil] at e
        exact .inr (by rw [e])
      · rw [List.concat_eq_append, ← List.append_assoc] at e
        obtain ⟨e1, _⟩ := List.append_inj' e rfl
        exact .inl ⟨u, w, e1, rfl⟩
theorem plain_shift {b p : List Nat} (rb : Row b) (rp : Row p) : RowM.plain (RowM.turn b ++ RowM.plain (b ++ p)) = RowM.plain p := by
  rw [plain_app_r (RowM.turn_row rb) (row_app rb rp), ← List.append_assoc]
  have h : RowM.plain (RowM.turn b ++ b) = [] := by
    have := RowM.plain_there_back (RowM.turn_row rb)
    rwa [RowM.turn_turn rb] at this
  rw [← plain_app_l (row_app (RowM.turn_row rb) rb), h]
  rfl
theorem turn_gone {l : List Nat} (rl : Row l) (p : List Nat) : p ∈ gone (RowM.turn l) ↔ ∃ q ∈ gone l, p = RowM.plain (RowM.turn (RowM.plain l) ++ q) := by
  have key : ∀ u v, l = u ++ v → RowM.plain (RowM.turn v) = RowM.plain (RowM.turn (RowM.plain l) ++ RowM.plain u) := fun u v e => by
    subst e
    have ru : Row u := fun c hc => rl c (List.mem_append_left _ hc)
    have rv : Row v := fun c hc => rl c (List.mem_append_right _ hc)
    rw [← RowM.plain_turn rl, plain_app_l (RowM.turn_row rl), plain_app_r (RowM.turn_row rl) ru, RowM.turn_append, List.append_assoc]
    have h : RowM.plain (RowM.turn u ++ u) = [] := by
      have := RowM.plain_there_back (RowM.turn_row ru)
      rwa [RowM.turn_turn ru] at this
    rw [← plain_app_r (RowM.turn_row rv) (row_app (RowM.turn_row ru) ru), h, List.append_nil]
  rw [mem_gone]
  constructor
  · rintro ⟨a, b, e, rfl⟩
    have e2 : l = RowM.turn b ++ RowM.turn a := by rw [← RowM.turn_append, ← e, RowM.turn_turn rl]
    refine ⟨RowM.plain (RowM.turn b), mem_gone.mpr ⟨_, _, e2, rfl⟩, ?_⟩
    have ra : Row a := fun c hc => RowM.turn_row rl c (by rw [e]; exact List.mem_append_left _ hc)
    rw [← key _ _ e2, RowM.turn_turn ra]
  · rintro ⟨q, hq, rfl⟩
    obtain ⟨u, v, e, rfl⟩ := mem_gone.mp hq
    exact ⟨RowM.turn v, RowM.turn u, by rw [e, RowM.turn_append], (key u v e).symm⟩
theorem perm_of {ts us : List (List Nat)} (n1 : ts.Nodup) (n2 : us.Nodup) (h : ∀ p, p ∈ ts ↔ p ∈ us) : ts.Perm us := (List.perm_ext_iff_of_nodup n1 n2).mpr h
theorem treeS_perm {ts us : List (List Nat)} (t : TreeS ts) (h : ts.Perm us) : TreeS us := ⟨⟨h.nodup_iff.mp t.t.nd, fun p hp => t.t.pr p (h.mem_iff.mpr hp), fun p hp ne => h.mem_iff.mp (t.t.cl p (h.mem_iff.mpr hp) ne)⟩, fun p hp => t.z p (h.mem_iff.mpr hp), h.length_eq ▸ t.n0, h.length_eq ▸ t.n1⟩
/-- the places of the contrary -/
def backL (l : List Nat) : List (List Nat) := (srt (gone l)).map fun p => RowM.plain (RowM.turn (RowM.plain l) ++ p)
theorem backL_perm {l : List Nat} (rl : Row l) : (gone (RowM.turn l)).Perm (backL l) := by
  have tl := WalkM.srt_tree (WalkM.tree_gone rl)
  refine perm_of (WalkM.tree_gone (RowM.turn_row rl)).nd ?_ fun p => ?_
  · unfold backL
    refine List.pairwise_map.mpr ?_
    refine List.Pairwise.imp_of_mem ?_ tl.nd
    intro p q hp hq ne e
    refine ne ?_
    have rb := RowM.turn_row (RowM.plain_row rl)
    have h1 := plain_shift rb (tl.pr p hp).1
    have h2 := plain_shift rb (tl.pr q hq).1
    rw [e] at h1
    rw [h1] at h2
    rw [WalkM.plain_prow (tl.pr p hp), WalkM.plain_prow (tl.pr q hq)] at h2
    exact h2
  · rw [turn_gone rl]
    unfold backL
    rw [List.mem_map]
    exact ⟨fun ⟨q, hq, e⟩ => ⟨q, WalkM.srt_mem.mpr hq, e.symm⟩, fun ⟨q, hq, e⟩ => ⟨q, WalkM.srt_mem.mp hq, e.symm⟩⟩
/-- the places of a product, as they come -/
def prodL (l m : List Nat) (k : Nat) : List (List Nat) := ((srt (gone m)).take k).foldl (fun ks p => addK ks (RowM.plain (RowM.plain l ++ p))) (srt (gone l))
theorem prodL_step {l m p : List Nat} {k : Nat} (h : (srt (gone m))[k]? = some p) : prodL l m (k + 1) = addK (prodL l m k) (RowM.plain (RowM.plain l ++ p)) := by
  unfold prodL
  rw [List.take_add_one, h, List.foldl_append]
  rfl
theorem prodL_nd {l m : List Nat} (rl : Row l) : ∀ k, (prodL l m k).Nodup := by
  intro k
  unfold prodL
  generalize (srt (gone m)).take k = xs
  have : ∀ (xs ks : List (List Nat)), ks.Nodup → (xs.foldl (fun ks p => addK ks (RowM.plain (RowM.plain l ++ p))) ks).Nodup := by
    intro xs
    induction xs with
    | nil => intro ks h; exact h
    | cons x xs ih => intro ks h; exact ih _ (WalkM.addK_nodup h)
  exact this _ _ (WalkM.srt_nodup (WalkM.tree_gone rl).nd)
theorem prodL_mem {l m : List Nat} (p : List Nat) : ∀ k, p ∈ prodL l m k ↔ p ∈ gone l ∨ ∃ q ∈ (srt (gone m)).take k, p = RowM.plain (RowM.plain l ++ q) := by
  intro k
  unfold prodL
  generalize (srt (gone m)).take k = xs
  have : ∀ (xs ks : List (List Nat)), p ∈ (xs.foldl (fun ks p => addK ks (RowM.plain (RowM.plain l ++ p))) ks) ↔ p ∈ ks ∨ ∃ q ∈ xs, p = RowM.plain (RowM.plain l ++ q) := by
    intro xs
    induction xs with
    | nil => intro ks; simp
    | cons x xs ih =>
      intro ks
      rw [List.foldl_cons, ih, WalkM.mem_addK]
      simp only [List.mem_cons]
      constructor
      · rintro ((h | h) | ⟨q, hq, e⟩)
        · exact .inl h
        · exact .inr ⟨x, .inl rfl, h⟩
        · exact .inr ⟨q, .inr hq, e⟩
      · rintro (h | ⟨q, rfl | hq, e⟩)
        · exact .inl (.inl h)
        · exact .inl (.inr e)
        · exact .inr ⟨q, hq, e⟩
  rw [this, WalkM.srt_mem]
theorem prodL_perm {l m : List Nat} (rl : Row l) (rm : Row m) : (gone (l ++ m)).Perm (prodL l m (srt (gone m)).length) := by
  refine perm_of (WalkM.tree_gone (row_app rl rm)).nd (prodL_nd rl _) fun p => ?_
  rw [gone_app rl rm, prodL_mem, List.take_length]
  refine or_congr Iff.rfl ⟨?_, ?_⟩
  · rintro ⟨q, hq, e⟩; exact ⟨q, WalkM.srt_mem.mpr hq, by rw [plain_app_l rl]; exact e⟩
  · rintro ⟨q, hq, e⟩; exact ⟨q, WalkM.srt_mem.mp hq, by rw [← plain_app_l rl]; exact e⟩
theorem prodL_len (l m : List Nat) (k : Nat) : (prodL l m k).length ≤ (gone l).length + k := by
  unfold prodL
  have : ∀ (xs ks : List (List Nat)), (xs.foldl (fun ks p => addK ks (RowM.plain (RowM.plain l ++ p))) ks).length ≤ ks.length + xs.length := by
    intro xs
    induction xs with
    | nil => intro ks; exact Nat.le_refl _
    | cons x xs ih =>
      intro ks
      have h1 := ih (addK ks (RowM.plain (RowM.plain l ++ x)))
      have h2 := WalkM.addK_length ks (RowM.plain (RowM.plain l ++ x))
      rw [List.foldl_cons, List.length_cons]
      omega
  have h := this ((srt (gone m)).take k) (srt (gone l))
  rw [WalkM.srt_length] at h
  have := List.length_take_le k (srt (gone m))
  omega
/-- a tree is as deep as it has places -/
theorem deep : ∀ (n : Nat) (ts : List (List Nat)), (∀ k, k ≤ n → ∃ p ∈ ts, p.length = k) → n + 1 ≤ ts.length
  | 0, ts, h => by
    obtain ⟨p, hp, _⟩ := h 0 (Nat.le_refl _)
    have := List.length_pos_of_mem hp
    omega
  | n + 1, ts, h => by
    have ih := deep n (ts.filter fun p => decide (p.length ≤ n)) fun k hk => by
      obtain ⟨p, hp, e⟩ := h k (by omega)
      exact ⟨p, List.mem_filter.mpr ⟨hp, decide_eq_true (by omega)⟩, e⟩
    obtain ⟨p, hp, e⟩ := h (n + 1) (Nat.le_refl _)
    have : (ts.filter fun p => decide (p.length ≤ n)).length < ts.length := by
      refine List.length_filter_lt_length_iff_exists.mpr ⟨p, hp, ?_⟩
      simp [e]
    omega
theorem tree_deep {ts : List (List Nat)} (t : Tree ts) {p : List Nat} (hp : p ∈ ts) : p.length + 1 ≤ ts.length := by
  refine deep p.length ts ?_
  have : ∀ (n : Nat) (p : List Nat), p ∈ ts → p.length = n → ∀ k, k ≤ n → ∃ q ∈ ts, q.length = k := by
    intro n
    induction n with
    | zero => intro p hp e k hk; exact ⟨p, hp, by omega⟩
    | succ n ih =>
      intro p hp e k hk
      by_cases q : k = n + 1
      · exact ⟨p, hp, by omega⟩
      · have ne : p ≠ [] := fun z => by rw [z] at e; simp at e
        exact ih p.dropLast (t.cl p hp ne) (by rw [List.length_dropLast]; omega) k (by omega)
  exact this _ p hp rfl
theorem treeS_of {l : List Nat} (rl : Row l) (h : (gone l).length ≤ 61) : TreeS (gone l) :=
  ⟨WalkM.tree_gone rl, fun p hp => by have := tree_deep (WalkM.tree_gone rl) hp; omega, WalkM.gone_pos l, h⟩
theorem rows_gone {l : List Nat} (rl : Row l) : ∀ p ∈ gone l, Row p := fun p hp => ((WalkM.tree_gone rl).pr p hp).1
/-- a walk's text -/
def nm (p : List Nat) : List Nat := if p = [] then [45] else p
def wtxt (ps : List (List Nat)) (e : List Nat) : List Nat := (joinL [32] (ps.map nm) ++ [32, 58, 32]) ++ nm e
theorem joinL_len (a : List Nat) : ∀ ps : List (List Nat), (joinL a ps).length ≤ (ps.map fun p => p.length + a.length).sum
  | [] => by simp [joinL]
  | [p] => by simp [joinL]
  | p :: q :: r => by
    have := joinL_len a (q :: r)
    rw [joinL]
    simp only [List.length_append, List.map_cons, List.sum_cons] at this ⊢
    omega
theorem nm_len {p : List Nat} (h : p.length ≤ 60) : (nm p).length ≤ 60 := by
  unfold nm
  split
  · simp
  · exact h
theorem sum_le {xs : List Nat} {b : Nat} (h : ∀ x ∈ xs, x ≤ b) : xs.sum ≤ xs.length * b := by
  induction xs with
  | nil => simp
  | cons x xs ih =>
    have h1 := ih fun y hy => h y (List.mem_cons_of_mem _ hy)
    have h2 := h x List.mem_cons_self
    rw [List.sum_cons, List.length_cons, Nat.succ_mul]
    omega
/-- what a walk may be held against -/
def EqW (C : Addr) (H : Hp) (ps : List (List Nat)) (e : List Nat) (y : V) (z : Bool) : Prop := (∃ (b r : Addr) (us : List (List Nat)) (f : List Nat), y = .ref b ∧ WkAt C H b r us f ∧ us.length ≤ 61 ∧ (z = true ↔ e = f ∧ ∀ p, p ∈ ps ↔ p ∈ us)) ∨ (NWld H y ∧ z = false)
/-- what is due of a product -/
def DueAt (H : Hp) (D : Addr) (l m : List Nat) : Prop := ((gone (l ++ m)).length ≤ 61 ∧ ∃ s, H D = some (.lst [.ref s, sT (RowM.plain (l ++ m))]) ∧ H s = some (.lst ((srt (gone (l ++ m))).map sT))) ∨ (¬ (gone (l ++ m)).length ≤ 61 ∧ H D = some (.lst [.int ((gone (l ++ m)).length : Nat)]))
theorem DueAt.same {H H' : Hp} {D : Addr} {l m : List Nat} (h : DueAt H D l m) (s : Same H H') : DueAt H' D l m := by
  rcases h with ⟨h, t, e1, e2⟩ | ⟨h, e⟩
  · exact .inl ⟨h, t, s _ _ e1, s _ _ e2⟩
  · exact .inr ⟨h, s _ _ e⟩
def dueD (l m : List Nat) : PyData := if (gone (l ++ m)).length ≤ 61 then .list [.list (sD (srt (gone (l ++ m)))), .str (S (RowM.plain (l ++ m)))] else .list [.int ((gone (l ++ m)).length : Nat)]
theorem DueAt.dp {K : PySem.W.Frag} {H : Hp} {D : Addr} {l m : List Nat} (h : DueAt H D l m) : Dp K H (.ref D) (dueD l m) := by
  unfold dueD
  rcases h with ⟨h, t, e1, e2⟩ | ⟨h, e⟩
  · rw [if_pos h]
    exact .lst (SqL.of e1) (.cons (dp_T e2) (.cons (.str _) .nil))
  · rw [if_neg h]
    exact .lst (SqL.of e) (.cons (.int _) .nil)
theorem canLay_sD {ts : List (List Nat)} (h : ∀ p ∈ ts, Row p) : PyData.canLayAll0 (sD ts) = true := by
  induction ts with
  | nil => rfl
  | cons t ts ih =>
    have e : sD (t :: ts) = .str (S t) :: sD ts := rfl
    rw [e, PyData.canLayAll0, ih fun p hp => h p (List.mem_cons_of_mem _ hp), PyData.canLay0, strOk_row (h t List.mem_cons_self)]
    rfl
theorem depth_sD (ts : List (List Nat)) : PyData.depthAll (sD ts) = 0 := by
  induction ts with
  | nil => rfl
  | cons t ts ih =>
    have e : sD (t :: ts) = .str (S t) :: sD ts := rfl
    rw [e, PyData.depthAll, ih, PyData.depth]
    rfl
theorem shaped_dueD {l m : List Nat} (rl : Row l) (rm : Row m) : SeqAt.shaped (dueD l m) = true := by
  have r := row_app rl rm
  unfold dueD
  split
  · have h1 : PyData.canLayAll0 (sD (srt (gone (l ++ m)))) = true := canLay_sD fun p hp => rows_gone r p (WalkM.srt_mem.mp hp)
    have h2 := depth_sD (srt (gone (l ++ m)))
    have h3 := strOk_row (RowM.plain_row r)
    simp [SeqAt.shaped, PyData.canLay0, PyData.canLayAll0, PyData.depth, PyData.depthAll, h1, h2, h3]
  · simp [SeqAt.shaped, PyData.canLay0, PyData.canLayAll0, PyData.depth, PyData.depthAll]
theorem eqv_dueD (l m : List Nat) : PyData.eqv (dueD l m) (dueD l m) = true := by
  unfold dueD
  split
  · simp [PyData.eqv, PyData.eqvAll, eqv_sD]
  · simp [PyData.eqv, PyData.eqvAll]
theorem mul_a : Txt.mul (Str.ofString "a") 30 = S (List.replicate 30 97) := by decide +kernel
theorem mul_b : ∀ v : Int, 0 ≤ v → v < 4 → MulOk (Str.ofString "b") (29 + v) ∧ ∃ k, k ≤ 32 ∧ Txt.mul (Str.ofString "b") (29 + v) = S (List.replicate k 98) := by
  intro v h0 h1
  have : v = 0 ∨ v = 1 ∨ v = 2 ∨ v = 3 := by omega
  rcases this with rfl | rfl | rfl | rfl
  · exact ⟨⟨by decide, fun _ _ => by decide +kernel, fun _ _ => by decide +kernel⟩, 29, by decide, by decide +kernel⟩
  · exact ⟨⟨by decide, fun _ _ => by decide +kernel, fun _ _ => by decide +kernel⟩, 30, by decide, by decide +kernel⟩
  · exact ⟨⟨by decide, fun _ _ => by decide +kernel, fun _ _ => by decide +kernel⟩, 31, by decide, by decide +kernel⟩
  · exact ⟨⟨by decide, fun _ _ => by decide +kernel, fun _ _ => by decide +kernel⟩, 32, by decide, by decide +kernel⟩
theorem row_rep (c k : Nat) (h : c ∈ sgns) : Row (List.replicate k c) := fun d hd => by rw [(List.mem_replicate.mp hd).2]; exact h
theorem ok_w : ∀ l : List Nat, (∀ c ∈ l, c ∈ [32, 45, 58] ++ sgns) → PyData.strOk (S l) = true := by
  intro l h
  have q : ∀ c ∈ l, c < 1114112 := fun c hc => by
    have : ∀ c ∈ [32, 45, 58] ++ sgns, c < 1114112 := by decide
    exact this c (h c hc)
  unfold PyData.strOk
  simp only [List.all_eq_true, Array.all_eq_true, decide_eq_true_eq]
  first
    | exact q
    | (intro i hi; exact q _ (by simpa using List.getElem_mem (l := l) (by simpa using hi)))
theorem joinL_mem {c : Nat} {a : List Nat} : ∀ {ps : List (List Nat)}, c ∈ joinL a ps → c ∈ a ∨ ∃ p ∈ ps, c ∈ p
  | [], h => by simp [joinL] at h
  | [p], h => by simp [joinL] at h; exact .inr ⟨p, by simp, h⟩
  | p :: q :: r, h => by
    rw [joinL] at h
    simp only [List.mem_append] at h
    rcases h with h | h | h
    · exact .inr ⟨p, by simp, h⟩
    · exact .inl h
    · rcases joinL_mem h with h | ⟨x, hx, h⟩
      · exact .inl h
      · exact .inr ⟨x, List.mem_cons_of_mem _ hx, h⟩
theorem nm_mem {c : Nat} {p : List Nat} (h : c ∈ nm p) : c = 45 ∨ c ∈ p := by
  unfold nm at h
  split at h
  · exact .inl (List.mem_singleton.mp h)
  · exact .inr h
theorem wtxt_ok {ps : List (List Nat)} {e : List Nat} (h : ∀ p ∈ ps, Row p) (he : Row e) : ∀ c ∈ wtxt ps e, c ∈ [32, 45, 58] ++ sgns := by
  intro c hc
  unfold wtxt at hc
  simp only [List.mem_append] at hc ⊢
  rcases hc with (hc | hc) | hc
  · rcases joinL_mem hc with q | ⟨x, hx, q⟩
    · rw [List.mem_singleton.mp q]; exact .inl (by decide)
    · obtain ⟨p, hp, rfl⟩ := List.mem_map.mp hx
      rcases nm_mem q with q | q
      · rw [q]; exact .inl (by decide)
      · exact .inr (h p hp c q)
  · refine .inl ?_
    revert hc
    revert c
    decide
  · rcases nm_mem hc with q | q
    · rw [q]; exact .inl (by decide)
    · exact .inr (he c q)
theorem shaped_W {l m : List Nat} (ol : Ord (srt (gone l))) (om : Ord (srt (gone m))) (rl : Row l) (rm : Row m) : SeqAt.shaped (.list (sD [wtxt (srt (gone l)) (RowM.plain l), wtxt (srt (gone m)) (RowM.plain m)])) = true := shaped_strs _ (by
  have h1 := ok_w _ (wtxt_ok (fun p hp => (ol.t.t.pr p hp).1) (RowM.plain_row rl))
  have h2 := ok_w _ (wtxt_ok (fun p hp => (om.t.t.pr p hp).1) (RowM.plain_row rm))
  simp [h1, h2])
theorem neg_bl (x : Bool) : decide (V.bl (!x) = V.bl x) = false := decide_eq_false fun h => by injection h with h; cases x <;> cases h
theorem dec_bl (x y : Bool) : decide (V.bl x = V.bl y) = decide (x = y) := decide_eq_decide.mpr ⟨fun h => by injection h, fun h => by rw [h]⟩
/-! ### lists of tuples of flat things -/
structure TL {α : Type} (H : Hp) (val : α → List V) (ts : List Addr) (xs : List α) : Prop where
  len : ts.length = xs.length
  get : ∀ (i : Nat) (t : Addr), ts[i]? = some t → ∃ x, xs[i]? = some x ∧ H t = some (.tup (val x))
section
variable {α : Type} {val : α → List V} {H H' : Hp} {ts : List Addr} {xs : List α}
theorem TL.nil : TL H val [] [] := ⟨rfl, fun i t h => by simp at h⟩
theorem TL.mono (h : TL H val ts xs) (s : Same H H') : TL H' val ts xs := ⟨h.len, fun i t hi => let ⟨x, a, b⟩ := h.get i t hi; ⟨x, a, s _ _ b⟩⟩
/-- one tuple more -/
theorem TL.more {D u : Addr} {x : α} (hD : H D = some (.lst (ts.map V.ref))) (tl : TL H val ts xs) (hu : H u = none) :
    (upd (upd H u (.tup (val x))) D (.lst (ts.map V.ref ++ [.ref u]))) D = some (.lst ((ts ++ [u]).map V.ref)) ∧ TL (upd (upd H u (.tup (val x))) D (.lst (ts.map V.ref ++ [.ref u]))) val (ts ++ [u]) (xs ++ [x]) := by
  have nD : D ≠ u := ne_of_none hD hu
  refine ⟨by rw [upd_same, List.map_append]; rfl, by simp [tl.len], fun i t hi => ?_⟩
  have hl := tl.len
  by_cases q : i < ts.length
  · rw [List.getElem?_append_left q] at hi
    rw [List.getElem?_append_left (by omega)]
    obtain ⟨y, h1, h2⟩ := tl.get i t hi
    refine ⟨y, h1, ?_⟩
    rw [upd_ne (fun e => by rw [e, hD] at h2; cases h2), upd_ne (ne_of_none h2 hu)]
    exact h2
  · have il : i < ts.length + 1 := by
      have := (List.getElem?_eq_some_iff.mp hi).1
      simpa using this
    have ei : i = ts.length := by omega
    subst ei
    rw [List.getElem?_append_right (Nat.le_refl _), Nat.sub_self] at hi
    injection hi with hi
    subst hi
    refine ⟨x, by rw [List.getElem?_append_right (by omega), hl]; simp, ?_⟩
    rw [upd_ne nD.symm]
    exact upd_same
theorem TL.mem (h : TL H val ts xs) {t : Addr} {x : α} (m : (t, x) ∈ ts.zip xs) : H t = some (.tup (val x)) := by
  obtain ⟨i, hi⟩ := List.mem_iff_getElem?.mp m
  rw [List.getElem?_zip_eq_some] at hi
  obtain ⟨y, hy, e⟩ := h.get i t hi.1
  rw [hi.2] at hy
  injection hy with hy
  subst hy
  exact e
end
theorem samE_more {H1 H : Hp} {D u : Addr} {o o' : HO} (s : Same H1 H) (nD : H1 D = none) (hu : H u = none) : Same H1 (upd (upd H u o) D o') := fun b x hb => by
  have := s _ _ hb
  rw [upd_ne (ne_of_none hb nD), upd_ne (ne_of_none this hu)]
  exact this
/-- a flat thing as data -/
def flD : V → PyData
  | .int i => .int i
  | .str s => .str s
  | .bl b => .bool b
  | _ => .none
def FlV : V → Prop
  | .int _ => True
  | .str _ => True
  | .bl _ => True
  | .non => True
  | _ => False
theorem FlV.dp {K : PySem.W.Frag} {H : Hp} : ∀ {v : V}, FlV v → Dp K H v (flD v)
  | .int _, _ => .int _
  | .str _, _ => .str _
  | .bl _, _ => .bl _
  | .non, _ => .non
theorem fl_dpall {K : PySem.W.Frag} {H : Hp} : ∀ {vs : List V}, (∀ v ∈ vs, FlV v) → DpAll K H vs (vs.map flD)
  | [], _ => .nil
  | v :: vs, h => .cons (FlV.dp (h v List.mem_cons_self)) (fl_dpall fun u hu => h u (List.mem_cons_of_mem _ hu))
def tupD {α : Type} (val : α → List V) (x : α) : PyData := .tuple ((val x).map flD)
theorem zip_fst' {β γ : Type} : ∀ (us : List β) (ps : List γ), us.length = ps.length → (us.zip ps).map (·.1) = us
  | [], [], _ => rfl
  | [], _ :: _, h => by simp at h
  | _ :: _, [], h => by simp at h
  | u :: us, p :: ps, h => by simp only [List.zip_cons_cons, List.map_cons, zip_fst' us ps (by simpa using h)]
theorem zip_snd' {β γ : Type} : ∀ (us : List β) (ps : List γ), us.length = ps.length → (us.zip ps).map (·.2) = ps
  | [], [], _ => rfl
  | [], _ :: _, h => by simp at h
  | _ :: _, [], h => by simp at h
  | u :: us, p :: ps, h => by simp only [List.zip_cons_cons, List.map_cons, zip_snd' us ps (by simpa using h)]
theorem dpall_pairs {K : PySem.W.Frag} {H : Hp} : ∀ {bs : List (V × PyData)}, (∀ b ∈ bs, Dp K H b.1 b.2) → DpAll K H (bs.map (·.1)) (bs.map (·.2))
  | [], _ => .nil
  | b :: bs, h => .cons (h b List.mem_cons_self) (dpall_pairs fun c hc => h c (List.mem_cons_of_mem _ hc))
section
variable {α : Type} {val : α → List V} {K : PySem.W.Frag} {H H' : Hp} {ts : List Addr} {xs : List α}
def itm (val : α → List V) (c : Addr × α) : V × PyData := (.ref c.1, tupD val c.2)
theorem TL.dp1 (h : TL H val ts xs) (fl : ∀ x, ∀ v ∈ val x, FlV v) : ∀ b ∈ (ts.zip xs).map (itm val), Dp K H b.1 b.2 := fun b hb => by
  obtain ⟨c, hc, rfl⟩ := List.mem_map.mp hb
  exact .tup (Evl.st_of (h.mem hc)) (fl_dpall (fl c.2))
theorem itm_fst (h : ts.length = xs.length) : ((ts.zip xs).map (itm val)).map (·.1) = ts.map V.ref := by
  rw [List.map_map]
  have : ((·.1) ∘ itm val : Addr × α → V) = V.ref ∘ (·.1) := rfl
  rw [this, ← List.map_map, zip_fst' _ _ h]
theorem itm_snd (h : ts.length = xs.length) : ((ts.zip xs).map (itm val)).map (·.2) = xs.map (tupD val) := by
  rw [List.map_map]
  have : ((·.2) ∘ itm val : Addr × α → PyData) = tupD val ∘ (·.2) := rfl
  rw [this, ← List.map_map, zip_snd' _ _ h]
theorem TL.dp (h : TL H val ts xs) (fl : ∀ x, ∀ v ∈ val x, FlV v) : DpAll K H (ts.map V.ref) (xs.map (tupD val)) := by
  have := dpall_pairs (K := K) (h.dp1 fl)
  rwa [itm_fst h.len, itm_snd h.len] at this
end
/-! ### steps of long rows -/
inductive StepD where
  | less (at_ many : Nat)
  | more (at_ many : Nat)
  | past (at_ many more : Nat)
deriving DecidableEq
namespace StepD
def vals : StepD → List V
  | .less a m => [.str (Str.ofString "less"), .int (a : Int), .int (m : Int)]
  | .more a m => [.str (Str.ofString "more"), .int (a : Int), .int (m : Int)]
  | .past a m k => [.str (Str.ofString "past"), .int (a : Int), .int (m : Int), .int (k : Int)]
def ok : StepD → Prop
  | .less _ m => 1 ≤ m ∧ 0 ≤ m
  | .more _ m => 1 ≤ m ∧ 0 ≤ m
  | .past _ m k => (1 ≤ m ∧ 0 ≤ m) ∧ 1 ≤ k ∧ 0 ≤ k
def at_ : StepD → Nat
  | .less a _ => a
  | .more a _ => a
  | .past a _ _ => a
end StepD
def partR (t : List Nat) (a m : Nat) : Option (List Nat) := if ((t.drop a).take m).length = m then some ((t.drop a).take m) else none
theorem partR_some {t p : List Nat} {a m : Nat} (h : partR t a m = some p) : p.length = m ∧ p = (t.drop a).take m := by
  unfold partR at h
  split at h
  · injection h with h
    subst h
    exact ⟨by assumption, rfl⟩
  · cases h
def lessR (t : List Nat) (a m : Nat) : Option (List Nat) := (partR t a m).bind fun p => if (t.drop (a + m)).take (2 * m) = RowM.turn p ++ p then some (t.take (a + m) ++ t.drop (a + 3 * m)) else none
def moreR (t : List Nat) (a m : Nat) : Option (List Nat) := (partR t a m).bind fun p => some (t.take (a + m) ++ RowM.turn p ++ p ++ t.drop (a + m))
def pastR (t : List Nat) (a m k : Nat) : Option (List Nat) := (partR t a m).bind fun p => (partR t (a + 2 * m) k).bind fun q =>
  if (t.drop a).take (2 * m + 2 * k) = p ++ RowM.turn p ++ (q ++ RowM.turn q) then some (t.take a ++ (q ++ RowM.turn q) ++ (p ++ RowM.turn p) ++ t.drop (a + 2 * m + 2 * k)) else none
/-- what comes of a step -/
def doR (t : List Nat) : StepD → Option (List Nat)
  | .less a m => lessR t a m
  | .more a m => moreR t a m
  | .past a m k => pastR t a m k
def doLR : List Nat → List StepD → Option (List Nat)
  | t, [] => some t
  | t, s :: r => (doR t s).bind fun u => doLR u r
theorem row_mid {t : List Nat} (h : Row t) (a m : Nat) : Row ((t.drop a).take m) := fun c hc => h c (List.mem_of_mem_drop (List.mem_of_mem_take hc))
theorem row_part {t p : List Nat} {a m : Nat} (h : Row t) (e : partR t a m = some p) : Row p := (partR_some e).2 ▸ row_mid h a m
theorem row_pre {t : List Nat} (h : Row t) (a : Nat) : Row (t.take a) := fun c hc => h c (List.mem_of_mem_take hc)
theorem row_suf {t : List Nat} (h : Row t) (a : Nat) : Row (t.drop a) := fun c hc => h c (List.mem_of_mem_drop hc)
theorem doR_row {t u : List Nat} (h : Row t) : ∀ {s : StepD}, doR t s = some u → Row u
  | .less a m, e => by
    obtain ⟨p, hp, e⟩ := Option.bind_eq_some_iff.mp (show (partR t a m).bind _ = some u from e)
    split at e
    · injection e with e
      subst e
      exact row_app (row_pre h _) (row_suf h _)
    · cases e
  | .more a m, e => by
    obtain ⟨p, hp, e⟩ := Option.bind_eq_some_iff.mp (show (partR t a m).bind _ = some u from e)
    injection e with e
    subst e
    have rp := row_part h hp
    exact row_app (row_app (row_app (row_pre h _) (RowM.turn_row rp)) rp) (row_suf h _)
  | .past a m k, e => by
    obtain ⟨p, hp, e⟩ := Option.bind_eq_some_iff.mp (show (partR t a m).bind _ = some u from e)
    obtain ⟨q, hq, e⟩ := Option.bind_eq_some_iff.mp e
    split at e
    · injection e with e
      subst e
      have rp := row_part h hp
      have rq := row_part h hq
      exact row_app (row_app (row_app (row_pre h _) (row_app rq (RowM.turn_row rq))) (row_app rp (RowM.turn_row rp))) (row_suf h _)
    · cases e
theorem part_room {t p : List Nat} {a m : Nat} (e : partR t a m = some p) (hm : 1 ≤ m) : a + m ≤ t.length := by
  obtain ⟨h1, h2⟩ := partR_some e
  rw [h2, List.length_take, List.length_drop] at h1
  omega
theorem doR_len {t u : List Nat} : ∀ {s : StepD}, s.ok → doR t s = some u → u.length ≤ t.length + 2 * (match s with | .more _ m => m | _ => 0)
  | .less a m, ok, e => by
    obtain ⟨p, hp, e⟩ := Option.bind_eq_some_iff.mp (show (partR t a m).bind _ = some u from e)
    split at e
    · injection e with e
      subst e
      rw [List.length_append, List.length_take, List.length_drop]
      omega
    · cases e
  | .more a m, ok, e => by
    obtain ⟨p, hp, e⟩ := Option.bind_eq_some_iff.mp (show (partR t a m).bind _ = some u from e)
    injection e with e
    subst e
    have z := part_room hp ok.1
    have zp := (partR_some hp).1
    rw [List.length_append, List.length_append, List.length_append, RowM.turn_length, List.length_take, List.length_drop]
    show _ ≤ t.length + 2 * m
    omega
  | .past a m k, ok, e => by
    obtain ⟨p, hp, e⟩ := Option.bind_eq_some_iff.mp (show (partR t a m).bind _ = some u from e)
    obtain ⟨q, hq, e⟩ := Option.bind_eq_some_iff.mp e
    split at e
    · rename_i hc
      injection e with e
      subst e
      have z1 := (partR_some hp).1
      have z2 := (partR_some hq).1
      have := congrArg List.length hc
      rw [List.length_take, List.length_drop] at this
      simp only [List.length_append, RowM.turn_length] at this
      simp only [List.length_append, RowM.turn_length, List.length_take, List.length_drop]
      omega
    · cases e
/-! slices of a text, anywhere -/
theorem cut_mid {l : List Nat} {i j : Nat} (h : i ≤ j) : cutS (S l) (some (i : Int)) (some (j : Int)) = S ((l.drop i).take (j - i)) := by
  rw [cut_S, HT.sIx_nat, HT.sIx_nat]
  congr 1
  by_cases h1 : j ≤ l.length
  · rw [Nat.min_eq_left h1, Nat.min_eq_left (Nat.le_trans h h1)]
  · rw [Nat.min_eq_right (by omega)]
    by_cases h2 : i ≤ l.length
    · rw [Nat.min_eq_left h2, List.take_of_length_le (by rw [List.length_drop]; omega), List.take_of_length_le (by rw [List.length_drop]; omega)]
    · rw [Nat.min_eq_right (by omega), List.drop_eq_nil_of_le (by omega : l.length ≤ i), List.drop_eq_nil_of_le (Nat.le_refl _)]
      simp
theorem cut_toG {l : List Nat} {k : Nat} : cutS (S l) none (some (k : Int)) = S (l.take k) := by
  rw [cut_S, HT.sIx_none, HT.sIx_nat, List.drop_zero, Nat.sub_zero]
  congr 1
  by_cases h : k ≤ l.length
  · rw [Nat.min_eq_left h]
  · rw [Nat.min_eq_right (by omega), List.take_length, List.take_of_length_le (by omega)]
theorem starts3_S {e q : List Nat} {i : Nat} (h : i ≤ e.length) : Txt.startswith3 (S e) (S q) (i : Int) = decide ((e.drop i).take q.length = q) := by
  have hf : PySem.fromIndex (S e).length (i : Int) = i := by
    unfold PySem.fromIndex
    rw [if_neg (by omega)]
    omega
  unfold Txt.startswith3
  rw [hf, PySem.StrLaws.subAt_eq, len_S, len_S]
  show (decide (i + q.length ≤ e.length) && ((e.drop i).take q.length == q)) = _
  rw [Bool.eq_iff_iff, Bool.and_eq_true, decide_eq_true_eq, beq_iff_eq, decide_eq_true_eq]
  constructor
  · exact fun h => h.2
  · intro h2
    refine ⟨?_, h2⟩
    have := congrArg List.length h2
    rw [List.length_take, List.length_drop] at this
    omega
def optS : Option (List Nat) → V
  | none => .non
  | some p => .str (S p)
/-- the number of the first step that can't be done -/
def badR : List Nat → List StepD → Nat
  | _, [] => 0
  | t, s :: r => match doR t s with
    | none => 0
    | some u => badR u r + 1
def toldV (t : List Nat) (ss : List StepD) : List V := match doLR t ss with
  | some u => [.str (Str.ofString "told"), .str (S u)]
  | none => [.str (Str.ofString "none"), .int (badR t ss : Nat)]
theorem st_fl : ∀ s : StepD, ∀ v ∈ s.vals, FlV v := fun s v hv => by
  cases s <;> (simp only [StepD.vals, List.mem_cons, List.not_mem_nil, or_false] at hv; rcases hv with rfl | rfl | rfl | rfl <;> trivial)
theorem ok_less : PyData.strOk (Str.ofString "less") = true := by decide +kernel
theorem ok_more : PyData.strOk (Str.ofString "more") = true := by decide +kernel
theorem ok_past : PyData.strOk (Str.ofString "past") = true := by decide +kernel
theorem st_shaped (s : StepD) : SeqAt.shaped (tupD StepD.vals s) = true := by
  cases s <;> simp [tupD, StepD.vals, flD, SeqAt.shaped, PyData.canLay0, PyData.canLayAll0, PyData.depth, PyData.depthAll, ok_less, ok_more, ok_past]
def StepD.small : StepD → Prop
  | .less _ m => m ≤ 20
  | .more _ m => m ≤ 20
  | .past _ m k => m ≤ 20 ∧ k ≤ 20
theorem doR_small {t u : List Nat} {s : StepD} (ok : s.ok) (sm : s.small) (e : doR t s = some u) : u.length ≤ t.length + 40 := by
  have h := doR_len ok e
  cases s with
  | less a m => dsimp only at h; omega
  | more a m =>
    have : m ≤ 20 := sm
    dsimp only at h
    omega
  | past a m k => dsimp only at h; omega
theorem doLR_snoc (s : StepD) : ∀ (ss : List StepD) (t : List Nat), doLR t (ss ++ [s]) = (doLR t ss).bind fun u => doR u s
  | [], t => by
    show (doR t s).bind (fun u => some u) = doR t s
    cases doR t s <;> rfl
  | a :: r, t => by
    show (doR t a).bind (fun u => doLR u (r ++ [s])) = ((doR t a).bind fun u => doLR u r).bind fun u => doR u s
    cases doR t a with
    | none => rfl
    | some v => exact doLR_snoc s r v
theorem doLR_bad {s : StepD} : ∀ {ss : List StepD} {i : Nat} {t u : List Nat}, doLR t (ss.take i) = some u → ss[i]? = some s → doR u s = none → doLR t ss = none ∧ badR t ss = i
  | [], _, _, _, _, h, _ => by simp at h
  | a :: r, 0, t, u, h1, h2, h3 => by
    simp only [List.take_zero, doLR, Option.some.injEq] at h1
    subst h1
    simp only [List.getElem?_cons_zero, Option.some.injEq] at h2
    subst h2
    unfold doLR badR
    rw [h3]
    exact ⟨rfl, rfl⟩
  | a :: r, i + 1, t, u, h1, h2, h3 => by
    rw [List.take_succ_cons] at h1
    simp only [List.getElem?_cons_succ] at h2
    obtain ⟨v, hv, h1⟩ := Option.bind_eq_some_iff.mp (show (doR t a).bind (fun w => doLR w (r.take i)) = some u from h1)
    obtain ⟨g1, g2⟩ := doLR_bad h1 h2 h3
    unfold doLR badR
    rw [hv]
    exact ⟨g1, congrArg (· + 1) g2⟩
theorem doLR_one (t : List Nat) (s : StepD) : doLR t [s] = doR t s := by
  show (doR t s).bind (fun u => some u) = doR t s
  cases doR t s <;> rfl
theorem take_oneS {α : Type} {xs : List α} {i : Nat} {x : α} (h : xs[i]? = some x) : xs.take (i + 1) = xs.take i ++ [x] := by rw [List.take_add_one, h]; rfl
theorem TL.one {α : Type} {val : α → List V} {H : Hp} {p : Addr} {x : α} (h : H p = some (.tup (val x))) : TL H val [p] [x] := ⟨rfl, fun i t hi => by
  cases i with
  | zero =>
    injection hi with hi
    exact ⟨x, rfl, hi ▸ h⟩
  | succ i => simp at hi⟩
theorem past_iff {t p q : List Nat} {a m k : Nat} (hp : partR t a m = some p) (hq : partR t (a + 2 * m) k = some q) :
    (t.drop a).take (2 * m + 2 * k) = p ++ RowM.turn p ++ (q ++ RowM.turn q) ↔ (t.drop (a + m)).take m = RowM.turn p ∧ (t.drop (a + 2 * m + k)).take k = RowM.turn q := by
  obtain ⟨zp, ep⟩ := partR_some hp
  obtain ⟨zq, eq⟩ := partR_some hq
  have e : (t.drop a).take (2 * m + 2 * k) = p ++ (t.drop (a + m)).take m ++ (q ++ (t.drop (a + 2 * m + k)).take k) := by
    rw [show 2 * m + 2 * k = m + (m + (k + k)) by omega, List.take_add, List.take_add, List.take_add, List.drop_drop, List.drop_drop, List.drop_drop, ep, eq, List.append_assoc]
    rw [show a + m + m = a + 2 * m by omega]
  rw [e]
  constructor
  · intro h
    have l1 : (p ++ (t.drop (a + m)).take m).length = (p ++ RowM.turn p).length := by
      have h1 := congrArg List.length h
      have h2 : ((t.drop (a + m)).take m).length ≤ m := List.length_take_le _ _
      have h3 : ((t.drop (a + 2 * m + k)).take k).length ≤ k := List.length_take_le _ _
      simp only [List.length_append, RowM.turn_length] at h1 ⊢
      omega
    obtain ⟨h1, h2⟩ := List.append_inj h l1
    exact ⟨List.append_cancel_left h1, List.append_cancel_left h2⟩
  · rintro ⟨h1, h2⟩
    rw [h1, h2]
theorem dec_S (l m : List Nat) : decide (V.str (S l) = V.str (S m)) = decide (l = m) := decide_eq_decide.mpr ⟨fun h => congrArg (fun v => match v with | V.str z => z.cps.toList | _ => []) h, fun e => by rw [e]⟩
theorem TL.add {α : Type} {val : α → List V} {H : Hp} {L A : Addr} {ts : List Addr} {xs : List α} {x : α} {ys : List V} {o : HO} (hL : H L = some (.lst ys)) (tl : TL H val ts xs) (hA : H A = some (.tup (val x))) : TL (upd H L o) val (ts ++ [A]) (xs ++ [x]) := by
  have hl := tl.len
  have keep : ∀ b zs, H b = some (.tup zs) → (upd H L o) b = some (.tup zs) := fun b zs hb => by
    rw [upd_ne (fun z => by rw [z, hL] at hb; cases hb)]
    exact hb
  refine ⟨by simp [hl], fun i t hi => ?_⟩
  by_cases z : i < ts.length
  · rw [List.getElem?_append_left z] at hi
    rw [List.getElem?_append_left (by omega)]
    obtain ⟨y, a, b⟩ := tl.get i t hi
    exact ⟨y, a, keep _ _ b⟩
  · have il : i < ts.length + 1 := by
      have := (List.getElem?_eq_some_iff.mp hi).1
      simpa using this
    have ei : i = ts.length := by omega
    subst ei
    rw [List.getElem?_append_right (Nat.le_refl _), Nat.sub_self] at hi
    injection hi with hi
    subst hi
    exact ⟨x, by rw [List.getElem?_append_right (by omega), hl]; simp, keep _ _ hA⟩
theorem st_shapedL (ss : List StepD) : SeqAt.shaped (.list (ss.map (tupD StepD.vals))) = true := by
  have h1 : ∀ ss : List StepD, PyData.canLayAll0 (ss.map (tupD StepD.vals)) = true := by
    intro ss
    induction ss with
    | nil => rfl
    | cons s r ih =>
      have h := st_shaped s
      rw [List.map_cons]
      simp only [SeqAt.shaped, Bool.and_eq_true] at h
      simp [PyData.canLayAll0, h.1, ih]
  have h2 : ∀ ss : List StepD, PyData.depthAll (ss.map (tupD StepD.vals)) ≤ 1 := by
    intro ss
    induction ss with
    | nil => simp [PyData.depthAll]
    | cons s r ih =>
      rw [List.map_cons]
      have : (tupD StepD.vals s).depth = 1 := by cases s <;> simp [tupD, StepD.vals, flD, PyData.depth, PyData.depthAll]
      simp only [PyData.depthAll, this]
      omega
  have h3 := h2 ss
  simp only [SeqAt.shaped, PyData.canLay0, h1, PyData.depth, Bool.true_and]
  exact decide_eq_true (by omega)
/-- a list of steps, grown at L -/
def LsI (L : Addr) (H0 H : Hp) (n : Nat) : Prop := Same H0 H ∧ ∃ (ts : List Addr) (ss : List StepD), H L = some (.lst (ts.map V.ref)) ∧ TL H StepD.vals ts ss ∧ (∀ s ∈ ss, s.ok ∧ s.small) ∧ ss.length ≤ n
theorem LsI.le {L : Addr} {H0 H : Hp} {n m : Nat} (h : LsI L H0 H n) (hm : n ≤ m) : LsI L H0 H m := let ⟨a, ts, ss, b, c, d, e⟩ := h; ⟨a, ts, ss, b, c, d, Nat.le_trans e hm⟩
theorem LsI.same {L : Addr} {H0 H H' : Hp} {n : Nat} (h : LsI L H0 H n) (s : Same H H') : LsI L H0 H' n := let ⟨a, ts, ss, b, c, d, e⟩ := h; ⟨Same.trans a s, ts, ss, s _ _ b, c.mono s, d, e⟩
theorem st_dp {K : PySem.W.Frag} {H : Hp} {A : Addr} {s : StepD} (h : H A = some (.tup s.vals)) : Dp K H (.ref A) (tupD StepD.vals s) := .tup (SqT.of h) (fl_dpall (st_fl s))

theorem doLR_stay (s : StepD) : ∀ {ss : List StepD} {t : List Nat}, doLR t ss = none → doLR t (ss ++ [s]) = none ∧ badR t (ss ++ [s]) = badR t ss
  | [], _, h => nomatch h
  | a :: r, t, h => by
    show (doR t a).bind (fun u => doLR u (r ++ [s])) = none ∧ badR t (a :: (r ++ [s])) = badR t (a :: r)
    have h : (doR t a).bind (fun u => doLR u r) = none := h
    cases e : doR t a with
    | none =>
      refine ⟨rfl, ?_⟩
      unfold badR
      rw [e]
    | some v =>
      rw [e] at h
      obtain ⟨h1, h2⟩ := doLR_stay s (ss := r) (t := v) h
      refine ⟨h1, ?_⟩
      unfold badR
      rw [e]
      exact congrArg (· + 1) h2
theorem doLR_rowL : ∀ {ss : List StepD} {t u : List Nat}, Row t → doLR t ss = some u → Row u
  | [], t, u, h, e => by
    injection e with e
    exact e ▸ h
  | a :: r, t, u, h, e => by
    obtain ⟨v, hv, e⟩ := Option.bind_eq_some_iff.mp (show (doR t a).bind (fun w => doLR w r) = some u from e)
    exact doLR_rowL (doR_row h hv) e
theorem str_rowS {l : List Nat} (h : Row l) : PyData.strOk (S l) = true := by
  have h2 : ∀ c ∈ sgns, c < 1114112 := by decide
  simp [PyData.strOk]
  intro c hc
  exact h2 c (h c hc)
theorem eqv_selfS {d : PyData} (h : SeqAt.shaped d = true) : PyData.eqv d d = true := SeqAt.eqv_refl d (SeqAt.canLay_of_shaped h)
theorem told_fl (t : List Nat) (ss : List StepD) : ∀ v ∈ toldV t ss, FlV v := fun v hv => by
  unfold toldV at hv
  split at hv <;> (simp only [List.mem_cons, List.not_mem_nil, or_false] at hv; rcases hv with rfl | rfl <;> trivial)
theorem ok_told : PyData.strOk (Str.ofString "told") = true := by decide +kernel
theorem ok_noneS : PyData.strOk (Str.ofString "none") = true := by decide +kernel
theorem told_shaped {t : List Nat} (h : Row t) (ss : List StepD) : SeqAt.shaped (.list ((toldV t ss).map flD)) = true := by
  unfold toldV
  split
  · rename_i u hu
    have := str_rowS (doLR_rowL h hu)
    simp [flD, SeqAt.shaped, PyData.canLay0, PyData.canLayAll0, PyData.depth, PyData.depthAll, ok_told, this]
  · simp [flD, SeqAt.shaped, PyData.canLay0, PyData.canLayAll0, PyData.depth, PyData.depthAll, ok_noneS]
theorem told_dp {K : PySem.W.Frag} {H : Hp} {A : Addr} {t : List Nat} {ss : List StepD} (h : H A = some (.lst (toldV t ss))) : Dp K H (.ref A) (.list ((toldV t ss).map flD)) := .lst (SqL.of h) (fl_dpall (told_fl t ss))
theorem told_oneS {t u : List Nat} {s : StepD} (h : doR t s = some u) : toldV t [s] = [.str (Str.ofString "told"), .str (S u)] := by
  unfold toldV
  rw [doLR_one, h]
theorem told_oneN {t : List Nat} {s : StepD} (h : doR t s = none) : toldV t [s] = [.str (Str.ofString "none"), .int 0] := by
  unfold toldV
  rw [doLR_one, h]
  unfold badR
  rw [h]
  rfl
theorem told_some {t u : List Nat} {ss : List StepD} (h : doLR t ss = some u) : toldV t ss = [.str (Str.ofString "told"), .str (S u)] := by
  unfold toldV
  rw [h]
theorem told_none {t : List Nat} {ss : List StepD} (h : doLR t ss = none) : toldV t ss = [.str (Str.ofString "none"), .int (badR t ss : Nat)] := by
  unfold toldV
  rw [h]
theorem mul01 {l : List Nat} {v : Int} (h0 : 0 ≤ v) (h1 : v < 2) (r : Row l) : MulOk (S l) v ∧ ∃ m, Txt.mul (S l) v = S m ∧ Row m ∧ m.length ≤ l.length := by
  have e : v = 0 ∨ v = 1 := by omega
  rcases e with rfl | rfl
  · exact ⟨⟨by decide, fun h => absurd (by decide) h, fun h => absurd (by decide) h⟩, [], rfl, (fun _ h => nomatch h), Nat.zero_le _⟩
  · exact ⟨⟨by decide, fun _ h => by simp at h, fun _ h => by simp at h⟩, l, rfl, r, Nat.le_refl _⟩
theorem TL.off {α : Type} {val : α → List V} {H H' : Hp} {p : Addr} {ts : List Addr} {xs : List α} (h : TL H val ts xs) (hp : Pool H p) (o : Off p H H') : TL H' val ts xs := ⟨h.len, fun i t hi => by
  obtain ⟨x, a, b⟩ := h.get i t hi
  refine ⟨x, a, o _ _ (fun e => ?_) b⟩
  obtain ⟨_, _, g, _⟩ := hp
  rw [e, g] at b
  cases b⟩
def DueI (H : Hp) (p L : Addr) (t u : List Nat) (ss : List StepD) (due : V) : Prop := (due = .non ∧ doLR t ss = some u) ∨ ∃ D : Addr, due = .ref D ∧ D ≠ p ∧ D ≠ L ∧ H D = some (.lst [.str (Str.ofString "none"), .int (badR t ss : Nat)]) ∧ doLR t ss = none
theorem DueI.same {H H' : Hp} {p L : Addr} {t u : List Nat} {ss : List StepD} {due : V} (h : DueI H p L t u ss due) (s : Same H H') : DueI H' p L t u ss due := by
  rcases h with h | ⟨D, a, b, c, d, e⟩
  · exact .inl h
  · exact .inr ⟨D, a, b, c, s _ _ d, e⟩
/-- where the turns stand -/
structure StI (H : Hp) (p L : Addr) (t u : List Nat) (i : Nat) (due : V) (ts : List Addr) (ss : List StepD) : Prop where
  pool : Pool H p
  lp : L ≠ p
  gL : H L = some (.lst (ts.map V.ref))
  tl : TL H StepD.vals ts ss
  ok : ∀ s ∈ ss, s.ok ∧ s.small
  len : ss.length = i
  row : Row u
  z : u.length ≤ 16 + 40 * i
  due : DueI H p L t u ss due
theorem StI.same {H H' : Hp} {p L : Addr} {t u : List Nat} {i : Nat} {due : V} {ts : List Addr} {ss : List StepD} (h : StI H p L t u i due ts ss) (s : Same H H') : StI H' p L t u i due ts ss := ⟨h.pool.same s, h.lp, s _ _ h.gL, h.tl.mono s, h.ok, h.len, h.row, h.z, h.due.same s⟩
/-! ### steps change no walk -/
theorem idle_gone {x m : List Nat} (rx : Row x) (rm : Row m) (h : RowM.plain x = []) (p : List Nat) : p ∈ gone (x ++ m) ↔ p ∈ gone x ∨ p ∈ gone m := by
  rw [gone_app rx rm]
  refine or_congr Iff.rfl ⟨?_, fun hp => ⟨p, hp, ?_⟩⟩
  · rintro ⟨q, hq, rfl⟩
    rw [← plain_app_l rx, h, List.nil_append, WalkM.plain_prow ((WalkM.tree_gone rm).pr q hq)]
    exact hq
  · rw [← plain_app_l rx, h, List.nil_append, WalkM.plain_prow ((WalkM.tree_gone rm).pr p hp)]
theorem idle_plain {x m : List Nat} (rx : Row x) (h : RowM.plain x = []) : RowM.plain (x ++ m) = RowM.plain m := by
  rw [← plain_app_l rx, h, List.nil_append]
theorem look_gone {l : List Nat} (rl : Row l) (p : List Nat) : p ∈ gone (l ++ RowM.turn l) ↔ p ∈ gone l := by
  rw [gone_app rl (RowM.turn_row rl)]
  constructor
  · rintro (h | ⟨q, hq, rfl⟩)
    · exact h
    · obtain ⟨r, hr, rfl⟩ := (turn_gone rl q).mp hq
      have rp := RowM.plain_row rl
      have rr := rows_gone rl r hr
      rw [plain_app_r rl (row_app (RowM.turn_row rp) rr), ← plain_app_l rl, ← List.append_assoc, ← plain_app_l (row_app rp (RowM.turn_row rp)), RowM.plain_there_back rp, List.nil_append, WalkM.plain_prow ((WalkM.tree_gone rl).pr r hr)]
      exact hr
  · exact .inl
theorem same_there {l : List Nat} (rl : Row l) : sameR (l ++ RowM.turn l ++ l) l = true := by
  have rt := row_app rl (RowM.turn_row rl)
  have h := RowM.plain_there_back rl
  refine (sameR_iff (row_app rt rl) rl).mpr ⟨idle_plain rt h, fun p => ?_⟩
  rw [idle_gone rt rl h, look_gone rl, or_self]
theorem same_swap {x y : List Nat} (rx : Row x) (ry : Row y) (hx : RowM.plain x = []) (hy : RowM.plain y = []) : sameR (x ++ y) (y ++ x) = true := by
  refine (sameR_iff (row_app rx ry) (row_app ry rx)).mpr ⟨by rw [idle_plain rx hx, idle_plain ry hy, hx, hy], fun p => ?_⟩
  rw [idle_gone rx ry hx, idle_gone ry rx hy, or_comm]
theorem same_twice {x : List Nat} (rx : Row x) (hx : RowM.plain x = []) : sameR (x ++ x) x = true := by
  refine (sameR_iff (row_app rx rx) rx).mpr ⟨idle_plain rx hx, fun p => ?_⟩
  rw [idle_gone rx rx hx, or_self]
def StepD.undo : StepD → StepD
  | .less a m => .more a m
  | .more a m => .less a m
  | .past a m k => .past a k m
theorem StepD.undo_ok {s : StepD} (h : s.ok ∧ s.small) : s.undo.ok ∧ s.undo.small := by
  cases s with
  | less a m => exact h
  | more a m => exact h
  | past a m k => exact ⟨⟨h.1.2, h.1.1⟩, ⟨h.2.2, h.2.1⟩⟩
theorem part_at (x p z : List Nat) : partR (x ++ (p ++ z)) x.length p.length = some p := by
  unfold partR
  rw [List.drop_left, List.take_left, if_pos rfl]
theorem drop_two (x p z : List Nat) : (x ++ (p ++ z)).drop (x.length + p.length) = z := by
  rw [← List.append_assoc, ← List.length_append, List.drop_left]
theorem take_two (x p z : List Nat) : (x ++ (p ++ z)).take (x.length + p.length) = x ++ p := by
  rw [← List.append_assoc, ← List.length_append, List.take_left]
theorem less_at (x p y : List Nat) : lessR (x ++ (p ++ (RowM.turn p ++ (p ++ y)))) x.length p.length = some (x ++ (p ++ y)) := by
  unfold lessR
  rw [part_at]
  have e : 2 * p.length = (RowM.turn p ++ p).length := by rw [List.length_append, RowM.turn_length]; omega
  have e3 : x.length + 3 * p.length = (x ++ (p ++ (RowM.turn p ++ p))).length := by simp only [List.length_append, RowM.turn_length]; omega
  have h : x ++ (p ++ (RowM.turn p ++ (p ++ y))) = (x ++ (p ++ (RowM.turn p ++ p))) ++ y := by simp only [List.append_assoc]
  show (if _ then some _ else none) = _
  rw [drop_two, take_two, e3]
  conv => lhs; rw [h, List.drop_left]
  rw [e, ← List.append_assoc, List.take_left, if_pos rfl, List.append_assoc]
theorem more_at (x p y : List Nat) : moreR (x ++ (p ++ y)) x.length p.length = some (x ++ (p ++ (RowM.turn p ++ (p ++ y)))) := by
  unfold moreR
  rw [part_at]
  show some _ = some _
  rw [drop_two, take_two]
  simp only [List.append_assoc]
theorem past_at (x p q y : List Nat) : pastR (x ++ (p ++ (RowM.turn p ++ (q ++ (RowM.turn q ++ y))))) x.length p.length q.length = some (x ++ (q ++ (RowM.turn q ++ (p ++ (RowM.turn p ++ y))))) := by
  unfold pastR
  rw [part_at]
  have h2 : partR (x ++ (p ++ (RowM.turn p ++ (q ++ (RowM.turn q ++ y))))) (x.length + 2 * p.length) q.length = some q := by
    have e : x.length + 2 * p.length = (x ++ (p ++ RowM.turn p)).length := by simp only [List.length_append, RowM.turn_length]; omega
    have h : x ++ (p ++ (RowM.turn p ++ (q ++ (RowM.turn q ++ y)))) = (x ++ (p ++ RowM.turn p)) ++ (q ++ (RowM.turn q ++ y)) := by simp only [List.append_assoc]
    rw [e, h, part_at]
  show ((partR _ (x.length + 2 * p.length) q.length).bind _) = _
  rw [h2]
  show (if _ then some _ else none) = _
  have e : 2 * p.length + 2 * q.length = (p ++ (RowM.turn p ++ (q ++ RowM.turn q))).length := by simp only [List.length_append, RowM.turn_length]; omega
  have h : p ++ (RowM.turn p ++ (q ++ (RowM.turn q ++ y))) = (p ++ (RowM.turn p ++ (q ++ RowM.turn q))) ++ y := by simp only [List.append_assoc]
  have h4 : (x ++ (p ++ (RowM.turn p ++ (q ++ (RowM.turn q ++ y))))).drop (x.length + 2 * p.length + 2 * q.length) = y := by
    rw [Nat.add_assoc, e, h, show x ++ ((p ++ (RowM.turn p ++ (q ++ RowM.turn q))) ++ y) = (x ++ (p ++ (RowM.turn p ++ (q ++ RowM.turn q)))) ++ y from (List.append_assoc ..).symm, ← List.length_append, List.drop_left]
  rw [h4, List.drop_left, List.take_left, e, h, List.take_left, if_pos (by simp only [List.append_assoc])]
  simp only [List.append_assoc]
theorem cut_two (t : List Nat) (a m : Nat) : t = t.take a ++ ((t.drop a).take m ++ t.drop (a + m)) := by
  rw [← List.drop_drop, List.take_append_drop, List.take_append_drop]
theorem less_inv {t u : List Nat} {a m : Nat} (hm : 1 ≤ m) (h : lessR t a m = some u) : ∃ x p y, x.length = a ∧ p.length = m ∧ t = x ++ (p ++ (RowM.turn p ++ (p ++ y))) ∧ u = x ++ (p ++ y) := by
  obtain ⟨p, hp, h⟩ := Option.bind_eq_some_iff.mp h
  have z := part_room hp hm
  obtain ⟨zp, ep⟩ := partR_some hp
  split at h
  · rename_i c
    injection h with h
    have e1 := cut_two t a m
    rw [← ep] at e1
    have e2 := cut_two (t.drop (a + m)) 0 (2 * m)
    rw [List.take_zero, List.nil_append, List.drop_zero, List.drop_drop, c, show a + m + (0 + 2 * m) = a + 3 * m by omega] at e2
    refine ⟨t.take a, p, t.drop (a + 3 * m), by rw [List.length_take]; omega, zp, ?_, ?_⟩
    · rw [e2, List.append_assoc] at e1
      exact e1
    · rw [← h, ← List.append_assoc]
      congr 1
      rw [List.take_add, ep]
  · cases h
theorem more_inv {t u : List Nat} {a m : Nat} (hm : 1 ≤ m) (h : moreR t a m = some u) : ∃ x p y, x.length = a ∧ p.length = m ∧ t = x ++ (p ++ y) ∧ u = x ++ (p ++ (RowM.turn p ++ (p ++ y))) := by
  obtain ⟨p, hp, h⟩ := Option.bind_eq_some_iff.mp h
  have z := part_room hp hm
  obtain ⟨zp, ep⟩ := partR_some hp
  injection h with h
  have e1 := cut_two t a m
  rw [← ep] at e1
  refine ⟨t.take a, p, t.drop (a + m), by rw [List.length_take]; omega, zp, e1, ?_⟩
  rw [← h, List.take_add, ← ep]
  simp only [List.append_assoc]
theorem past_inv {t u : List Nat} {a m k : Nat} (hm : 1 ≤ m) (hk : 1 ≤ k) (h : pastR t a m k = some u) : ∃ x p q y, x.length = a ∧ p.length = m ∧ q.length = k ∧ t = x ++ (p ++ (RowM.turn p ++ (q ++ (RowM.turn q ++ y)))) ∧ u = x ++ (q ++ (RowM.turn q ++ (p ++ (RowM.turn p ++ y)))) := by
  obtain ⟨p, hp, h⟩ := Option.bind_eq_some_iff.mp h
  obtain ⟨q, hq, h⟩ := Option.bind_eq_some_iff.mp h
  have z := part_room hp hm
  obtain ⟨zp, ep⟩ := partR_some hp
  obtain ⟨zq, eq⟩ := partR_some hq
  split at h
  · rename_i c
    injection h with h
    have e1 := cut_two t a (2 * m + 2 * k)
    rw [c] at e1
    refine ⟨t.take a, p, q, t.drop (a + 2 * m + 2 * k), by rw [List.length_take]; omega, zp, zq, ?_, ?_⟩
    · rw [← Nat.add_assoc] at e1
      simp only [List.append_assoc] at e1
      exact e1
    · rw [← h]
      simp only [List.append_assoc]
  · cases h
theorem step_undo {t u : List Nat} {s : StepD} (ok : s.ok) (h : doR t s = some u) : doR u s.undo = some t := by
  cases s with
  | less a m =>
    obtain ⟨x, p, y, rfl, rfl, rfl, rfl⟩ := less_inv ok.1 h
    exact more_at x p y
  | more a m =>
    obtain ⟨x, p, y, rfl, rfl, rfl, rfl⟩ := more_inv ok.1 h
    exact less_at x p y
  | past a m k =>
    obtain ⟨x, p, q, y, rfl, rfl, rfl, rfl, rfl⟩ := past_inv ok.1.1 ok.2.1 h
    exact past_at x q p y
theorem row_split {l m : List Nat} (h : Row (l ++ m)) : Row l ∧ Row m := ⟨fun c hc => h c (List.mem_append_left _ hc), fun c hc => h c (List.mem_append_right _ hc)⟩
theorem same_amid {x y l m : List Nat} (rx : Row x) (ry : Row y) (rl : Row l) (rm : Row m) (h : sameR l m = true) : sameR (x ++ (l ++ y)) (x ++ (m ++ y)) = true :=
  sameR_ahead rx (row_app rl ry) (row_app rm ry) (sameR_behind ry rl rm h)
theorem step_same {t u : List Nat} {s : StepD} (rt : Row t) (ok : s.ok) (h : doR t s = some u) : sameR t u = true := by
  have loop : ∀ x p y : List Nat, Row (x ++ (p ++ y)) → sameR (x ++ (p ++ (RowM.turn p ++ (p ++ y)))) (x ++ (p ++ y)) = true := fun x p y r => by
    obtain ⟨rx, r⟩ := row_split r
    obtain ⟨rp, ry⟩ := row_split r
    have h := same_amid rx ry (row_app (row_app rp (RowM.turn_row rp)) rp) rp (same_there rp)
    simp only [List.append_assoc] at h
    exact h
  cases s with
  | less a m =>
    obtain ⟨x, p, y, rfl, rfl, rfl, rfl⟩ := less_inv ok.1 h
    refine loop x p y ?_
    obtain ⟨rx, r⟩ := row_split rt
    obtain ⟨_, r⟩ := row_split r
    obtain ⟨_, r⟩ := row_split r
    exact row_app rx r
  | more a m =>
    obtain ⟨x, p, y, rfl, rfl, rfl, rfl⟩ := more_inv ok.1 h
    rw [sameR_comm]
    exact loop x p y rt
  | past a m k =>
    obtain ⟨x, p, q, y, rfl, rfl, rfl, rfl, rfl⟩ := past_inv ok.1.1 ok.2.1 h
    obtain ⟨rx, r⟩ := row_split rt
    obtain ⟨rp, r⟩ := row_split r
    obtain ⟨_, r⟩ := row_split r
    obtain ⟨rq, r⟩ := row_split r
    obtain ⟨_, ry⟩ := row_split r
    have h1 := row_app rp (RowM.turn_row rp)
    have h2 := row_app rq (RowM.turn_row rq)
    have h := same_amid rx ry (row_app h1 h2) (row_app h2 h1) (same_swap h1 h2 (RowM.plain_there_back rp) (RowM.plain_there_back rq))
    simp only [List.append_assoc] at h
    exact h
theorem same_srt {l m : List Nat} (h : sameR l m = true) : srt (gone l) = srt (gone m) ∧ RowM.plain l = RowM.plain m := by
  unfold sameR at h
  rw [Bool.and_eq_true, decide_eq_true_eq, decide_eq_true_eq] at h
  exact h
theorem WAt.offp {C : Addr} {H H' : Hp} {a dw p : Addr} {n : Nat} {kvs : Kvs} (h : WAt C H a dw n kvs) (o : Off p H H') (na : a ≠ p) (nd : dw ≠ p) : WAt C H' a dw n kvs := ⟨let ⟨dx, e⟩ := h.1; ⟨dx, o _ _ na e⟩, o _ _ nd h.2⟩
theorem WAt.updL {C : Addr} {H : Hp} {a dw D : Addr} {n : Nat} {kvs : Kvs} {xs : List V} {o : HO} (h : WAt C H a dw n kvs) (hD : H D = some (.lst xs)) : WAt C (upd H D o) a dw n kvs :=
  ⟨let ⟨dx, e⟩ := h.1; ⟨dx, (upd_ne (fun z => by rw [z, hD] at e; cases e)).trans e⟩, (upd_ne (fun z => by have := h.2; rw [z, hD] at this; cases this)).trans h.2⟩
/-- worlds that stand away from a pool -/
def WsL (C : Addr) (H : Hp) (p : Addr) (ws : List Addr) : Prop := ∀ w ∈ ws, ∃ (dw : Addr) (n : Nat) (kvs : Kvs), WAt C H w dw n kvs ∧ Ways kvs n ∧ n ≤ 7 ∧ w ≠ p ∧ dw ≠ p
theorem WsL.same {C : Addr} {H H' : Hp} {p : Addr} {ws : List Addr} (h : WsL C H p ws) (s : Same H H') : WsL C H' p ws := fun w hw => let ⟨dw, n, kvs, a, b⟩ := h w hw; ⟨dw, n, kvs, a.same s, b⟩
theorem WsL.off {C : Addr} {H H' : Hp} {p : Addr} {ws : List Addr} (h : WsL C H p ws) (o : Off p H H') : WsL C H' p ws := fun w hw => let ⟨dw, n, kvs, a, b, c, d, e⟩ := h w hw; ⟨dw, n, kvs, a.offp o d e, b, c, d, e⟩
theorem WsL.snoc {C : Addr} {H : Hp} {p D w dw : Addr} {n : Nat} {kvs : Kvs} {ws : List Addr} {xs : List V} {o : HO} (h : WsL C H p ws) (hD : H D = some (.lst xs)) (hw : WAt C H w dw n kvs) (hk : Ways kvs n) (hn : n ≤ 7) (np : w ≠ p) (ndp : dw ≠ p) : WsL C (upd H D o) p (ws ++ [w]) := fun v hv => by
  rcases List.mem_append.mp hv with hv | hv
  · obtain ⟨dv, m, ks, a, b⟩ := h v hv
    exact ⟨dv, m, ks, a.updL hD, b⟩
  · rw [List.mem_singleton.mp hv]
    exact ⟨dw, n, kvs, hw.updL hD, hk, hn, np, ndp⟩
/-- where the turns stand -/
structure TuI (C : Addr) (H : Hp) (p q D : Addr) (l u : List Nat) (ws : List Addr) : Prop where
  pool : Pool H p
  qp : q ≠ p
  dp : D ≠ p
  gq : H q = some (.lst ((srt (gone l)).map sT))
  gD : H D = some (.lst (ws.map V.ref))
  wl : WsL C H p ws
  row : Row u
  z : u.length ≤ 90
  alike : sameR l u = true
theorem TuI.same {C : Addr} {H H' : Hp} {p q D : Addr} {l u : List Nat} {ws : List Addr} (h : TuI C H p q D l u ws) (s : Same H H') : TuI C H' p q D l u ws := ⟨h.pool.same s, h.qp, h.dp, s _ _ h.gq, s _ _ h.gD, h.wl.same s, h.row, h.z, h.alike⟩
theorem TuI.off {C : Addr} {H H' : Hp} {p q D : Addr} {l u : List Nat} {ws : List Addr} (h : TuI C H p q D l u ws) (o : Off p H H') (p' : Pool H' p) : TuI C H' p q D l u ws := ⟨p', h.qp, h.dp, o _ _ h.qp h.gq, o _ _ h.dp h.gD, h.wl.off o, h.row, h.z, h.alike⟩
/-! ### steps of any kind -/
/-- the words that may stand in a bent step -/
def wordsS : List Str := [Str.ofString "less", Str.ofString "more", Str.ofString "past", Str.ofString "Less", Str.ofString "lesser", Str.ofString "", Str.ofString "pass", Str.ofString "1"]
theorem words_ok : ∀ s ∈ wordsS, PyData.strOk s = true := by decide +kernel
def Cell (H : Hp) (v : V) : Prop := (∃ i : Int, v = .int i) ∨ (∃ b, v = .bl b) ∨ v = .non ∨ (∃ s ∈ wordsS, v = .str s) ∨ (∃ q, v = .ref q ∧ (H q = some (.tup [.int 1]) ∨ H q = some (.lst [.str (Str.ofString "less")])))
theorem Cell.same {H H' : Hp} {v : V} (h : Cell H v) (s : Same H H') : Cell H' v := by
  rcases h with h | h | h | h | ⟨q, e, h | h⟩
  · exact .inl h
  · exact .inr (.inl h)
  · exact .inr (.inr (.inl h))
  · exact .inr (.inr (.inr (.inl h)))
  · exact .inr (.inr (.inr (.inr ⟨q, e, .inl (s _ _ h)⟩)))
  · exact .inr (.inr (.inr (.inr ⟨q, e, .inr (s _ _ h)⟩)))
def isI : V → Bool
  | .int _ => true
  | _ => false
def isS : V → Bool
  | .str _ => true
  | _ => false
theorem Cell.whole {H : Hp} {v : V} (h : Cell H v) : IntW H v (isI v) := by
  rcases h with ⟨i, rfl⟩ | ⟨b, rfl⟩ | rfl | ⟨s, _, rfl⟩ | ⟨q, rfl, h | h⟩
  · exact .inl ⟨i, rfl, rfl⟩
  · exact .inr ⟨.inr (.inl ⟨b, rfl⟩), rfl⟩
  · exact .inr ⟨.inl rfl, rfl⟩
  · exact .inr ⟨.inr (.inr (.inl ⟨s, rfl⟩)), rfl⟩
  · exact .inr ⟨.inr (.inr (.inr ⟨q, rfl, .inr (.inl ⟨_, h⟩)⟩)), rfl⟩
  · exact .inr ⟨.inr (.inr (.inr ⟨q, rfl, .inl ⟨_, h⟩⟩)), rfl⟩
theorem Cell.ty {K : PySem.W.Frag} {H : Hp} {v : V} (h : Cell H v) : ∃ t : String, TyX K H v (.type t) ∧ kitB t "str" = some (isS v) := by
  rcases h with ⟨i, rfl⟩ | ⟨b, rfl⟩ | rfl | ⟨s, _, rfl⟩ | ⟨q, rfl, h | h⟩
  · exact ⟨_, .base (.int _), by show kitB "int" "str" = some false; decide +kernel⟩
  · exact ⟨_, .base (.bl _), by show kitB "bool" "str" = some false; decide +kernel⟩
  · exact ⟨_, .base .non, by decide +kernel⟩
  · exact ⟨_, .base (.str _), by show kitB "str" "str" = some true; decide +kernel⟩
  · exact ⟨_, .base (.tup h), by show kitB "tuple" "str" = some false; decide +kernel⟩
  · exact ⟨_, .base (.lst h), by show kitB "list" "str" = some false; decide +kernel⟩
theorem Cell.dp {K : PySem.W.Frag} {H : Hp} {v : V} (h : Cell H v) : ∃ d, Dp K H v d ∧ d.canLay0 = true ∧ d.depth ≤ 1 ∧ (∀ w : Str, PyData.eqv (.str w) d = decide (v = .str w)) := by
  rcases h with ⟨i, rfl⟩ | ⟨b, rfl⟩ | rfl | ⟨s, hs, rfl⟩ | ⟨q, rfl, h | h⟩
  · exact ⟨_, .int i, rfl, by simp [PyData.depth], fun w => by simp [PyData.eqv]⟩
  · exact ⟨_, .bl b, rfl, by simp [PyData.depth], fun w => by simp [PyData.eqv]⟩
  · exact ⟨_, .non, rfl, by simp [PyData.depth], fun w => by simp [PyData.eqv]⟩
  · exact ⟨_, .str s, words_ok s hs, by simp [PyData.depth], fun w => by rw [PyData.eqv, Bool.eq_iff_iff, beq_iff_eq, decide_eq_true_eq]; exact ⟨fun e => by rw [e], fun e => by injection e with e; exact e.symm⟩⟩
  · exact ⟨_, .tup (SqT.of h) (.cons (.int 1) .nil), rfl, by simp [PyData.depth, PyData.depthAll], fun w => by simp [PyData.eqv]⟩
  · exact ⟨_, .lst (SqL.of h) (.cons (.str _) .nil), by simp [PyData.canLay0, PyData.canLayAll0, ok_less], by simp [PyData.depth, PyData.depthAll], fun w => by simp [PyData.eqv]⟩
theorem cells_dp {K : PySem.W.Frag} {H : Hp} : ∀ {vs : List V}, (∀ v ∈ vs, Cell H v) → ∃ ds, DpAll K H vs ds ∧ PyData.canLayAll0 ds = true ∧ PyData.depthAll ds ≤ 1
  | [], _ => ⟨[], .nil, rfl, by simp [PyData.depthAll]⟩
  | v :: r, h => by
    obtain ⟨d, d1, d2, d3, _⟩ := (h v List.mem_cons_self).dp (K := K)
    obtain ⟨ds, e1, e2, e3⟩ := cells_dp (K := K) (vs := r) fun u hu => h u (List.mem_cons_of_mem _ hu)
    exact ⟨d :: ds, .cons d1 e1, by simp [PyData.canLayAll0, d2, e2], by simp only [PyData.depthAll]; omega⟩
theorem shaped_cells {ds : List PyData} (h1 : PyData.canLayAll0 ds = true) (h2 : PyData.depthAll ds ≤ 1) : SeqAt.shaped (.tuple ds) = true := by
  simp only [SeqAt.shaped, PyData.canLay0, h1, PyData.depth, Bool.true_and]
  exact decide_eq_true (by omega)
/-- the step that a tuple is, if it is one -/
def formR : List V → Option StepD
  | [.str w, .int a, .int m] => if 0 ≤ a ∧ 1 ≤ m then (if w = Str.ofString "less" then some (.less a.toNat m.toNat) else if w = Str.ofString "more" then some (.more a.toNat m.toNat) else none) else none
  | [.str w, .int a, .int m, .int k] => if w = Str.ofString "past" ∧ 0 ≤ a ∧ 1 ≤ m ∧ 1 ≤ k then some (.past a.toNat m.toNat k.toNat) else none
  | _ => none
def NotTup (H : Hp) (x : V) : Prop := x = .non ∨ (∃ i, x = .int i) ∨ (∃ b, x = .bl b) ∨ (∃ s, x = .str s) ∨ ∃ a, x = .ref a ∧ ((∃ xs, H a = some (.lst xs)) ∨ ∃ kvs, H a = some (.dK kvs))
theorem NotTup.same {H H' : Hp} {x : V} (h : NotTup H x) (s : Same H H') : NotTup H' x := by
  rcases h with h | h | h | h | ⟨a, e, ⟨xs, h⟩ | ⟨xs, h⟩⟩
  · exact .inl h
  · exact .inr (.inl h)
  · exact .inr (.inr (.inl h))
  · exact .inr (.inr (.inr (.inl h)))
  · exact .inr (.inr (.inr (.inr ⟨a, e, .inl ⟨xs, s _ _ h⟩⟩)))
  · exact .inr (.inr (.inr (.inr ⟨a, e, .inr ⟨xs, s _ _ h⟩⟩)))
theorem NotTup.ty {K : PySem.W.Frag} {H : Hp} {x : V} (h : NotTup H x) : ∃ t : String, TyX K H x (.type t) ∧ kitB t "tuple" = some false := by
  rcases h with rfl | ⟨i, rfl⟩ | ⟨b, rfl⟩ | ⟨s, rfl⟩ | ⟨a, rfl, ⟨xs, h⟩ | ⟨xs, h⟩⟩
  · exact ⟨_, .base .non, by decide +kernel⟩
  · exact ⟨_, .base (.int _), by decide +kernel⟩
  · exact ⟨_, .base (.bl _), by decide +kernel⟩
  · exact ⟨_, .base (.str _), by decide +kernel⟩
  · exact ⟨_, .base (.lst h), by decide +kernel⟩
  · exact ⟨_, .base (.dK h), by decide +kernel⟩
/-- a thing that may be a step -/
def Thg (H : Hp) (x : V) (o : Option StepD) : Prop := (∃ (p : Addr) (vs : List V), x = .ref p ∧ H p = some (.tup vs) ∧ (∀ v ∈ vs, Cell H v) ∧ vs.length ≤ 8 ∧ o = formR vs) ∨ (NotTup H x ∧ o = none)
theorem Thg.same {H H' : Hp} {x : V} {o : Option StepD} (h : Thg H x o) (s : Same H H') : Thg H' x o := by
  rcases h with ⟨p, vs, e, g, c, z, r⟩ | ⟨h, e⟩
  · exact .inl ⟨p, vs, e, s _ _ g, fun v hv => (c v hv).same s, z, r⟩
  · exact .inr ⟨h.same s, e⟩
def doX (t : List Nat) (o : Option StepD) : Option (List Nat) := o.bind fun st => (doR t st).bind fun u => if u.length ≤ 4000 then some u else none
theorem form_nil : formR [] = none := rfl
theorem form_head {v : V} {r : List V} (h : isS v = false) : formR (v :: r) = none := by
  unfold formR
  split
  · rename_i e; injection e with e _; subst e; cases h
  · rename_i e; injection e with e _; subst e; cases h
  · rfl
theorem form_word {w : Str} {r : List V} (h : w ≠ Str.ofString "less" ∧ w ≠ Str.ofString "more" ∧ w ≠ Str.ofString "past") : formR (.str w :: r) = none := by
  unfold formR
  split
  · rename_i e
    injection e with e _
    injection e with e
    subst e
    rw [if_neg h.1, if_neg h.2.1, ite_self]
  · rename_i e
    injection e with e _
    injection e with e
    subst e
    rw [if_neg fun z => h.2.2 z.1]
  · rfl
theorem form_int {v : V} {r : List V} (h : (r.all isI) = false) : formR (v :: r) = none := by
  unfold formR
  split
  · rename_i e
    injection e with _ e
    subst e
    cases h
  · rename_i e
    injection e with _ e
    subst e
    cases h
  · rfl
theorem form_two {w : Str} {r : List V} (h : r.length ≠ 2) (hw : w ≠ Str.ofString "past") : formR (.str w :: r) = none := by
  unfold formR
  split
  · rename_i e
    injection e with _ e
    subst e
    exact absurd rfl h
  · rename_i e
    injection e with e _
    injection e with e
    subst e
    rw [if_neg fun z => hw z.1]
  · rfl
theorem form_three {r : List V} (h : r.length ≠ 3) : formR (.str (Str.ofString "past") :: r) = none := by
  have e1 : Str.ofString "past" ≠ Str.ofString "less" := by decide
  have e2 : Str.ofString "past" ≠ Str.ofString "more" := by decide
  unfold formR
  split
  · rename_i e
    injection e with e _
    injection e with e
    subst e
    rw [if_neg e1, if_neg e2, ite_self]
  · rename_i e
    injection e with _ e
    subst e
    exact absurd rfl h
  · rfl
theorem form_vals {H : Hp} {vs : List V} {st : StepD} (_hc : ∀ v ∈ vs, Cell H v) (h : formR vs = some st) : vs = st.vals ∧ st.ok := by
  unfold formR at h
  split at h
  · rename_i w a m
    split at h
    · rename_i c
      have ea : (a.toNat : Int) = a := Int.toNat_of_nonneg c.1
      have em : (m.toNat : Int) = m := Int.toNat_of_nonneg (by omega)
      split at h
      · rename_i hw
        injection h with h
        subst h hw
        exact ⟨by show _ = [V.str _, V.int (a.toNat : Int), V.int (m.toNat : Int)]; rw [ea, em], (by show 1 ≤ m.toNat ∧ 0 ≤ m.toNat; omega)⟩
      · split at h
        · rename_i hw
          injection h with h
          subst h hw
          exact ⟨by show _ = [V.str _, V.int (a.toNat : Int), V.int (m.toNat : Int)]; rw [ea, em], (by show 1 ≤ m.toNat ∧ 0 ≤ m.toNat; omega)⟩
        · cases h
    · cases h
  · rename_i w a m k
    split at h
    · rename_i c
      obtain ⟨hw, c1, c2, c3⟩ := c
      have ea : (a.toNat : Int) = a := Int.toNat_of_nonneg c1
      have em : (m.toNat : Int) = m := Int.toNat_of_nonneg (by omega)
      have ek : (k.toNat : Int) = k := Int.toNat_of_nonneg (by omega)
      injection h with h
      subst h hw
      exact ⟨by show _ = [V.str _, V.int (a.toNat : Int), V.int (m.toNat : Int), V.int (k.toNat : Int)]; rw [ea, em, ek], (by show (1 ≤ m.toNat ∧ 0 ≤ m.toNat) ∧ 1 ≤ k.toNat ∧ 0 ≤ k.toNat; omega)⟩
    · cases h
  · cases h
theorem form_step {st : StepD} (ok : st.ok) : formR st.vals = some st := by
  cases st with
  | less a m =>
    have := ok.1
    show (if _ then _ else _) = _
    rw [if_pos ⟨by omega, by omega⟩, if_pos rfl]
    rfl
  | more a m =>
    have := ok.1
    show (if _ then _ else _) = _
    rw [if_pos ⟨by omega, by omega⟩, if_neg (by decide), if_pos rfl]
    rfl
  | past a m k =>
    have := ok.1.1
    have := ok.2.1
    show (if _ then _ else _) = _
    rw [if_pos ⟨rfl, by omega, by omega, by omega⟩]
    rfl
theorem ints_of {r : List V} (h : r.all isI = true) : ∃ ns : List Int, r = ns.map V.int := by
  induction r with
  | nil => exact ⟨[], rfl⟩
  | cons v r ih =>
    rw [List.all_cons, Bool.and_eq_true] at h
    obtain ⟨ns, e⟩ := ih h.2
    cases v with
    | int i => exact ⟨i :: ns, by rw [e]; rfl⟩
    | _ => cases h.1
/-- not the pool itself -/
def AwayV (p : Addr) (x : V) : Prop := x ≠ .ref p
theorem cut_tail (v : V) (r : List V) : cutV (v :: r) (some 1) none = r := by
  have e : HT.sIx (v :: r).length 0 (some 1) = 1 := by
    have := HT.sIx_nat (v :: r).length 0 1
    rw [show ((1 : Nat) : Int) = 1 from rfl] at this
    rw [this, List.length_cons]
    omega
  unfold cutV
  rw [e, HT.sIx_none, List.drop_one, List.tail_cons, List.length_cons, Nat.add_sub_cancel, List.take_length]
theorem not_whole1 (v : V) (r : List V) (hi : Option Int) : ¬ (HT.sIx (v :: r).length 0 (some 1) = 0 ∧ HT.sIx (v :: r).length (v :: r).length hi = (v :: r).length) := fun h => by
  have := HT.sIx_nat (v :: r).length 0 1
  rw [show ((1 : Nat) : Int) = 1 from rfl, h.1, List.length_cons] at this
  omega
theorem form_2 {w : Str} {a m : Int} (hw : w = Str.ofString "less" ∨ w = Str.ofString "more") : (formR [.str w, .int a, .int m]).isSome = (decide (0 ≤ a) && decide (1 ≤ m)) := by
  show (if _ then _ else _ : Option StepD).isSome = _
  by_cases h : 0 ≤ a ∧ 1 ≤ m
  · rw [if_pos h, decide_eq_true h.1, decide_eq_true h.2]
    rcases hw with rfl | rfl
    · rw [if_pos rfl]
      rfl
    · rw [if_neg (by decide), if_pos rfl]
      rfl
  · rw [if_neg h]
    by_cases h1 : 0 ≤ a
    · rw [decide_eq_true h1, decide_eq_false fun z => h ⟨h1, z⟩]
      rfl
    · rw [decide_eq_false h1]
      rfl
theorem form_3 {a m k : Int} : (formR [.str (Str.ofString "past"), .int a, .int m, .int k]).isSome = (decide (0 ≤ a) && (decide (1 ≤ m) && decide (1 ≤ k))) := by
  show (if _ then _ else _ : Option StepD).isSome = _
  by_cases h : 0 ≤ a ∧ 1 ≤ m ∧ 1 ≤ k
  · rw [if_pos ⟨rfl, h⟩, decide_eq_true h.1, decide_eq_true h.2.1, decide_eq_true h.2.2]
    rfl
  · rw [if_neg fun z => h z.2]
    by_cases h1 : 0 ≤ a
    · by_cases h2 : 1 ≤ m
      · rw [decide_eq_true h1, decide_eq_true h2, decide_eq_false fun z => h ⟨h1, h2, z⟩]
        rfl
      · rw [decide_eq_true h1, decide_eq_false h2]
        rfl
    · rw [decide_eq_false h1]
      rfl
theorem len2 {ns : List Int} (h : ns.length = 2) : ∃ a m, ns = [a, m] := by
  match ns, h with
  | [a, m], _ => exact ⟨a, m, rfl⟩
theorem len3 {ns : List Int} (h : ns.length = 3) : ∃ a m k, ns = [a, m, k] := by
  match ns, h with
  | [a, m, k], _ => exact ⟨a, m, k, rfl⟩
theorem dec_and2 {mm m k : Int} (h1 : mm ∈ [m, k]) (h2 : ∀ y ∈ [m, k], mm ≤ y) : decide ((1 : Int) ≤ mm) = (decide (1 ≤ m) && decide (1 ≤ k)) := by
  have a := h2 m (by simp)
  have b := h2 k (by simp)
  have c : mm = m ∨ mm = k := by simpa using h1
  rw [Bool.eq_iff_iff, Bool.and_eq_true, decide_eq_true_eq, decide_eq_true_eq, decide_eq_true_eq]
  omega
theorem Cell.ty2 {K : PySem.W.Frag} {H : Hp} {v : V} (h : Cell H v) : ∃ (t : String) (b c : Bool), TyX K H v (.type t) ∧ kitB t "bool" = some b ∧ kitB t "int" = some c ∧ isI v = (!b && c) := by
  rcases h with ⟨i, rfl⟩ | ⟨b, rfl⟩ | rfl | ⟨s, _, rfl⟩ | ⟨q, rfl, h | h⟩
  · exact ⟨_, false, true, .base (.int _), by decide +kernel, by decide +kernel, rfl⟩
  · exact ⟨_, true, true, .base (.bl _), by decide +kernel, by decide +kernel, rfl⟩
  · exact ⟨_, false, false, .base .non, by decide +kernel, by decide +kernel, rfl⟩
  · exact ⟨_, false, false, .base (.str _), by decide +kernel, by decide +kernel, rfl⟩
  · exact ⟨_, false, false, .base (.tup h), by decide +kernel, by decide +kernel, rfl⟩
  · exact ⟨_, false, false, .base (.lst h), by decide +kernel, by decide +kernel, rfl⟩
theorem dec_last2 (a m : Int) : (decide (0 ≤ a) && (decide (1 ≤ m) && decide ((0 : Int) ≤ m))) = (decide (0 ≤ a) && decide (1 ≤ m)) := by
  congr 1
  rw [Bool.eq_iff_iff, Bool.and_eq_true, decide_eq_true_eq, decide_eq_true_eq]
  omega
theorem doR_len3 {t u : List Nat} {s : StepD} (ok : s.ok) (e : doR t s = some u) : u.length ≤ 3 * t.length := by
  have h := doR_len ok e
  cases s with
  | less a m =>
    dsimp only at h
    omega
  | more a m =>
    dsimp only at h
    obtain ⟨p, hp, _⟩ := Option.bind_eq_some_iff.mp (show (partR t a m).bind _ = some u from e)
    have := part_room hp ok.1
    omega
  | past a m k =>
    dsimp only at h
    omega
theorem doX_none {t : List Nat} {st : StepD} (h : doR t st = none) : doX t (some st) = none := by
  show (doR t st).bind _ = none
  rw [h]
  rfl
theorem doX_some {t u : List Nat} {st : StepD} (h : doR t st = some u) : doX t (some st) = if u.length ≤ 4000 then some u else none := by
  show (doR t st).bind _ = _
  rw [h]
  rfl
def ThgL (H : Hp) : List V → List (Option StepD) → Prop
  | [], [] => True
  | x :: xs, o :: os => Thg H x o ∧ ThgL H xs os
  | _, _ => False
theorem ThgL.same {H H' : Hp} (s : Same H H') : ∀ {xs : List V} {os : List (Option StepD)}, ThgL H xs os → ThgL H' xs os
  | [], [], _ => trivial
  | _ :: _, _ :: _, h => ⟨h.1.same s, ThgL.same s h.2⟩
  | [], _ :: _, h => h.elim
  | _ :: _, [], h => h.elim
theorem ThgL.len {H : Hp} : ∀ {xs : List V} {os : List (Option StepD)}, ThgL H xs os → xs.length = os.length
  | [], [], _ => rfl
  | _ :: _, _ :: _, h => congrArg (· + 1) h.2.len
  | [], _ :: _, h => h.elim
  | _ :: _, [], h => h.elim
theorem ThgL.get {H : Hp} : ∀ {xs : List V} {os : List (Option StepD)} {i : Nat} {x : V}, ThgL H xs os → xs[i]? = some x → ∃ o, os[i]? = some o ∧ Thg H x o
  | _ :: _, o :: _, 0, _, h, e => by
    simp only [List.getElem?_cons_zero, Option.some.injEq] at e
    exact ⟨o, rfl, e ▸ h.1⟩
  | _ :: _, _ :: _, i + 1, _, h, e => by
    simp only [List.getElem?_cons_succ] at e ⊢
    exact h.2.get e
  | [], [], _, _, _, e => by simp at e
  | [], _ :: _, _, _, h, _ => h.elim
  | _ :: _, [], _, _, h, _ => h.elim
/-- what comes of things, one behind the other -/
def doXL : List Nat → List (Option StepD) → Option (List Nat)
  | t, [] => some t
  | t, o :: r => (doX t o).bind fun u => doXL u r
def badX : List Nat → List (Option StepD) → Nat
  | _, [] => 0
  | t, o :: r => match doX t o with
    | none => 0
    | some u => badX u r + 1
theorem doXL_snoc (o : Option StepD) : ∀ (os : List (Option StepD)) (t : List Nat), doXL t (os ++ [o]) = (doXL t os).bind fun u => doX u o
  | [], t => by
    show (doX t o).bind (fun u => some u) = doX t o
    cases doX t o <;> rfl
  | a :: r, t => by
    show (doX t a).bind (fun u => doXL u (r ++ [o])) = ((doX t a).bind fun u => doXL u r).bind fun u => doX u o
    cases doX t a with
    | none => rfl
    | some v => exact doXL_snoc o r v
theorem doXL_bad {o : Option StepD} : ∀ {os : List (Option StepD)} {i : Nat} {t u : List Nat}, doXL t (os.take i) = some u → os[i]? = some o → doX u o = none → doXL t os = none ∧ badX t os = i
  | [], _, _, _, _, h, _ => by simp at h
  | a :: r, 0, t, u, h1, h2, h3 => by
    simp only [List.take_zero, doXL, Option.some.injEq] at h1
    subst h1
    simp only [List.getElem?_cons_zero, Option.some.injEq] at h2
    subst h2
    unfold doXL badX
    rw [h3]
    exact ⟨rfl, rfl⟩
  | a :: r, i + 1, t, u, h1, h2, h3 => by
    rw [List.take_succ_cons] at h1
    simp only [List.getElem?_cons_succ] at h2
    obtain ⟨v, hv, h1⟩ := Option.bind_eq_some_iff.mp (show (doX t a).bind (fun w => doXL w (r.take i)) = some u from h1)
    obtain ⟨g1, g2⟩ := doXL_bad h1 h2 h3
    unfold doXL badX
    rw [hv]
    exact ⟨g1, congrArg (· + 1) g2⟩
theorem doX_row {t u : List Nat} {o : Option StepD} (h : Row t) (e : doX t o = some u) : Row u ∧ u.length ≤ 4000 := by
  cases o with
  | none => cases e
  | some st =>
    cases hv : doR t st with
    | none =>
      rw [doX_none hv] at e
      cases e
    | some v =>
      rw [doX_some hv] at e
      split at e
      · rename_i z
        injection e with e
        subst e
        exact ⟨doR_row h hv, z⟩
      · cases e
theorem longW {H : Hp} {t : List Nat} {r : Bool} (h : IsRowW H (.str (S t)) 4000 r) (rt : Row t) (z : t.length ≤ 4000) : r = true := by
  rcases h with ⟨l, e, _, rfl⟩ | ⟨h, _⟩
  · obtain rfl : t = l := congrArg (fun v => match v with | V.str z => z.cps.toList | _ => []) e
    rw [Bool.and_eq_true, decide_eq_true_eq, List.all_eq_true]
    exact ⟨by omega, fun c hc => decide_eq_true (rt c hc)⟩
  · rcases h with h | ⟨i, h⟩ | ⟨b, h⟩ | ⟨a, h, _⟩ <;> cases h
theorem longW_true {H : Hp} {y : V} (h : IsRowW H y 4000 true) : ∃ t, y = .str (S t) ∧ Row t ∧ t.length ≤ 4000 := by
  rcases h with ⟨l, rfl, _, e⟩ | ⟨_, h⟩
  · have e := e.symm
    rw [Bool.and_eq_true, decide_eq_true_eq, List.all_eq_true] at e
    exact ⟨l, rfl, fun c hc => of_decide_eq_true (e.2 c hc), by omega⟩
  · cases h
theorem isRowW_same {H H' : Hp} {x : V} {m : Int} {r : Bool} (h : IsRowW H x m r) (s : Same H H') : IsRowW H' x m r := h.imp id fun h => ⟨h.1.same s, h.2⟩
theorem doXL_one (t : List Nat) (o : Option StepD) : doXL t [o] = doX t o := by
  show (doX t o).bind (fun u => some u) = doX t o
  cases doX t o <;> rfl
theorem badX_one {t : List Nat} {o : Option StepD} (h : doX t o = none) : badX t [o] = 0 := by
  unfold badX
  rw [h]
theorem sT_of {t l : List Nat} (e : V.str (S t) = V.str (S l)) : t = l := congrArg (fun v => match v with | V.str z => z.cps.toList | _ => []) e
def toldX (t : List Nat) (os : List (Option StepD)) : List V := match doXL t os with
  | some u => [.str (Str.ofString "told"), .str (S u)]
  | none => [.str (Str.ofString "none"), .int (badX t os : Nat)]
theorem toldX_some {t u : List Nat} {os : List (Option StepD)} (h : doXL t os = some u) : toldX t os = [.str (Str.ofString "told"), .str (S u)] := by
  unfold toldX
  rw [h]
theorem toldX_none {t : List Nat} {os : List (Option StepD)} (h : doXL t os = none) : toldX t os = [.str (Str.ofString "none"), .int (badX t os : Nat)] := by
  unfold toldX
  rw [h]
theorem cells_st {H : Hp} (st : StepD) : ∀ v ∈ st.vals, Cell H v := fun v hv => by
  cases st <;> (simp only [StepD.vals, List.mem_cons, List.not_mem_nil, or_false] at hv)
  · rcases hv with rfl | rfl | rfl
    · exact .inr (.inr (.inr (.inl ⟨_, by decide, rfl⟩)))
    · exact .inl ⟨_, rfl⟩
    · exact .inl ⟨_, rfl⟩
  · rcases hv with rfl | rfl | rfl
    · exact .inr (.inr (.inr (.inl ⟨_, by decide, rfl⟩)))
    · exact .inl ⟨_, rfl⟩
    · exact .inl ⟨_, rfl⟩
  · rcases hv with rfl | rfl | rfl | rfl
    · exact .inr (.inr (.inr (.inl ⟨_, by decide, rfl⟩)))
    · exact .inl ⟨_, rfl⟩
    · exact .inl ⟨_, rfl⟩
    · exact .inl ⟨_, rfl⟩
theorem st_len (st : StepD) : 3 ≤ st.vals.length ∧ st.vals.length ≤ 4 := by cases st <;> simp [StepD.vals]
theorem thg_tup {H : Hp} {p : Addr} {vs : List V} (h : H p = some (.tup vs)) (hc : ∀ v ∈ vs, Cell H v) (hz : vs.length ≤ 8) : Thg H (.ref p) (formR vs) := .inl ⟨p, vs, rfl, h, hc, hz, rfl⟩
theorem cut_pre (vs : List V) (i : Nat) : cutV vs none (some (i : Int)) = vs.take i := by
  unfold cutV
  rw [HT.sIx_none, HT.sIx_nat, List.drop_zero, Nat.sub_zero]
  by_cases h : i ≤ vs.length
  · rw [Nat.min_eq_left h]
  · rw [Nat.min_eq_right (by omega), List.take_length, List.take_of_length_le (by omega)]
theorem cut_suf (vs : List V) (i : Nat) : cutV vs (some (i : Int)) none = vs.drop i := by
  unfold cutV
  rw [HT.sIx_none, HT.sIx_nat]
  by_cases h : i ≤ vs.length
  · rw [Nat.min_eq_left h, List.take_of_length_le (by rw [List.length_drop]; omega)]
  · rw [Nat.min_eq_right (by omega), List.drop_eq_nil_of_le (Nat.le_refl _), List.drop_eq_nil_of_le (by omega : vs.length ≤ i), List.take_nil]
theorem not_pre {vs : List V} {i : Nat} (h : i < vs.length) : ¬ (HT.sIx vs.length 0 none = 0 ∧ HT.sIx vs.length vs.length (some (i : Int)) = vs.length) := fun z => by
  have := z.2
  rw [HT.sIx_nat] at this
  omega
theorem not_suf {vs : List V} {i : Nat} (h : 0 < vs.length) (hi : 0 < i) : ¬ (HT.sIx vs.length 0 (some (i : Int)) = 0 ∧ HT.sIx vs.length vs.length none = vs.length) := fun z => by
  have := z.1
  rw [HT.sIx_nat] at this
  omega
/-! the law's parts -/
theorem Cell.off {H H' : Hp} {p : Addr} {v : V} (h : Cell H v) (hp : Pool H p) (o : Off p H H') : Cell H' v := by
  obtain ⟨c, n, g, _⟩ := hp
  rcases h with h | h | h | h | ⟨q, e, h | h⟩
  · exact .inl h
  · exact .inr (.inl h)
  · exact .inr (.inr (.inl h))
  · exact .inr (.inr (.inr (.inl h)))
  · exact .inr (.inr (.inr (.inr ⟨q, e, .inl (o _ _ (fun z => by rw [z, g] at h; cases h) h)⟩)))
  · exact .inr (.inr (.inr (.inr ⟨q, e, .inr (o _ _ (fun z => by rw [z, g] at h; cases h) h)⟩)))
theorem Thg.off {H H' : Hp} {p : Addr} {x : V} {o : Option StepD} (h : Thg H x o) (hp : Pool H p) (f : Off p H H') (aw : AwayV p x) : Thg H' x o := by
  rcases h with ⟨q, vs, rfl, g, c, z, r⟩ | ⟨h, e⟩
  · exact .inl ⟨q, vs, rfl, f _ _ (fun z => aw (by rw [z])) g, fun v hv => (c v hv).off hp f, z, r⟩
  · refine .inr ⟨?_, e⟩
    rcases h with h | h | h | h | ⟨a, rfl, ⟨xs, h⟩ | ⟨xs, h⟩⟩
    · exact .inl h
    · exact .inr (.inl h)
    · exact .inr (.inr (.inl h))
    · exact .inr (.inr (.inr (.inl h)))
    · exact .inr (.inr (.inr (.inr ⟨a, rfl, .inl ⟨xs, f _ _ (fun z => aw (by rw [z])) h⟩⟩)))
    · exact .inr (.inr (.inr (.inr ⟨a, rfl, .inr ⟨xs, f _ _ (fun z => aw (by rw [z])) h⟩⟩)))
theorem thg_st {H : Hp} {p : Addr} {st : StepD} (ok : st.ok) (h : H p = some (.tup st.vals)) : Thg H (.ref p) (some st) := by
  have := thg_tup h (cells_st st) (Nat.le_trans (st_len st).2 (by decide))
  rw [form_step ok] at this
  exact this
theorem thg_some {H : Hp} {x : V} {st : StepD} (h : Thg H x (some st)) : ∃ p, x = .ref p ∧ H p = some (.tup st.vals) ∧ st.ok := by
  rcases h with ⟨p, vs, e, g, c, _, r⟩ | ⟨_, e⟩
  · obtain ⟨rfl, ok⟩ := form_vals c r.symm
    exact ⟨p, e, g, ok⟩
  · cases e
/-- short rows -/
theorem doX_short {t : List Nat} {st : StepD} (ok : st.ok) (z : t.length ≤ 1000) : doX t (some st) = doR t st := by
  cases h : doR t st with
  | none => exact doX_none h
  | some u =>
    have := doR_len3 ok h
    rw [doX_some h, if_pos (by omega)]
theorem more_done {t : List Nat} {a m : Nat} (h : a + m ≤ t.length) : ∃ u, doR t (.more a m) = some u ∧ u.length = t.length + 2 * m := by
  have e : ((t.drop a).take m).length = m := by rw [List.length_take, List.length_drop]; omega
  refine ⟨t.take (a + m) ++ RowM.turn ((t.drop a).take m) ++ (t.drop a).take m ++ t.drop (a + m), ?_, ?_⟩
  · show (partR t a m).bind _ = _
    unfold partR
    rw [if_pos e]
    rfl
  · simp only [List.length_append, RowM.turn_length, e, List.length_take, List.length_drop]
    omega
def FlL (vs : List V) : Prop := (∀ v ∈ vs, FlV v) ∧ SeqAt.shaped (.list (vs.map flD)) = true
theorem FlL.dp {K : PySem.W.Frag} {H : Hp} {A : Addr} {vs : List V} (h : FlL vs) (g : H A = some (.lst vs)) : Dp K H (.ref A) (.list (vs.map flD)) := .lst (SqL.of g) (fl_dpall h.1)
theorem doXL_row : ∀ {os : List (Option StepD)} {t u : List Nat}, Row t → doXL t os = some u → Row u
  | [], t, u, h, e => by
    injection e with e
    exact e ▸ h
  | a :: r, t, u, h, e => by
    obtain ⟨v, hv, e⟩ := Option.bind_eq_some_iff.mp (show (doX t a).bind (fun w => doXL w r) = some u from e)
    exact doXL_row (doX_row h hv).1 e
theorem toldX_fl {t : List Nat} (h : Row t) (os : List (Option StepD)) : FlL (toldX t os) := by
  unfold toldX
  split
  · rename_i u hu
    have := str_rowS (doXL_row h hu)
    refine ⟨fun v hv => ?_, by simp [flD, SeqAt.shaped, PyData.canLay0, PyData.canLayAll0, PyData.depth, PyData.depthAll, ok_told, this]⟩
    simp only [List.mem_cons, List.not_mem_nil, or_false] at hv
    rcases hv with rfl | rfl <;> trivial
  · refine ⟨fun v hv => ?_, by simp [flD, SeqAt.shaped, PyData.canLay0, PyData.canLayAll0, PyData.depth, PyData.depthAll, ok_noneS]⟩
    simp only [List.mem_cons, List.not_mem_nil, or_false] at hv
    rcases hv with rfl | rfl <;> trivial
def rowV : List V := [.str (Str.ofString "row"), .bl true]
theorem row_fl : FlL rowV := by
  refine ⟨fun v hv => ?_, by decide +kernel⟩
  simp only [rowV, List.mem_cons, List.not_mem_nil, or_false] at hv
  rcases hv with rfl | rfl <;> trivial
theorem toldX_one (t : List Nat) (o : Option StepD) : toldX t [o] = match doX t o with
    | some u => [.str (Str.ofString "told"), .str (S u)]
    | none => [.str (Str.ofString "none"), .int 0] := by
  cases h : doX t o with
  | none =>
    rw [toldX_none (by rw [doXL_one]; exact h), badX_one h]
    rfl
  | some u => rw [toldX_some (by rw [doXL_one]; exact h)]
theorem toldX_two {t u : List Nat} {a : Option StepD} (h : doX t a = some u) (o : Option StepD) : toldX t [a, o] = match doX u o with
    | some w => [.str (Str.ofString "told"), .str (S w)]
    | none => [.str (Str.ofString "none"), .int 1] := by
  have e1 : doXL t [a, o] = doX u o := by
    show (doX t a).bind (fun u => doXL u [o]) = _
    rw [h]
    exact doXL_one u o
  have e2 : badX t [a, o] = badX u [o] + 1 := by
    conv => lhs; unfold badX
    rw [h]
  cases g : doX u o with
  | none =>
    rw [toldX_none (e1.trans g), e2, badX_one g]
    rfl
  | some w => rw [toldX_some (e1.trans g)]
/-! a text, many times -/
theorem fold_rep (l : List Nat) : ∀ (n : Nat) (acc : Array Nat), (List.replicate n l.toArray).foldl (· ++ ·) acc = acc ++ ((List.replicate n l).flatten).toArray
  | 0, acc => by simp
  | n + 1, acc => by
    rw [List.replicate_succ, List.foldl_cons, fold_rep l n, List.replicate_succ, List.flatten_cons, ← List.append_toArray, Array.append_assoc]
theorem mul_many {l : List Nat} {n : Nat} (h1 : 2 ≤ n) (h2 : n ≤ 5000) (h3 : 1 ≤ l.length) (h4 : l.length ≤ 2) : MulOk (S l) (n : Int) ∧ Txt.mul (S l) (n : Int) = S ((List.replicate n l).flatten) := by
  refine ⟨⟨?_, fun _ _ => ?_, fun _ _ => ?_⟩, ?_⟩
  · rw [Bool.or_eq_false_iff, decide_eq_false_iff_not, decide_eq_false_iff_not]
    omega
  · rw [len_S]
    have h : (5000 : Int) ≤ (2 ^ 63 - 1) / (n : Int) := (Int.le_ediv_iff_mul_le (by omega)).mpr (by omega)
    omega
  · rw [len_S]
    have : l.length * (n : Int).toNat ≤ 2 * 5000 := Nat.mul_le_mul h4 (by omega)
    show decide (_ > sizeLine) = false
    exact decide_eq_false (Nat.not_lt.mpr (Nat.le_trans this (by decide)))
  · unfold Txt.mul
    have e : ((n : Int) == 1 || (S l).length == 0) = false := by
      rw [len_S, Bool.or_eq_false_iff, beq_eq_false_iff_ne, beq_eq_false_iff_ne]
      omega
    rw [if_neg (by omega), e, if_neg (by decide)]
    have := fold_rep l n #[]
    rw [Int.toNat_natCast]
    show (⟨(List.replicate n l.toArray).foldl (· ++ ·) #[]⟩ : Str) = ⟨_⟩
    rw [this]
    simp
theorem flat_one (n c : Nat) : (List.replicate n [c]).flatten = List.replicate n c := by
  induction n with
  | zero => rfl
  | succ n ih => rw [List.replicate_succ, List.flatten_cons, ih, List.replicate_succ]; rfl
theorem flat_len (n : Nat) (l : List Nat) : ((List.replicate n l).flatten).length = n * l.length := by
  induction n with
  | zero => simp
  | succ n ih => rw [List.replicate_succ, List.flatten_cons, List.length_append, ih, Nat.add_mul]; omega
theorem long_true {H : Hp} {t : List Nat} (rt : Row t) (z : t.length ≤ 40000) : IsRowW H (.str (S t)) 4000 (decide (t.length ≤ 4000)) := by
  refine .inl ⟨t, rfl, z, ?_⟩
  have : (t.all fun c => decide (c ∈ sgns)) = true := by
    rw [List.all_eq_true]
    exact fun c hc => decide_eq_true (rt c hc)
  rw [this, Bool.and_true]
  exact decide_eq_decide.mpr (by omega)
def pickV (o : Option (List Nat)) (n : Int) : List V := match o with
  | some u => [.str (Str.ofString "told"), .str (S u)]
  | none => [.str (Str.ofString "none"), .int n]
theorem pick {H : Hp} {A B C : Addr} {o : Option (List Nat)} {n : Int} (hA : H A = none) (hB : (upd H A (.lst [V.str (Str.ofString "told"), optS o])) B = none)
    (hC : (upd (upd H A (.lst [V.str (Str.ofString "told"), optS o])) B (.lst [V.str (Str.ofString "none"), .int n])) C = none) :
    ∃ (H' : Hp) (P : Addr), H' = upd (upd (upd H A (.lst [V.str (Str.ofString "told"), optS o])) B (.lst [V.str (Str.ofString "none"), .int n])) C (.lst [V.ref A, .ref B]) ∧ Same H H' ∧ H' C = some (.lst [V.ref A, .ref B]) ∧
      atI [V.ref A, V.ref B] (if decide (optS o = V.non) = true then 1 else 0) = some (.ref P) ∧ H' P = some (.lst (pickV o n)) := by
  have sA := Same.new (o := .lst [V.str (Str.ofString "told"), optS o]) hA
  have gA : (upd H A (.lst [V.str (Str.ofString "told"), optS o])) A = some (.lst [V.str (Str.ofString "told"), optS o]) := upd_same
  have sB := Same.new (o := .lst [V.str (Str.ofString "none"), .int n]) hB
  have gA := sB _ _ gA
  have gB : (upd (upd H A (.lst [V.str (Str.ofString "told"), optS o])) B (.lst [V.str (Str.ofString "none"), .int n])) B = some (.lst [V.str (Str.ofString "none"), .int n]) := upd_same
  have sC := Same.new (o := .lst [V.ref A, .ref B]) hC
  have gA := sC _ _ gA
  have gB := sC _ _ gB
  cases o with
  | none => exact ⟨_, B, rfl, Same.trans sA (Same.trans sB sC), upd_same, (by rw [decide_eq_true (show optS none = V.non from rfl)]; rfl), gB⟩
  | some u => exact ⟨_, A, rfl, Same.trans sA (Same.trans sB sC), upd_same, (by rw [decide_eq_false (fun h : optS (some u) = V.non => nomatch h)]; rfl), gA⟩
theorem toldX_p1 (t : List Nat) (o : Option StepD) : toldX t [o] = pickV (doX t o) 0 := toldX_one t o
theorem toldX_p2 {t u : List Nat} {a : Option StepD} (h : doX t a = some u) (o : Option StepD) : toldX t [a, o] = pickV (doX u o) 1 := toldX_two h o
/-! ### rounds -/
def rnd : List (List Nat) → List Nat
  | [] => []
  | p :: r => p ++ (RowM.turn p ++ rnd r)
def sumL (ls : List (List Nat)) : Nat := (ls.map List.length).sum
theorem rnd_app : ∀ (a b : List (List Nat)), rnd (a ++ b) = rnd a ++ rnd b
  | [], b => rfl
  | p :: a, b => by
    show p ++ (RowM.turn p ++ rnd (a ++ b)) = p ++ (RowM.turn p ++ rnd a) ++ rnd b
    rw [rnd_app a b]
    simp only [List.append_assoc]
theorem rnd_len : ∀ ls : List (List Nat), (rnd ls).length = 2 * sumL ls
  | [] => rfl
  | p :: r => by
    show (p ++ (RowM.turn p ++ rnd r)).length = 2 * (p.length + sumL r)
    rw [List.length_append, List.length_append, RowM.turn_length, rnd_len r]
    omega
theorem sumL_app (a b : List (List Nat)) : sumL (a ++ b) = sumL a + sumL b := by
  unfold sumL
  rw [List.map_append, List.sum_append]
theorem sumL_cons (p : List Nat) (b : List (List Nat)) : sumL (p :: b) = p.length + sumL b := by
  unfold sumL
  rw [List.map_cons, List.sum_cons]
theorem sumL_perm {a b : List (List Nat)} (h : a.Perm b) : sumL a = sumL b := (h.map _).sum_nat
theorem rnd_row : ∀ {ls : List (List Nat)}, (∀ p ∈ ls, Row p) → Row (rnd ls)
  | [], _ => fun _ h => nomatch h
  | p :: r, h => row_app (h p List.mem_cons_self) (row_app (RowM.turn_row (h p List.mem_cons_self)) (rnd_row fun q hq => h q (List.mem_cons_of_mem _ hq)))
/-- steps, one behind the other -/
def run (t : List Nat) (ss : List StepD) : Option (List Nat) := doXL t (ss.map some)
theorem run_nil (t : List Nat) : run t [] = some t := rfl
theorem run_cons {t u : List Nat} {s : StepD} (h : doR t s = some u) (z : u.length ≤ 4000) (ss : List StepD) : run t (s :: ss) = run u ss := by
  show (doX t (some s)).bind (fun u => doXL u (ss.map some)) = _
  rw [doX_some h, if_pos z]
  rfl
theorem run_app : ∀ (a b : List StepD) (t : List Nat), run t (a ++ b) = (run t a).bind fun u => run u b
  | [], b, t => rfl
  | s :: a, b, t => by
    show (doX t (some s)).bind (fun u => run u (a ++ b)) = ((doX t (some s)).bind fun u => run u a).bind fun u => run u b
    cases doX t (some s) with
    | none => rfl
    | some v => exact run_app a b v
theorem run_two {t u v : List Nat} {a b : List StepD} (h1 : run t a = some u) (h2 : run u b = some v) : run t (a ++ b) = some v := by
  rw [run_app, h1]
  exact h2
/-- two rounds change places -/
theorem swap_do (A : List (List Nat)) (p q : List Nat) (B : List (List Nat)) (r : List Nat) : doR (rnd (A ++ p :: q :: B) ++ r) (.past (rnd A).length p.length q.length) = some (rnd (A ++ q :: p :: B) ++ r) := by
  have h := past_at (rnd A) p q (rnd B ++ r)
  rw [rnd_app, rnd_app]
  simp only [rnd, List.append_assoc] at h ⊢
  exact h
def endS (A : List (List Nat)) (p : List Nat) : List (List Nat) → List StepD
  | [] => []
  | q :: B => .past (rnd A).length p.length q.length :: endS (A ++ [q]) p B
theorem end_run (p r : List Nat) : ∀ (A B : List (List Nat)), 2 * sumL (A ++ p :: B) + r.length ≤ 4000 → run (rnd (A ++ p :: B) ++ r) (endS A p B) = some (rnd (A ++ B ++ [p]) ++ r)
  | A, [], _ => by
    rw [List.append_nil]
    rfl
  | A, q :: B, z => by
    have e : A ++ q :: p :: B = (A ++ [q]) ++ p :: B := by simp
    have zz : sumL (A ++ q :: p :: B) = sumL (A ++ p :: q :: B) := sumL_perm ((List.Perm.swap p q B).append_left A)
    show run _ (.past _ _ _ :: endS (A ++ [q]) p B) = _
    rw [run_cons (swap_do A p q B r) (by rw [List.length_append, rnd_len, zz]; exact z), e, end_run p r (A ++ [q]) B (by rw [← e, zz]; exact z)]
    simp
def ordS : List (List Nat) → List Nat → List StepD
  | [], _ => []
  | q :: ra, p => if RowM.before p q = true then .past (rnd ra.reverse).length q.length p.length :: ordS ra p else []
def ordL : List (List Nat) → List Nat → List (List Nat)
  | [], p => [p]
  | q :: ra, p => if RowM.before p q = true then ordL ra p ++ [q] else ra.reverse ++ [q, p]
theorem ordL_perm (p : List Nat) : ∀ ra : List (List Nat), (ordL ra p).Perm (ra.reverse ++ [p])
  | [] => List.Perm.refl _
  | q :: ra => by
    unfold ordL
    split
    · refine ((ordL_perm p ra).append_right [q]).trans ?_
      rw [List.reverse_cons, List.append_assoc, List.append_assoc]
      exact (List.Perm.swap q p []).append_left _
    · rw [List.reverse_cons, List.append_assoc]
      exact List.Perm.refl _
theorem ord_run (p r : List Nat) : ∀ (ra B : List (List Nat)), 2 * sumL (ra.reverse ++ p :: B) + r.length ≤ 4000 → run (rnd (ra.reverse ++ p :: B) ++ r) (ordS ra p) = some (rnd (ordL ra p ++ B) ++ r)
  | [], B, _ => rfl
  | q :: ra, B, z => by
    have e1 : (q :: ra).reverse ++ p :: B = ra.reverse ++ q :: p :: B := by simp
    rw [e1] at z ⊢
    unfold ordS ordL
    split
    · have zz : sumL (ra.reverse ++ p :: q :: B) = sumL (ra.reverse ++ q :: p :: B) := sumL_perm ((List.Perm.swap q p B).append_left _)
      rw [run_cons (swap_do ra.reverse q p B r) (by rw [List.length_append, rnd_len, zz]; exact z), ord_run p r ra (q :: B) (by rw [zz]; exact z)]
      simp
    · rw [run_nil]
      simp
/-- in order, no two alike -/
def InOrd (ls : List (List Nat)) : Prop := ls.Pairwise fun a b => RowM.before a b = true
theorem before_irr (l : List Nat) : RowM.before l l = false := by
  cases h : RowM.before l l with
  | false => rfl
  | true =>
    have := WalkM.before_asymm h
    rw [h] at this
    cases this
theorem ordL_ord {p : List Nat} (rp : Row p) : ∀ {ra : List (List Nat)}, InOrd ra.reverse → (∀ q ∈ ra, Row q ∧ q ≠ p) → InOrd (ordL ra p)
  | [], _, _ => List.pairwise_singleton _ _
  | q :: ra, h, hr => by
    rw [List.reverse_cons] at h
    obtain ⟨h1, _, h3⟩ := List.pairwise_append.mp h
    have hq : ∀ a ∈ ra, RowM.before a q = true := fun a ha => h3 a (List.mem_reverse.mpr ha) q (by simp)
    unfold ordL
    split
    · rename_i hb
      refine List.pairwise_append.mpr ⟨ordL_ord rp h1 fun a ha => hr a (List.mem_cons_of_mem _ ha), List.pairwise_singleton _ _, fun a ha b hb2 => ?_⟩
      rw [List.mem_singleton.mp hb2]
      have ha := (ordL_perm p ra).mem_iff.mp ha
      rcases List.mem_append.mp ha with ha | ha
      · exact hq a (List.mem_reverse.mp ha)
      · rw [List.mem_singleton.mp ha]
        exact hb
    · rename_i hb
      obtain ⟨rq, ne⟩ := hr q List.mem_cons_self
      have hqp : RowM.before q p = true := by
        cases e : RowM.before q p with
        | true => rfl
        | false => exact absurd (WalkM.before_eq rq rp e (by simpa using hb)) ne
      refine List.pairwise_append.mpr ⟨h1, List.pairwise_cons.mpr ⟨fun a ha => ?_, List.pairwise_singleton _ _⟩, fun a ha b hb2 => ?_⟩
      · rw [List.mem_singleton.mp ha]
        exact hqp
      · have haq := hq a (List.mem_reverse.mp ha)
        simp only [List.mem_cons, List.not_mem_nil, or_false] at hb2
        rcases hb2 with rfl | rfl
        · exact haq
        · exact RowM.before_trans haq hqp
theorem ord_uniq : ∀ {a b : List (List Nat)}, InOrd a → InOrd b → (∀ p, p ∈ a ↔ p ∈ b) → a = b
  | [], [], _, _, _ => rfl
  | [], q :: b, _, _, h => absurd ((h q).mpr List.mem_cons_self) (by simp)
  | p :: a, [], _, _, h => absurd ((h p).mp List.mem_cons_self) (by simp)
  | p :: a, q :: b, h1, h2, h => by
    obtain ⟨f1, g1⟩ := List.pairwise_cons.mp h1
    obtain ⟨f2, g2⟩ := List.pairwise_cons.mp h2
    have e : p = q := by
      rcases List.mem_cons.mp ((h p).mp List.mem_cons_self) with e | hp
      · exact e
      rcases List.mem_cons.mp ((h q).mpr List.mem_cons_self) with e | hq
      · exact e.symm
      have x := f2 p hp
      have y := f1 q hq
      rw [WalkM.before_asymm x] at y
      cases y
    subst e
    congr 1
    refine ord_uniq g1 g2 fun r => ⟨fun hr => ?_, fun hr => ?_⟩
    · rcases List.mem_cons.mp ((h r).mp (List.mem_cons_of_mem _ hr)) with e | hr'
      · subst e
        have := f1 _ hr
        rw [before_irr] at this
        cases this
      · exact hr'
    · rcases List.mem_cons.mp ((h r).mpr (List.mem_cons_of_mem _ hr)) with e | hr'
      · subst e
        have := f2 _ hr
        rw [before_irr] at this
        cases this
      · exact hr'
/-! ### one sign further -/
/-- where the making of the rounds stands -/
structure CS where
  ks : List (List Nat)
  ls : List (List Nat)
  e : List Nat
  ss : List StepD
/-- the list without one, and that one behind -/
def toE (ls : List (List Nat)) (p : List Nat) : List (List Nat) := ls.takeWhile (fun q => !decide (q = p)) ++ (ls.dropWhile (fun q => !decide (q = p))).drop 1
def toES (ls : List (List Nat)) (p : List Nat) : List StepD := endS (ls.takeWhile (fun q => !decide (q = p))) p ((ls.dropWhile (fun q => !decide (q = p))).drop 1)
theorem toE_split {ls : List (List Nat)} {p : List Nat} (h : p ∈ ls) : ∃ A B, ls = A ++ p :: B ∧ (∀ q ∈ A, q ≠ p) ∧ toE ls p = A ++ B ∧ toES ls p = endS A p B := by
  induction ls with
  | nil => simp at h
  | cons a r ih =>
    by_cases e : a = p
    · subst e
      exact ⟨[], r, rfl, (fun _ h => nomatch h), by simp [toE], by simp [toES]⟩
    · rcases List.mem_cons.mp h with h | h
      · exact absurd h.symm e
      obtain ⟨A, B, h1, h2, h3, h4⟩ := ih h
      have d : (!decide (a = p)) = true := by rw [decide_eq_false e]; rfl
      have w1 : (a :: r).takeWhile (fun q => !decide (q = p)) = a :: r.takeWhile (fun q => !decide (q = p)) := List.takeWhile_cons_of_pos d
      have w2 : (a :: r).dropWhile (fun q => !decide (q = p)) = r.dropWhile (fun q => !decide (q = p)) := List.dropWhile_cons_of_pos d
      have t1 : r.takeWhile (fun q => !decide (q = p)) = A := by
        rw [h1, List.takeWhile_append_of_pos (fun q hq => by rw [decide_eq_false (h2 q hq)]; rfl), List.takeWhile_cons_of_neg (by simp), List.append_nil]
      have t2 : (r.dropWhile (fun q => !decide (q = p))).drop 1 = B := by
        rw [h1, List.dropWhile_append_of_pos (fun q hq => by rw [decide_eq_false (h2 q hq)]; rfl), List.dropWhile_cons_of_neg (by simp)]
        rfl
      refine ⟨a :: A, B, by rw [h1]; rfl, fun q hq => ?_, ?_, ?_⟩
      · rcases List.mem_cons.mp hq with rfl | hq
        · exact e
        · exact h2 q hq
      · unfold toE
        rw [w1, w2, t1, t2]
      · unfold toES
        rw [w1, w2, t1, t2]
theorem toE_perm {ls : List (List Nat)} {p : List Nat} (h : p ∈ ls) : ls.Perm (toE ls p ++ [p]) := by
  obtain ⟨A, B, e, _, t, _⟩ := toE_split h
  rw [t, e, List.append_assoc]
  exact (List.perm_append_comm (l₁ := [p]) (l₂ := B)).append_left A
theorem toE_ord {ls : List (List Nat)} {p : List Nat} (h : p ∈ ls) (o : InOrd ls) : InOrd (toE ls p) ∧ ∀ q ∈ toE ls p, q ∈ ls ∧ q ≠ p := by
  obtain ⟨A, B, e, hA, t, _⟩ := toE_split h
  rw [t]
  subst e
  have sub : (A ++ B).Sublist (A ++ p :: B) := (List.sublist_cons_self p B).append_left A
  refine ⟨List.Pairwise.sublist sub o, fun q hq => ⟨sub.subset hq, ?_⟩⟩
  rcases List.mem_append.mp hq with hq | hq
  · exact hA q hq
  · intro z
    subst z
    obtain ⟨_, h2, _⟩ := List.pairwise_append.mp o
    have := (List.pairwise_cons.mp h2).1 q hq
    rw [before_irr] at this
    cases this
theorem toE_run {ls : List (List Nat)} {p : List Nat} (h : p ∈ ls) (r : List Nat) (z : 2 * sumL ls + r.length ≤ 4000) : run (rnd ls ++ r) (toES ls p) = some (rnd (toE ls p ++ [p]) ++ r) := by
  obtain ⟨A, B, e, _, t, t2⟩ := toE_split h
  rw [t, t2]
  subst e
  exact end_run p r A B z
/-- the first leaf that begins with a place -/
def leafOf (ls : List (List Nat)) (e : List Nat) : List Nat := (ls.filter fun l => decide (l.take e.length = e)).headD []
def fallS (ls : List (List Nat)) (e : List Nat) : List StepD :=
  let l := leafOf ls e
  let n := 2 * sumL ls
  toES ls l ++ ((if 0 < e.length - 1 then [.past (n - (e.length - 1)) (e.length - 1) 1] else []) ++ ([.less (n - (e.length - 1) - 1) 1] ++ ordS (toE ls l).reverse l))
def growS (ls : List (List Nat)) (e p : List Nat) : List StepD :=
  if e ∈ ls then toES ls e ++ ([.more (2 * sumL ls) p.length] ++ ([.less (2 * sumL ls - 2 * e.length) e.length] ++ ordS (toE ls e).reverse p))
  else [.more (2 * sumL ls) p.length] ++ ordS ls.reverse p
def goOn (s : CS) (c : Nat) : CS :=
  if s.e.getLast? = some (con c) then ⟨s.ks, ordL (toE s.ls (leafOf s.ls s.e)).reverse (leafOf s.ls s.e), s.e.dropLast, s.ss ++ fallS s.ls s.e⟩
  else if s.e ++ [c] ∈ s.ks then ⟨s.ks, s.ls, s.e ++ [c], s.ss⟩
  else ⟨s.ks ++ [s.e ++ [c]], ordL (if s.e ∈ s.ls then toE s.ls s.e else s.ls).reverse (s.e ++ [c]), s.e ++ [c], s.ss ++ growS s.ls s.e (s.e ++ [c])⟩
def canon (w : List Nat) : CS := w.foldl goOn ⟨[[]], [], [], []⟩
/-- the ends of a tree -/
def LeafT (ks ls : List (List Nat)) : Prop := ∀ p, p ∈ ls ↔ p ∈ ks ∧ p ≠ [] ∧ ∀ c ∈ sgns, p ++ [c] ∉ ks
structure CI (w : List Nat) (s : CS) : Prop where
  ks : s.ks = gone w
  e : s.e = RowM.plain w
  ord : InOrd s.ls
  leaf : LeafT (gone w) s.ls
theorem ord_nodup {ls : List (List Nat)} (h : InOrd ls) : ls.Nodup := List.Pairwise.imp (fun {a b} h e => by
  subst e
  rw [before_irr] at h
  cases h) h
/-- each place lies on the way to an end -/
theorem leaf_on {w : List Nat} (rw_ : Row w) {ls : List (List Nat)} (hl : LeafT (gone w) ls) {e : List Nat} (he : e ∈ gone w) (ne : e ≠ []) : ∃ l ∈ ls, l.take e.length = e := by
  have T := WalkM.tree_gone rw_
  have key : ∀ n (x : List Nat), x ∈ gone w → x.take e.length = e → w.length + 1 - x.length ≤ n → ∃ l ∈ ls, l.take e.length = e := by
    intro n
    induction n with
    | zero =>
      intro x hx _ z
      have := WalkM.gone_small w x hx
      omega
    | succ n ih =>
      intro x hx ex z
      have le : e.length ≤ x.length := by
        have := congrArg List.length ex
        rw [List.length_take] at this
        omega
      by_cases h : ∃ c ∈ sgns, x ++ [c] ∈ gone w
      · obtain ⟨c, _, hc⟩ := h
        refine ih (x ++ [c]) hc (by rw [List.take_append_of_le_length le]; exact ex) ?_
        have := WalkM.gone_small w _ hc
        rw [List.length_append, List.length_singleton] at this ⊢
        omega
      · refine ⟨x, (hl x).mpr ⟨hx, fun h0 => ne ?_, fun c hc h2 => h ⟨c, hc, h2⟩⟩, ex⟩
        rw [h0] at ex
        rw [← ex]
        simp
  exact key _ e he (List.take_length ..) (Nat.le_refl _)
theorem leafOf_mem {w : List Nat} (rw_ : Row w) {ls : List (List Nat)} (hl : LeafT (gone w) ls) {e : List Nat} (he : e ∈ gone w) (ne : e ≠ []) : leafOf ls e ∈ ls ∧ (leafOf ls e).take e.length = e := by
  obtain ⟨l, h1, h2⟩ := leaf_on rw_ hl he ne
  unfold leafOf
  have hm : l ∈ ls.filter fun l => decide (l.take e.length = e) := List.mem_filter.mpr ⟨h1, decide_eq_true h2⟩
  cases hf : ls.filter fun l => decide (l.take e.length = e) with
  | nil => rw [hf] at hm; simp at hm
  | cons a r =>
    have ha : a ∈ ls.filter fun l => decide (l.take e.length = e) := by rw [hf]; exact List.mem_cons_self
    obtain ⟨g1, g2⟩ := List.mem_filter.mp ha
    exact ⟨g1, of_decide_eq_true g2⟩
theorem fall_run {ls : List (List Nat)} {e' q rest : List Nat} {x c : Nat} (hc : c ∈ sgns) (hx : x = con c) (re : Row e') (hl : leafOf ls (e' ++ [x]) = e' ++ ([x] ++ q)) (hm : leafOf ls (e' ++ [x]) ∈ ls) (z : 2 * sumL ls + e'.length + rest.length + 10 ≤ 4000) :
    run (rnd ls ++ (e' ++ ([x] ++ ([c] ++ rest)))) (fallS ls (e' ++ [x])) = some (rnd (ordL (toE ls (leafOf ls (e' ++ [x]))).reverse (leafOf ls (e' ++ [x]))) ++ (e' ++ rest)) := by
  have ecx : con x = c := by rw [hx, RowM.con_con hc]
  obtain ⟨l, el⟩ : ∃ l, l = leafOf ls (e' ++ [x]) := ⟨_, rfl⟩
  unfold fallS
  rw [← el] at hl hm ⊢
  have sp := sumL_perm (toE_perm hm)
  obtain ⟨M, eM⟩ : ∃ M, M = toE ls l := ⟨_, rfl⟩
  rw [← eM] at sp
  have s1 := toE_run hm (e' ++ ([x] ++ ([c] ++ rest))) (by simp only [List.length_append, List.length_singleton]; omega)
  rw [← eM] at s1
  show run _ (toES ls l ++ ((if 0 < (e' ++ [x]).length - 1 then [StepD.past (2 * sumL ls - ((e' ++ [x]).length - 1)) ((e' ++ [x]).length - 1) 1] else []) ++ ([StepD.less (2 * sumL ls - ((e' ++ [x]).length - 1) - 1) 1] ++ ordS (toE ls l).reverse l))) = some (rnd (ordL (toE ls l).reverse l) ++ (e' ++ rest))
  rw [← eM]
  refine run_two s1 ?_
  obtain ⟨X, eX⟩ : ∃ X, X = rnd M ++ (l ++ RowM.turn q) := ⟨_, rfl⟩
  have hX : rnd (M ++ [l]) = X ++ ([c] ++ RowM.turn e') := by
    have ht : RowM.turn l = RowM.turn q ++ ([c] ++ RowM.turn e') := by
      rw [hl, RowM.turn_append, RowM.turn_append, turn_one, ecx, List.append_assoc]
    rw [rnd_app, eX]
    show rnd M ++ (l ++ (RowM.turn l ++ [])) = _
    rw [ht]
    simp only [List.append_assoc, List.append_nil]
  have lX : 2 * sumL ls = X.length + (1 + e'.length) := by
    have h1 := congrArg List.length hX
    rw [rnd_len, List.length_append, List.length_append, RowM.turn_length, List.length_singleton, ← sp] at h1
    exact h1
  have le : (e' ++ [x]).length - 1 = e'.length := by rw [List.length_append, List.length_singleton]; omega
  rw [le]
  -- the sign's own pair ahead of the way back
  have s2 : run (rnd (M ++ [l]) ++ (e' ++ ([x] ++ ([c] ++ rest)))) (if 0 < e'.length then [StepD.past (2 * sumL ls - e'.length) e'.length 1] else []) = some (X ++ ([c] ++ ([x] ++ ([c] ++ (RowM.turn e' ++ (e' ++ rest)))))) := by
    rw [hX]
    by_cases h0 : 0 < e'.length
    · rw [if_pos h0]
      have h := past_at (X ++ [c]) (RowM.turn e') [x] rest
      rw [RowM.turn_turn re, RowM.turn_length, turn_one, ecx] at h
      have ea : 2 * sumL ls - e'.length = (X ++ [c]).length := by rw [List.length_append, List.length_singleton]; omega
      rw [ea]
      have hd : doR (X ++ ([c] ++ RowM.turn e') ++ (e' ++ ([x] ++ ([c] ++ rest)))) (.past (X ++ [c]).length e'.length 1) = some (X ++ ([c] ++ ([x] ++ ([c] ++ (RowM.turn e' ++ (e' ++ rest)))))) := by
        simp only [List.append_assoc] at h ⊢
        exact h
      rw [run_cons hd (by simp only [List.length_append, List.length_singleton, RowM.turn_length]; omega)]
      rfl
    · rw [if_neg h0]
      have e0 : e' = [] := List.eq_nil_of_length_eq_zero (by omega)
      subst e0
      rw [run_nil]
      show some _ = some _
      simp only [List.append_assoc, List.nil_append, show RowM.turn [] = [] from rfl, List.append_nil]
  refine run_two s2 ?_
  have s3 : doR (X ++ ([c] ++ ([x] ++ ([c] ++ (RowM.turn e' ++ (e' ++ rest)))))) (.less (2 * sumL ls - e'.length - 1) 1) = some (rnd (M ++ [l]) ++ (e' ++ rest)) := by
    have h := less_at X [c] (RowM.turn e' ++ (e' ++ rest))
    rw [turn_one, ← hx] at h
    have ea : 2 * sumL ls - e'.length - 1 = X.length := by omega
    rw [ea, hX]
    simp only [List.append_assoc] at h ⊢
    exact h
  show run _ (StepD.less _ 1 :: ordS M.reverse l) = _
  rw [run_cons s3 (by rw [List.length_append, rnd_len, ← sp, List.length_append]; omega)]
  have s4 := ord_run l (e' ++ rest) M.reverse []
  rw [List.reverse_reverse, List.append_nil] at s4
  exact s4 (by rw [← sp, List.length_append]; omega)
theorem grow_run {ls : List (List Nat)} {e rest : List Nat} {c : Nat} (z : 2 * sumL ls + 3 * (e.length + 1) + rest.length ≤ 4000) :
    run (rnd ls ++ ((e ++ [c]) ++ rest)) (growS ls e (e ++ [c])) = some (rnd (ordL (if e ∈ ls then toE ls e else ls).reverse (e ++ [c])) ++ ((e ++ [c]) ++ rest)) := by
  obtain ⟨p, ep⟩ : ∃ p, p = e ++ [c] := ⟨_, rfl⟩
  have zp : p.length = e.length + 1 := by rw [ep, List.length_append, List.length_singleton]
  unfold growS
  by_cases hm : e ∈ ls
  · rw [if_pos hm, if_pos hm, ← ep]
    have sp := sumL_perm (toE_perm hm)
    obtain ⟨M, eM⟩ : ∃ M, M = toE ls e := ⟨_, rfl⟩
    have s1 := toE_run hm (p ++ rest) (by rw [List.length_append]; omega)
    rw [← eM] at sp s1 ⊢
    refine run_two s1 ?_
    have lx : (rnd (M ++ [e])).length = 2 * sumL ls := by rw [rnd_len, ← sp]
    have s2 := more_at (rnd (M ++ [e])) p rest
    rw [lx] at s2
    show run _ (StepD.more _ p.length :: ([StepD.less _ e.length] ++ ordS M.reverse p)) = _
    have s2 : doR (rnd (M ++ [e]) ++ (p ++ rest)) (.more (2 * sumL ls) p.length) = some (rnd (M ++ [e]) ++ (p ++ (RowM.turn p ++ (p ++ rest)))) := s2
    rw [run_cons s2 (by simp only [List.length_append, RowM.turn_length, lx]; omega)]
    have s3 : doR (rnd (M ++ [e]) ++ (p ++ (RowM.turn p ++ (p ++ rest)))) (.less (2 * sumL ls - 2 * e.length) e.length) = some (rnd (M ++ [p]) ++ (p ++ rest)) := by
      have h := less_at (rnd M) e ([c] ++ (RowM.turn p ++ (p ++ rest)))
      have ea : 2 * sumL ls - 2 * e.length = (rnd M).length := by
        rw [sumL_app, sumL_cons] at sp
        have : sumL [] = 0 := rfl
        rw [rnd_len]
        omega
      rw [ea]
      have e1 : rnd (M ++ [e]) ++ (p ++ (RowM.turn p ++ (p ++ rest))) = rnd M ++ (e ++ (RowM.turn e ++ (e ++ ([c] ++ (RowM.turn p ++ (p ++ rest)))))) := by
        rw [rnd_app]
        show rnd M ++ (e ++ (RowM.turn e ++ [])) ++ _ = _
        conv => lhs; rw [show p ++ (RowM.turn p ++ (p ++ rest)) = e ++ ([c] ++ (RowM.turn p ++ (p ++ rest))) by rw [← List.append_assoc e, ← ep]]
        simp only [List.append_assoc, List.append_nil]
      have e2 : rnd (M ++ [p]) ++ (p ++ rest) = rnd M ++ (e ++ ([c] ++ (RowM.turn p ++ (p ++ rest)))) := by
        rw [rnd_app, ← List.append_assoc e, ← ep]
        show rnd M ++ (p ++ (RowM.turn p ++ [])) ++ _ = _
        simp only [List.append_assoc, List.append_nil]
      rw [e1, e2]
      exact h
    show run _ (StepD.less _ e.length :: ordS M.reverse p) = _
    have zM : sumL (M ++ [p]) = sumL ls + 1 := by
      rw [sp, sumL_app, sumL_app, sumL_cons, sumL_cons, zp]
      omega
    rw [run_cons s3 (by rw [List.length_append, rnd_len, zM, List.length_append]; omega)]
    have s4 := ord_run p (p ++ rest) M.reverse []
    rw [List.reverse_reverse, List.append_nil] at s4
    exact s4 (by rw [zM, List.length_append]; omega)
  · rw [if_neg hm, if_neg hm, ← ep]
    have s2 := more_at (rnd ls) p rest
    rw [rnd_len] at s2
    have s2 : doR (rnd ls ++ (p ++ rest)) (.more (2 * sumL ls) p.length) = some (rnd (ls ++ [p]) ++ (p ++ rest)) := by
      refine Eq.trans s2 ?_
      rw [rnd_app]
      show some _ = some (rnd ls ++ (p ++ (RowM.turn p ++ [])) ++ _)
      simp only [List.append_assoc, List.append_nil]
    have zM : sumL (ls ++ [p]) = sumL ls + p.length := by
      rw [sumL_app, sumL_cons]
      rfl
    show run _ (StepD.more _ p.length :: ordS ls.reverse p) = _
    rw [run_cons s2 (by rw [List.length_append, rnd_len, zM, List.length_append]; omega)]
    have s4 := ord_run p (p ++ rest) ls.reverse []
    rw [List.reverse_reverse, List.append_nil] at s4
    exact s4 (by rw [zM, List.length_append]; omega)
theorem canon_snoc (w : List Nat) (c : Nat) : canon (w ++ [c]) = goOn (canon w) c := by
  unfold canon
  rw [List.foldl_append]
  rfl
theorem endS_len (p : List Nat) : ∀ (A B : List (List Nat)), (endS A p B).length = B.length
  | _, [] => rfl
  | A, q :: B => congrArg (· + 1) (endS_len p (A ++ [q]) B)
theorem ordS_len (p : List Nat) : ∀ ra : List (List Nat), (ordS ra p).length ≤ ra.length
  | [] => Nat.le_refl _
  | q :: ra => by
    unfold ordS
    split
    · exact Nat.succ_le_succ (ordS_len p ra)
    · exact Nat.zero_le _
theorem endS_ok {p : List Nat} (hp : p ≠ []) : ∀ (A B : List (List Nat)), (∀ q ∈ B, q ≠ []) → ∀ s ∈ endS A p B, s.ok
  | _, [], _, _, h => nomatch h
  | A, q :: B, hB, s, h => by
    rcases List.mem_cons.mp h with rfl | h
    · have h1 := List.length_pos_iff.mpr hp
      have h2 := List.length_pos_iff.mpr (hB q List.mem_cons_self)
      exact ⟨⟨h1, Nat.zero_le _⟩, h2, Nat.zero_le _⟩
    · exact endS_ok hp (A ++ [q]) B (fun r hr => hB r (List.mem_cons_of_mem _ hr)) s h
theorem ordS_ok {p : List Nat} (hp : p ≠ []) : ∀ (ra : List (List Nat)), (∀ q ∈ ra, q ≠ []) → ∀ s ∈ ordS ra p, s.ok
  | [], _, _, h => nomatch h
  | q :: ra, hB, s, h => by
    unfold ordS at h
    split at h
    · rcases List.mem_cons.mp h with rfl | h
      · have h1 := List.length_pos_iff.mpr hp
        have h2 := List.length_pos_iff.mpr (hB q List.mem_cons_self)
        exact ⟨⟨h2, Nat.zero_le _⟩, h1, Nat.zero_le _⟩
      · exact ordS_ok hp ra (fun r hr => hB r (List.mem_cons_of_mem _ hr)) s h
    · cases h
theorem toES_len {ls : List (List Nat)} {p : List Nat} (h : p ∈ ls) : (toES ls p).length + 1 ≤ ls.length ∧ (toE ls p).length + 1 = ls.length := by
  obtain ⟨A, B, e, _, t, t2⟩ := toE_split h
  rw [t, t2, endS_len, e]
  simp only [List.length_append, List.length_cons]
  omega
theorem toES_ok {ls : List (List Nat)} {p : List Nat} (h : p ∈ ls) (hn : ∀ q ∈ ls, q ≠ []) : ∀ s ∈ toES ls p, s.ok := by
  obtain ⟨A, B, e, _, _, t2⟩ := toE_split h
  rw [t2]
  exact endS_ok (hn p h) A B fun q hq => hn q (by rw [e]; exact List.mem_append_right _ (List.mem_cons_of_mem _ hq))
theorem toE_sub {ls : List (List Nat)} {p : List Nat} (h : p ∈ ls) : ∀ q ∈ toE ls p, q ∈ ls := fun q hq => (toE_perm h).mem_iff.mpr (List.mem_append_left _ hq)
/-- how much there may be -/
structure CB (w : List Nat) (s : CS) : Prop where
  few : ∃ d u, u + d = w.length ∧ s.ls.length ≤ d + (if s.e ∈ s.ls then 1 else 0) ∧ s.ls.length ≤ u ∧ ∀ p ∈ gone w, p.length ≤ u
  many : s.ss.length ≤ 61 * w.length
  ok : ∀ st ∈ s.ss, st.ok
theorem sumL_le {n : Nat} : ∀ {ls : List (List Nat)}, (∀ p ∈ ls, p.length ≤ n) → sumL ls ≤ ls.length * n
  | [], _ => Nat.zero_le _
  | p :: r, h => by
    rw [sumL_cons, List.length_cons, Nat.add_mul]
    have h1 := h p List.mem_cons_self
    have h2 := sumL_le fun q hq => h q (List.mem_cons_of_mem (a := q) p hq)
    omega
theorem prod_few : ∀ u ≤ 60, (61 - u) * u ≤ 930 := by decide
theorem CB.sum {w : List Nat} {s : CS} (b : CB w s) (i : CI w s) (z : w.length ≤ 60) : sumL s.ls ≤ 930 ∧ s.ls.length ≤ 30 := by
  obtain ⟨d, u, h1, h2, h3, h4⟩ := b.few
  have h5 : s.ls.length ≤ 61 - u := by
    split at h2 <;> omega
  have h6 := sumL_le (n := u) fun p hp => h4 p ((i.leaf p).mp hp).1
  exact ⟨Nat.le_trans h6 (Nat.le_trans (Nat.mul_le_mul_right u h5) (prod_few u (by omega))), by omega⟩
theorem on_known {w : List Nat} {c : Nat} (h : WalkM.on (RowM.plain w) c ∈ gone w) : gone (w ++ [c]) = gone w := by
  rw [WalkM.gone_snoc, WalkM.addK, if_pos h]
theorem on_new {w : List Nat} {c : Nat} (h : WalkM.on (RowM.plain w) c ∉ gone w) : gone (w ++ [c]) = gone w ++ [WalkM.on (RowM.plain w) c] := by
  rw [WalkM.gone_snoc, WalkM.addK, if_neg h]
theorem leaf_perm {ks ls ms : List (List Nat)} (h : LeafT ks ls) (p : ls.Perm ms) : LeafT ks ms := fun q => p.mem_iff.symm.trans (h q)
theorem go_ci {w : List Nat} {c : Nat} {s : CS} (rw_ : Row w) (hc : c ∈ sgns) (i : CI w s) : CI (w ++ [c]) (goOn s c) := by
  have T := WalkM.tree_gone rw_
  have rls : ∀ p ∈ s.ls, Row p := fun p hp => (T.pr p ((i.leaf p).mp hp).1).1
  unfold goOn
  by_cases h1 : s.e.getLast? = some (con c)
  · rw [if_pos h1]
    have eon : WalkM.on (RowM.plain w) c = s.e.dropLast := by
      unfold WalkM.on
      rw [← i.e, if_pos h1]
    have ne : s.e ≠ [] := fun h => by rw [h] at h1; cases h1
    have eg : s.e ∈ gone w := by rw [i.e]; exact WalkM.end_gone w
    have hk : WalkM.on (RowM.plain w) c ∈ gone w := by rw [eon]; exact T.cl _ eg ne
    obtain ⟨hm, _⟩ := leafOf_mem rw_ i.leaf eg ne
    obtain ⟨o1, o2⟩ := toE_ord hm i.ord
    refine ⟨by rw [on_known hk]; exact i.ks, by rw [WalkM.plain_snoc]; exact eon.symm, ?_, ?_⟩
    · exact ordL_ord (rls _ hm) (by rw [List.reverse_reverse]; exact o1) fun q hq => ⟨rls q (o2 q (List.mem_reverse.mp hq)).1, (o2 q (List.mem_reverse.mp hq)).2⟩
    · rw [on_known hk]
      refine leaf_perm i.leaf ((toE_perm hm).trans ?_)
      have := ordL_perm (leafOf s.ls s.e) (toE s.ls (leafOf s.ls s.e)).reverse
      rw [List.reverse_reverse] at this
      exact this.symm
  rw [if_neg h1]
  have eon : WalkM.on (RowM.plain w) c = s.e ++ [c] := by
    unfold WalkM.on
    rw [← i.e, if_neg h1]
  by_cases h2 : s.e ++ [c] ∈ s.ks
  · rw [if_pos h2]
    have hk : WalkM.on (RowM.plain w) c ∈ gone w := by rw [eon, ← i.ks]; exact h2
    exact ⟨by rw [on_known hk]; exact i.ks, by rw [WalkM.plain_snoc]; exact eon.symm, i.ord, by rw [on_known hk]; exact i.leaf⟩
  rw [if_neg h2]
  have hk : WalkM.on (RowM.plain w) c ∉ gone w := by rw [eon, ← i.ks]; exact h2
  have T2 := WalkM.tree_gone (l := w ++ [c]) (row_app rw_ fun d hd => by rw [List.mem_singleton.mp hd]; exact hc)
  have eg := on_new hk
  rw [eon] at hk eg
  have pg : s.e ++ [c] ∈ gone (w ++ [c]) := by rw [eg]; simp
  have rp : Row (s.e ++ [c]) := (T2.pr _ pg).1
  obtain ⟨M, eM⟩ : ∃ M, M = if s.e ∈ s.ls then toE s.ls s.e else s.ls := ⟨_, rfl⟩
  rw [← eM]
  have mM : ∀ q, q ∈ M ↔ q ∈ s.ls ∧ q ≠ s.e := fun q => by
    rw [eM]
    split
    · rename_i hm
      refine ⟨(toE_ord hm i.ord).2 q, fun h => ?_⟩
      rcases List.mem_append.mp ((toE_perm hm).mem_iff.mp h.1) with h' | h'
      · exact h'
      · exact absurd (List.mem_singleton.mp h') h.2
    · rename_i hm
      exact ⟨fun h => ⟨h, fun e => hm (e ▸ h)⟩, fun h => h.1⟩
  have oM : InOrd M := by
    rw [eM]
    split
    · rename_i hm
      exact (toE_ord hm i.ord).1
    · exact i.ord
  refine ⟨by rw [eg, i.ks], by rw [WalkM.plain_snoc]; exact eon.symm, ?_, fun p => ?_⟩
  · refine ordL_ord rp (by rw [List.reverse_reverse]; exact oM) fun q hq => ?_
    have hq := ((mM q).mp (List.mem_reverse.mp hq)).1
    exact ⟨rls q hq, fun e => hk (e ▸ ((i.leaf q).mp hq).1)⟩
  · have hp := (ordL_perm (s.e ++ [c]) M.reverse).mem_iff (a := p)
    rw [List.reverse_reverse] at hp
    refine hp.trans ?_
    rw [List.mem_append, List.mem_singleton, mM, i.leaf, eg]
    have noext : ∀ d, (s.e ++ [c]) ++ [d] ∉ gone w := fun d h => hk (by
      have := T.cl _ h (by simp)
      rwa [List.dropLast_concat] at this)
    constructor
    · rintro (⟨⟨a1, a2, a3⟩, a4⟩ | rfl)
      · refine ⟨List.mem_append_left _ a1, a2, fun d hd h => ?_⟩
        rcases List.mem_append.mp h with h | h
        · exact a3 d hd h
        · have := List.mem_singleton.mp h
          exact a4 (List.append_inj' this rfl).1
      · refine ⟨by simp, by simp, fun d hd h => ?_⟩
        rcases List.mem_append.mp h with h | h
        · exact noext d h
        · have := congrArg List.length (List.mem_singleton.mp h)
          simp at this
    · rintro ⟨a1, a2, a3⟩
      rcases List.mem_append.mp a1 with a1 | a1
      · refine .inl ⟨⟨a1, a2, fun d hd h => a3 d hd (List.mem_append_left _ h)⟩, fun e => ?_⟩
        subst e
        exact a3 c hc (by simp)
      · exact .inr (List.mem_singleton.mp a1)
/-- what one sign brings -/
theorem go_run {w : List Nat} {c : Nat} {s : CS} (rw_ : Row w) (hc : c ∈ sgns) (i : CI w s) (b : CB w s) (z : w.length < 60) :
    ∃ ns, (goOn s c).ss = s.ss ++ ns ∧ ns.length ≤ 61 ∧ (∀ st ∈ ns, st.ok) ∧ ∀ rest, rest.length ≤ 60 → run (rnd s.ls ++ (s.e ++ ([c] ++ rest))) ns = some (rnd (goOn s c).ls ++ ((goOn s c).e ++ rest)) := by
  have T := WalkM.tree_gone rw_
  obtain ⟨zs, zl⟩ := b.sum i (by omega)
  have eg : s.e ∈ gone w := by rw [i.e]; exact WalkM.end_gone w
  have ze := WalkM.gone_small w _ eg
  have nn : ∀ q ∈ s.ls, q ≠ [] := fun q hq => ((i.leaf q).mp hq).2.1
  unfold goOn
  by_cases h1 : s.e.getLast? = some (con c)
  · rw [if_pos h1]
    have ne : s.e ≠ [] := fun h => by rw [h] at h1; cases h1
    obtain ⟨hm, ht⟩ := leafOf_mem rw_ i.leaf eg ne
    obtain ⟨e', x, ee⟩ : ∃ e' x, s.e = e' ++ [x] := ⟨_, _, (List.dropLast_concat_getLast ne).symm⟩
    have hx : x = con c := by
      rw [ee] at h1
      simpa using h1
    have re : Row e' := fun d hd => (T.pr _ eg).1 d (by rw [ee]; exact List.mem_append_left _ hd)
    refine ⟨fallS s.ls s.e, rfl, ?_, ?_, fun rest zr => ?_⟩
    · obtain ⟨l1, l2⟩ := toES_len hm
      have l3 := ordS_len (leafOf s.ls s.e) (toE s.ls (leafOf s.ls s.e)).reverse
      rw [List.length_reverse] at l3
      unfold fallS
      dsimp only
      rw [List.length_append, List.length_append, List.length_append]
      have l4 : ∀ (P : Prop) [Decidable P] (x : StepD), (if P then [x] else []).length ≤ 1 := fun P _ x => by split <;> simp
      have l5 := l4 (0 < s.e.length - 1) (StepD.past (2 * sumL s.ls - (s.e.length - 1)) (s.e.length - 1) 1)
      simp only [List.length_append, List.length_singleton]
      generalize (if 0 < s.e.length - 1 then [StepD.past (2 * sumL s.ls - (s.e.length - 1)) (s.e.length - 1) 1] else []).length = n5 at l5 ⊢
      omega
    · intro st hst
      unfold fallS at hst
      rcases List.mem_append.mp hst with h | h
      · exact toES_ok hm nn st h
      rcases List.mem_append.mp h with h | h
      · split at h
        · rename_i h0
          rw [List.mem_singleton.mp h]
          exact ⟨⟨h0, Nat.zero_le _⟩, by decide, by decide⟩
        · cases h
      rcases List.mem_append.mp h with h | h
      · rw [List.mem_singleton.mp h]
        exact ⟨by decide, by decide⟩
      · exact ordS_ok (nn _ hm) _ (fun q hq => nn q (toE_sub hm q (List.mem_reverse.mp hq))) st h
    · obtain ⟨q, eq⟩ : ∃ q, leafOf s.ls s.e = s.e ++ q := ⟨(leafOf s.ls s.e).drop s.e.length, by conv => lhs; rw [← List.take_append_drop s.e.length (leafOf s.ls s.e), ht]⟩
      rw [ee, List.append_assoc] at eq
      rw [ee] at hm ze ⊢
      have ze' : e'.length ≤ 60 := by
        rw [List.length_append] at ze
        omega
      have := fall_run (ls := s.ls) (rest := rest) hc hx re eq hm (by omega)
      rw [List.dropLast_concat, List.append_assoc]
      exact this
  rw [if_neg h1]
  by_cases h2 : s.e ++ [c] ∈ s.ks
  · rw [if_pos h2]
    exact ⟨[], (List.append_nil _).symm, Nat.zero_le _, (fun _ h => nomatch h), fun rest _ => by rw [run_nil, List.append_assoc]⟩
  rw [if_neg h2]
  refine ⟨growS s.ls s.e (s.e ++ [c]), rfl, ?_, ?_, fun rest zr => ?_⟩
  · unfold growS
    split
    · rename_i hm
      obtain ⟨l1, l2⟩ := toES_len hm
      have l3 := ordS_len (s.e ++ [c]) (toE s.ls s.e).reverse
      rw [List.length_reverse] at l3
      simp only [List.length_append, List.length_singleton]
      omega
    · have l3 := ordS_len (s.e ++ [c]) s.ls.reverse
      rw [List.length_reverse] at l3
      rw [List.length_append]
      simp only [List.length_singleton]
      omega
  · intro st hst
    have np : s.e ++ [c] ≠ [] := by simp
    unfold growS at hst
    split at hst
    · rename_i hm
      rcases List.mem_append.mp hst with h | h
      · exact toES_ok hm nn st h
      rcases List.mem_append.mp h with h | h
      · rw [List.mem_singleton.mp h]
        exact ⟨List.length_pos_iff.mpr np, Nat.zero_le _⟩
      rcases List.mem_append.mp h with h | h
      · rw [List.mem_singleton.mp h]
        exact ⟨List.length_pos_iff.mpr (nn _ hm), Nat.zero_le _⟩
      · exact ordS_ok np _ (fun q hq => nn q (toE_sub hm q (List.mem_reverse.mp hq))) st h
    · rcases List.mem_append.mp hst with h | h
      · rw [List.mem_singleton.mp h]
        exact ⟨List.length_pos_iff.mpr np, Nat.zero_le _⟩
      · exact ordS_ok np _ (fun q hq => nn q (List.mem_reverse.mp hq)) st h
  · have := grow_run (ls := s.ls) (e := s.e) (rest := rest) (c := c) (by omega)
    rw [List.append_assoc] at this
    rw [List.append_assoc]
    exact this
theorem go_cb {w : List Nat} {c : Nat} {s : CS} (rw_ : Row w) (hc : c ∈ sgns) (i : CI w s) (b : CB w s) (z : w.length < 60) : CB (w ++ [c]) (goOn s c) := by
  have i2 := go_ci rw_ hc i
  obtain ⟨ns, e1, z1, o1, _⟩ := go_run rw_ hc i b z
  have T := WalkM.tree_gone rw_
  have eg : s.e ∈ gone w := by rw [i.e]; exact WalkM.end_gone w
  refine ⟨?_, ?_, fun st hst => ?_⟩
  · obtain ⟨d, u, h1, h2, h3, h4⟩ := b.few
    have zw : (w ++ [c]).length = w.length + 1 := by rw [List.length_append, List.length_singleton]
    by_cases g1 : s.e.getLast? = some (con c)
    · have ne : s.e ≠ [] := fun h => by rw [h] at g1; cases g1
      obtain ⟨hm, _⟩ := leafOf_mem rw_ i.leaf eg ne
      have el : (goOn s c).ls.length = s.ls.length := by
        unfold goOn
        rw [if_pos g1]
        have p1 := (ordL_perm (leafOf s.ls s.e) (toE s.ls (leafOf s.ls s.e)).reverse).length_eq
        rw [List.reverse_reverse] at p1
        rw [show (CS.mk s.ks (ordL (toE s.ls (leafOf s.ls s.e)).reverse (leafOf s.ls s.e)) s.e.dropLast (s.ss ++ fallS s.ls s.e)).ls = ordL (toE s.ls (leafOf s.ls s.e)).reverse (leafOf s.ls s.e) from rfl, p1]
        exact (toE_perm hm).length_eq.symm
      have ek : gone (w ++ [c]) = gone w := on_known (by
        unfold WalkM.on
        rw [← i.e, if_pos g1]
        exact T.cl _ eg ne)
      refine ⟨d + 1, u, by omega, ?_, by omega, by rw [ek]; exact h4⟩
      rw [el]
      split at h2 <;> split <;> omega
    by_cases g2 : s.e ++ [c] ∈ s.ks
    · have el : goOn s c = ⟨s.ks, s.ls, s.e ++ [c], s.ss⟩ := by
        unfold goOn
        rw [if_neg g1, if_pos g2]
      have ne : s.e ∉ s.ls := fun h => ((i.leaf _).mp h).2.2 c hc (by rw [← i.ks]; exact g2)
      rw [if_neg ne] at h2
      have ek : gone (w ++ [c]) = gone w := on_known (by
        unfold WalkM.on
        rw [← i.e, if_neg g1, ← i.ks]
        exact g2)
      refine ⟨d, u + 1, by omega, ?_, ?_, by rw [ek]; exact fun p hp => Nat.le_succ_of_le (h4 p hp)⟩
      · rw [el]
        show s.ls.length ≤ _
        omega
      · rw [el]
        show s.ls.length ≤ _
        omega
    · have el : goOn s c = ⟨s.ks ++ [s.e ++ [c]], ordL (if s.e ∈ s.ls then toE s.ls s.e else s.ls).reverse (s.e ++ [c]), s.e ++ [c], s.ss ++ growS s.ls s.e (s.e ++ [c])⟩ := by
        unfold goOn
        rw [if_neg g1, if_neg g2]
      have eon : WalkM.on (RowM.plain w) c = s.e ++ [c] := by
        unfold WalkM.on
        rw [← i.e, if_neg g1]
      have ek := on_new (w := w) (c := c) (by rw [eon, ← i.ks]; exact g2)
      rw [eon] at ek
      have p1 := ordL_perm (s.e ++ [c]) (if s.e ∈ s.ls then toE s.ls s.e else s.ls).reverse
      rw [List.reverse_reverse] at p1
      have hin : s.e ++ [c] ∈ ordL (if s.e ∈ s.ls then toE s.ls s.e else s.ls).reverse (s.e ++ [c]) := p1.mem_iff.mpr (by simp)
      have ll : (goOn s c).ls.length ≤ d + 1 ∧ (goOn s c).ls.length ≤ u + 1 := by
        rw [el]
        show (ordL _ _).length ≤ _ ∧ (ordL _ _).length ≤ _
        rw [p1.length_eq, List.length_append, List.length_singleton]
        by_cases hm : s.e ∈ s.ls
        · rw [if_pos hm] at h2 ⊢
          have := (toES_len hm).2
          omega
        · rw [if_neg hm] at h2 ⊢
          omega
      refine ⟨d, u + 1, by omega, ?_, ll.2, fun p hp => ?_⟩
      · have : (goOn s c).e ∈ (goOn s c).ls := by rw [el]; exact hin
        rw [if_pos this]
        exact ll.1
      · rw [ek] at hp
        rcases List.mem_append.mp hp with hp | hp
        · exact Nat.le_succ_of_le (h4 p hp)
        · rw [List.mem_singleton.mp hp, List.length_append, List.length_singleton]
          exact Nat.succ_le_succ (h4 _ eg)
  · rw [e1, List.length_append, List.length_append, List.length_singleton]
    have := b.many
    omega
  · rw [e1] at hst
    rcases List.mem_append.mp hst with h | h
    · exact b.ok st h
    · exact o1 st h
theorem canon_all (w : List Nat) : Row w → w.length ≤ 60 → CI w (canon w) ∧ CB w (canon w) ∧ ∀ rest, w.length + rest.length ≤ 60 → run (w ++ rest) (canon w).ss = some (rnd (canon w).ls ++ ((canon w).e ++ rest)) := by
  refine WalkM.snoc_ind (P := fun w => Row w → w.length ≤ 60 → CI w (canon w) ∧ CB w (canon w) ∧ ∀ rest, w.length + rest.length ≤ 60 → run (w ++ rest) (canon w).ss = some (rnd (canon w).ls ++ ((canon w).e ++ rest))) (fun _ _ => ?_) (fun w c ih r z => ?_) w
  · refine ⟨⟨rfl, rfl, List.Pairwise.nil, fun p => ⟨(fun h => nomatch h), fun h => ?_⟩⟩, ⟨⟨0, 0, rfl, by decide, by decide, fun p hp => ?_⟩, by decide, (fun _ h => nomatch h)⟩, fun rest _ => rfl⟩
    · have h1 := h.1
      rw [WalkM.gone_nil] at h1
      exact absurd (List.mem_singleton.mp h1) h.2.1
    · rw [WalkM.gone_nil] at hp
      rw [List.mem_singleton.mp hp]
      exact Nat.le_refl _
  · obtain ⟨rw_, rc⟩ := row_split r
    have hc : c ∈ sgns := rc c (by simp)
    rw [List.length_append, List.length_singleton] at z
    obtain ⟨i, b, h⟩ := ih rw_ (by omega)
    rw [canon_snoc]
    refine ⟨go_ci rw_ hc i, go_cb rw_ hc i b (by omega), fun rest zr => ?_⟩
    obtain ⟨ns, e1, _, _, h2⟩ := go_run rw_ hc i b (by omega)
    rw [List.length_append, List.length_singleton] at zr
    rw [e1, List.append_assoc]
    exact run_two (h ([c] ++ rest) (by rw [List.length_append, List.length_singleton]; omega)) (h2 rest (by omega))
/-! ### chains -/
theorem run_undo : ∀ {ss : List StepD} {t u : List Nat}, run t ss = some u → (∀ s ∈ ss, s.ok) → t.length ≤ 4000 → run u (ss.reverse.map StepD.undo) = some t
  | [], t, u, h, _, _ => by
    injection h with h
    rw [h]
    rfl
  | s :: r, t, u, h, ho, z => by
    obtain ⟨v, hv, h⟩ := Option.bind_eq_some_iff.mp (show (doX t (some s)).bind (fun u => run u r) = some u from h)
    cases hd : doR t s with
    | none =>
      rw [doX_none hd] at hv
      cases hv
    | some v' =>
      rw [doX_some hd] at hv
      split at hv
      · rename_i zv
        injection hv with hv
        subst hv
        have h1 := run_undo h (fun s hs => ho s (List.mem_cons_of_mem _ hs)) zv
        rw [List.reverse_cons, List.map_append]
        refine run_two h1 ?_
        exact run_cons (step_undo (ho s List.mem_cons_self) hd) z []
      · cases hv
def chainS (l m : List Nat) : List StepD := (canon l).ss ++ (canon m).ss.reverse.map StepD.undo
theorem undo_ok' {s : StepD} (h : s.ok) : s.undo.ok := by
  cases s with
  | less a m => exact h
  | more a m => exact h
  | past a m k => exact ⟨h.2, h.1⟩
theorem chain_ok {l m : List Nat} (rl : Row l) (rm : Row m) (zl : l.length ≤ 60) (zm : m.length ≤ 60) : (∀ s ∈ chainS l m, s.ok) ∧ (chainS l m).length ≤ 7320 := by
  obtain ⟨_, b1, _⟩ := canon_all l rl zl
  obtain ⟨_, b2, _⟩ := canon_all m rm zm
  refine ⟨fun s hs => ?_, ?_⟩
  · rcases List.mem_append.mp hs with h | h
    · exact b1.ok s h
    · obtain ⟨s', h', rfl⟩ := List.mem_map.mp h
      exact undo_ok' (b2.ok s' (List.mem_reverse.mp h'))
  · unfold chainS
    rw [List.length_append, List.length_map, List.length_reverse]
    have := b1.many
    have := b2.many
    omega
theorem chain_run {l m : List Nat} (rl : Row l) (rm : Row m) (zl : l.length ≤ 60) (zm : m.length ≤ 60) (h : sameR l m = true) : run l (chainS l m) = some m := by
  obtain ⟨i1, b1, h1⟩ := canon_all l rl zl
  obtain ⟨i2, b2, h2⟩ := canon_all m rm zm
  have g1 := h1 [] (by simpa using zl)
  have g2 := h2 [] (by simpa using zm)
  rw [List.append_nil, List.append_nil] at g1 g2
  obtain ⟨e1, e2⟩ := (sameR_iff rl rm).mp h
  have el : (canon l).ls = (canon m).ls := ord_uniq i1.ord i2.ord fun p => by
    rw [i1.leaf, i2.leaf, e2]
    refine and_congr Iff.rfl (and_congr Iff.rfl ⟨fun h c hc x => h c hc ((e2 _).mpr x), fun h c hc x => h c hc ((e2 _).mp x)⟩)
  have ee : (canon l).e = (canon m).e := by rw [i1.e, i2.e, e1]
  refine run_two g1 ?_
  rw [el, ee]
  exact run_undo g2 b2.ok (by omega)
/-! ### a Canon in the store -/
def OffS (ex : List Addr) (H H' : Hp) : Prop := ∀ b o, b ∉ ex → H b = some o → H' b = some o
theorem OffS.refl (ex : List Addr) (H : Hp) : OffS ex H H := fun _ _ _ h => h
theorem OffS.trans {ex : List Addr} {H H1 H2 : Hp} (a : OffS ex H H1) (b : OffS ex H1 H2) : OffS ex H H2 := fun x o n h => b x o n (a x o n h)
theorem OffS.of {ex : List Addr} {H H' : Hp} (s : Same H H') : OffS ex H H' := fun b o _ h => s b o h
theorem OffS.upd {ex : List Addr} {H H' : Hp} {b : Addr} {o : HO} (s : OffS ex H H') (hb : b ∈ ex) : OffS ex H (L2.upd H' b o) := fun x u n h => by
  rw [upd_ne (fun e => n (by rw [e]; exact hb))]
  exact s x u n h
theorem OffS.mono {ex ex' : List Addr} {H H' : Hp} (s : OffS ex H H') (h : ∀ b ∈ ex, b ∈ ex') : OffS ex' H H' := fun x o n hx => s x o (fun m => n (h x m)) hx
def cnF (e : List Nat) (dk dl ds : Addr) : List (Str × V) := [(Str.ofString "own_known", .ref dk), (Str.ofString "own_leaves", .ref dl), (Str.ofString "own_end", .str (S e)), (Str.ofString "own_steps", .ref ds)]
structure CanAt (C : Addr) (H : Hp) (x dk dl ds : Addr) (s : CS) : Prop where
  ob : ∃ dx, H x = some (.ins C dx (cnF s.e dk dl ds))
  kn : H dk = some (.dK (kvT s.ks))
  lv : H dl = some (.lst (s.ls.map sT))
  st : ∃ ts, H ds = some (.lst (ts.map V.ref)) ∧ TL H StepD.vals ts s.ss
  ne : dl ≠ ds
section
variable {C : Addr} {H H' : Hp} {x dk dl ds : Addr} {s : CS}
theorem CanAt.same (h : CanAt C H x dk dl ds s) (f : Same H H') : CanAt C H' x dk dl ds s :=
  ⟨let ⟨dx, g⟩ := h.ob; ⟨dx, f _ _ g⟩, f _ _ h.kn, f _ _ h.lv, let ⟨ts, a, b⟩ := h.st; ⟨ts, f _ _ a, b.mono f⟩, h.ne⟩
theorem CanAt.nxk (h : CanAt C H x dk dl ds s) : x ≠ dk := fun q => by
  obtain ⟨dx, g⟩ := h.ob
  rw [q, h.kn] at g
  cases g
theorem CanAt.nxl (h : CanAt C H x dk dl ds s) : x ≠ dl := fun q => by
  obtain ⟨dx, g⟩ := h.ob
  rw [q, h.lv] at g
  cases g
theorem CanAt.nxs (h : CanAt C H x dk dl ds s) : x ≠ ds := fun q => by
  obtain ⟨dx, g⟩ := h.ob
  obtain ⟨ts, a, _⟩ := h.st
  rw [q, a] at g
  cases g
theorem CanAt.nkl (h : CanAt C H x dk dl ds s) : dk ≠ dl := fun q => by
  have g := h.kn
  rw [q, h.lv] at g
  cases g
theorem CanAt.nks (h : CanAt C H x dk dl ds s) : dk ≠ ds := fun q => by
  have g := h.kn
  obtain ⟨ts, a, _⟩ := h.st
  rw [q, a] at g
  cases g
/-- steps stand when something else than a tuple is put -/
theorem TL.keep {α : Type} {val : α → List V} {H : Hp} {ts : List Addr} {xs : List α} {d : Addr} {o u : HO} (tl : TL H val ts xs) (hd : H d = some u) (nt : ∀ vs, u ≠ .tup vs) : TL (upd H d o) val ts xs := ⟨tl.len, fun i t hi => by
  obtain ⟨y, a, b⟩ := tl.get i t hi
  refine ⟨y, a, ?_⟩
  rw [upd_ne (fun z => by
    rw [z, hd] at b
    injection b with b
    exact nt _ b)]
  exact b⟩
theorem CanAt.putL (h : CanAt C H x dk dl ds s) (ls' : List (List Nat)) : CanAt C (upd H dl (.lst (ls'.map sT))) x dk dl ds { s with ls := ls' } := by
  obtain ⟨dx, g⟩ := h.ob
  obtain ⟨ts, a, b⟩ := h.st
  exact ⟨⟨dx, (upd_ne h.nxl).trans g⟩, (upd_ne h.nkl).trans h.kn, upd_same, ⟨ts, (upd_ne (Ne.symm h.ne)).trans a, b.keep h.lv (fun _ e => nomatch e)⟩, h.ne⟩
theorem CanAt.putE (h : CanAt C H x dk dl ds s) {dx : Addr} (g : H x = some (.ins C dx (cnF s.e dk dl ds))) (e' : List Nat) : CanAt C (upd H x (.ins C dx (cnF e' dk dl ds))) x dk dl ds { s with e := e' } := by
  obtain ⟨ts, a, b⟩ := h.st
  exact ⟨⟨dx, upd_same⟩, (upd_ne (Ne.symm h.nxk)).trans h.kn, (upd_ne (Ne.symm h.nxl)).trans h.lv, ⟨ts, (upd_ne (Ne.symm h.nxs)).trans a, b.keep g (fun _ e => nomatch e)⟩, h.ne⟩
theorem CanAt.putK (h : CanAt C H x dk dl ds s) (ks' : List (List Nat)) : CanAt C (upd H dk (.dK (kvT ks'))) x dk dl ds { s with ks := ks' } := by
  obtain ⟨dx, g⟩ := h.ob
  obtain ⟨ts, a, b⟩ := h.st
  exact ⟨⟨dx, (upd_ne h.nxk).trans g⟩, upd_same, (upd_ne (Ne.symm h.nkl)).trans h.lv, ⟨ts, (upd_ne (Ne.symm h.nks)).trans a, b.keep h.kn (fun _ e => nomatch e)⟩, h.ne⟩
theorem CanAt.putS (h : CanAt C H x dk dl ds s) {ts : List Addr} {u : Addr} {st : StepD} (g : H ds = some (.lst (ts.map V.ref))) (tl : TL H StepD.vals ts s.ss) (gu : H u = some (.tup st.vals)) : CanAt C (upd H ds (.lst (ts.map V.ref ++ [V.ref u]))) x dk dl ds { s with ss := s.ss ++ [st] } := by
  obtain ⟨dx, o⟩ := h.ob
  exact ⟨⟨dx, (upd_ne h.nxs).trans o⟩, (upd_ne h.nks).trans h.kn, (upd_ne h.ne).trans h.lv, ⟨ts ++ [u], by rw [upd_same, List.map_append]; rfl, TL.add g tl gu⟩, h.ne⟩
end
/-- what a Canon may change -/
abbrev cx4 (x dk dl ds : Addr) : List Addr := [x, dk, dl, ds]
theorem take_app (A : List (List Nat)) (r : List (List Nat)) : (A ++ r).take A.length = A := by simp
theorem sum_len (ls : List (List Nat)) : (ls.map fun p => (p.length : Int)).sum = (sumL ls : Int) := by
  induction ls with
  | nil => rfl
  | cons p r ih =>
    rw [List.map_cons, List.sum_cons, ih, sumL_cons]
    omega
theorem cut_two_at (A : List V) (p q : V) (B : List V) : cutV (A ++ p :: q :: B) (some (A.length : Int)) (some ((A.length : Int) + 2)) = [p, q] := by
  have e : (A.length : Int) + 2 = ((A.length + 2 : Nat) : Int) := by omega
  unfold cutV
  rw [e, HT.sIx_nat, HT.sIx_nat, List.length_append, List.length_cons, List.length_cons, Nat.min_eq_left (by omega), Nat.min_eq_left (by omega), List.drop_left, show A.length + 2 - A.length = 2 by omega]
  rfl
theorem put_two_at (A : List V) (p q : V) (B : List V) : (A ++ p :: q :: B).take (A.length : Int).toNat ++ [q, p] ++ (A ++ p :: q :: B).drop ((A.length : Int) + 2).toNat = A ++ q :: p :: B := by
  have e : ((A.length : Int) + 2).toNat = A.length + 2 := by omega
  rw [e, Int.toNat_natCast, List.take_left, ← List.drop_drop, List.drop_left]
  simp
theorem CanAt.addS {C : Addr} {H : Hp} {x dk dl ds u : Addr} {s : CS} (h : CanAt C H x dk dl ds s) (hu : H u = none) (st : StepD) : ∃ ts : List Addr, ts.length = s.ss.length ∧ (upd H u (.tup st.vals)) ds = some (.lst (ts.map V.ref)) ∧
    CanAt C (upd (upd H u (.tup st.vals)) ds (.lst (ts.map V.ref ++ [V.ref u]))) x dk dl ds { s with ss := s.ss ++ [st] } ∧ OffS (cx4 x dk dl ds) H (upd (upd H u (.tup st.vals)) ds (.lst (ts.map V.ref ++ [V.ref u]))) := by
  have su := Same.new (o := .tup st.vals) hu
  have h2 := h.same su
  obtain ⟨ts, g, tl⟩ := h2.st
  exact ⟨ts, tl.len, g, h2.putS g tl upd_same, (OffS.of su).upd (by simp)⟩
theorem CanAt.lstS {C : Addr} {H : Hp} {x dk dl ds : Addr} {s : CS} (h : CanAt C H x dk dl ds s) : ∃ xs, H ds = some (.lst xs) := let ⟨_, g, _⟩ := h.st; ⟨_, g⟩
theorem CanAt.to {C : Addr} {H : Hp} {x dk dl ds : Addr} {s s' : CS} (h : CanAt C H x dk dl ds s) (e : s = s') : CanAt C H x dk dl ds s' := e ▸ h
theorem lt_size {a b : Nat} (h : a ≤ b) (hb : b ≤ 200000) : a < sizeLine := Nat.lt_of_le_of_lt h (Nat.lt_of_le_of_lt hb (by decide))
theorem starts_take {l e : List Nat} : Txt.startswith (S l) (S e) = decide (l.take e.length = e) := by
  have h := starts3_S (e := l) (q := e) (i := 0) (Nat.zero_le _)
  rw [List.drop_zero] at h
  exact h
theorem same_offs {ex : List Addr} {H H1 H2 : Hp} (s : Same H H1) (o : OffS ex H1 H2) (f : ∀ b ∈ ex, H b = none) : Same H H2 := fun b u h => o b u (fun m => by rw [f b m] at h; cases h) (s b u h)
/-- what a making of up to sixty signs keeps to -/
theorem canon_small {w : List Nat} {s : CS} (rw_ : Row w) (i : CI w s) (b : CB w s) (z : w.length ≤ 60) :
    s.ls.length ≤ 800 ∧ (∀ p ∈ s.ls, p.length ≤ 800) ∧ s.ss.length ≤ 80000 ∧ (∀ q ∈ s.ls, Row q) ∧ s.ls.Nodup ∧ s.ks.length ≤ 1000 ∧ s.e.length ≤ 700 ∧ s.e ∈ gone w := by
  have T := WalkM.tree_gone rw_
  have eg : s.e ∈ gone w := by rw [i.e]; exact WalkM.end_gone w
  refine ⟨Nat.le_trans (b.sum i z).2 (by decide), fun p hp => ?_, ?_, fun q hq => (T.pr q ((i.leaf q).mp hq).1).1, ord_nodup i.ord, ?_, ?_, eg⟩
  · have := WalkM.gone_small w p ((i.leaf p).mp hp).1
    omega
  · have := b.many
    omega
  · have := WalkM.gone_length w
    rw [i.ks]
    omega
  · have := WalkM.gone_small w _ eg
    omega
theorem TL.rev {α : Type} {val : α → List V} {H : Hp} {ts : List Addr} {xs : List α} (h : TL H val ts xs) : TL H val ts.reverse xs.reverse := ⟨by rw [List.length_reverse, List.length_reverse, h.len], fun i t hi => by
  have il : i < ts.length := by
    have := (List.getElem?_eq_some_iff.mp hi).1
    rwa [List.length_reverse] at this
  rw [List.getElem?_reverse il] at hi
  obtain ⟨x, a, b⟩ := h.get _ t hi
  refine ⟨x, ?_, b⟩
  rw [List.getElem?_reverse (by rw [← h.len]; exact il), ← h.len]
  exact a⟩
theorem TL.cat {α : Type} {val : α → List V} {H : Hp} {ts us : List Addr} {xs ys : List α} (h : TL H val ts xs) (g : TL H val us ys) : TL H val (ts ++ us) (xs ++ ys) := ⟨by rw [List.length_append, List.length_append, h.len, g.len], fun i t hi => by
  by_cases q : i < ts.length
  · rw [List.getElem?_append_left q] at hi
    obtain ⟨x, a, b⟩ := h.get i t hi
    exact ⟨x, by rw [List.getElem?_append_left (by rw [← h.len]; exact q)]; exact a, b⟩
  · rw [List.getElem?_append_right (by omega)] at hi
    obtain ⟨x, a, b⟩ := g.get _ t hi
    exact ⟨x, by rw [List.getElem?_append_right (by rw [← h.len]; omega), ← h.len]; exact a, b⟩⟩
/-! ### a chain or a world -/
theorem within_iff {l m : List Nat} : within l m = true ↔ ∀ p ∈ gone l, p ∈ gone m := by
  unfold within
  rw [List.all_eq_true]
  exact ⟨fun h p hp => by simpa using h p hp, fun h p hp => by simpa using h p hp⟩
theorem walk_led {l m : List Nat} {kvs : Kvs} (rl : Row l) (rm : Row m) (zm : m.length ≤ 60) (h : TreeW (srt (gone m)) kvs) : (within l m = true → ∃ j, ledW kvs l (some 0) = some j) ∧ (within l m = false → ledW kvs l (some 0) = none) := by
  have o := ord_srt (treeS_gone rm zm)
  have lt := fun j => led_tree o.t.t (ord_nil o) h rl j
  constructor
  · intro hw
    have hs := within_iff.mp hw
    obtain ⟨b, hb⟩ := List.getElem?_of_mem (WalkM.srt_mem.mpr (hs _ (WalkM.end_gone l)))
    exact ⟨_, (lt b).mpr ⟨fun p hp => WalkM.srt_mem.mpr (hs p hp), b, rfl, hb⟩⟩
  · intro hw
    cases e : ledW kvs l (some 0) with
    | none => rfl
    | some j =>
      have := within_iff.mpr fun p hp => WalkM.srt_mem.mp (((lt j).mp e).1 p hp)
      rw [hw] at this
      cases this
theorem unlike_led {l m x : List Nat} {kvs : Kvs} (rl : Row l) (rm : Row m) (zl : l.length ≤ 60) (zm : m.length ≤ 60) (hn : sameR l m = false) (hx : x = m ∧ within l m = false ∨ x = l ∧ within l m = true) (h : TreeW (srt (gone x)) kvs) : ledW kvs l (some 0) ≠ ledW kvs m (some 0) := by
  rcases hx with ⟨rfl, hw⟩ | ⟨rfl, hw⟩
  · intro e
    rw [(walk_led rl rm zm h).2 hw] at e
    obtain ⟨j, ej⟩ := (walk_led rm rm zm h).1 (within_iff.mpr fun _ hp => hp)
    rw [ej] at e
    cases e
  · intro e
    obtain ⟨j, ej⟩ := (walk_led rl rl zl h).1 (within_iff.mpr fun _ hp => hp)
    have o := ord_srt (treeS_gone rl zl)
    rw [ej] at e
    obtain ⟨_, b, hb, pb⟩ := (led_tree o.t.t (ord_nil o) h rl j).mp ej
    obtain ⟨g, b2, hb2, pb2⟩ := (led_tree o.t.t (ord_nil o) h rm j).mp e.symm
    have eb : b = b2 := by omega
    subst eb
    rw [pb] at pb2
    injection pb2 with ep
    have : sameR x m = true := (sameR_iff rl rm).mpr ⟨ep, fun p => ⟨within_iff.mp hw p, fun hp => WalkM.srt_mem.mp (g p hp)⟩⟩
    rw [hn] at this
    cases this
theorem thgL_of {H : Hp} : ∀ {ts : List Addr} {ss : List StepD}, TL H StepD.vals ts ss → (∀ s ∈ ss, s.ok) → ThgL H (ts.map V.ref) (ss.map some)
  | [], [], _, _ => trivial
  | [], _ :: _, h, _ => nomatch h.len
  | _ :: _, [], h, _ => nomatch h.len
  | t :: ts, s :: ss, h, ho => by
    have h0 : H t = some (.tup s.vals) := by
      obtain ⟨x, a, b⟩ := h.get 0 t rfl
      injection a with a
      exact a ▸ b
    have h1 : TL H StepD.vals ts ss := ⟨Nat.succ.inj h.len, fun i u hi => h.get (i + 1) u hi⟩
    exact ⟨thg_st (ho s List.mem_cons_self) h0, thgL_of h1 fun r hr => ho r (List.mem_cons_of_mem _ hr)⟩
theorem TL.takeN {α : Type} {val : α → List V} {H : Hp} {ts : List Addr} {xs : List α} (h : TL H val ts xs) (n : Nat) : TL H val (ts.take n) (xs.take n) := ⟨by rw [List.length_take, List.length_take, h.len], fun i t hi => by
  rw [List.getElem?_take] at hi
  split at hi
  · rename_i z
    obtain ⟨x, a, b⟩ := h.get i t hi
    exact ⟨x, by rw [List.getElem?_take, if_pos z]; exact a, b⟩
  · cases hi⟩
theorem TL.dropN {α : Type} {val : α → List V} {H : Hp} {ts : List Addr} {xs : List α} (h : TL H val ts xs) (n : Nat) : TL H val (ts.drop n) (xs.drop n) := ⟨by rw [List.length_drop, List.length_drop, h.len], fun i t hi => by
  rw [List.getElem?_drop] at hi
  obtain ⟨x, a, b⟩ := h.get _ t hi
  exact ⟨x, by rw [List.getElem?_drop]; exact a, b⟩⟩
theorem run_row : ∀ {ss : List StepD} {t u : List Nat}, Row t → t.length ≤ 4000 → run t ss = some u → Row u ∧ u.length ≤ 4000
  | [], t, u, r, z, h => by
    injection h with h
    exact h ▸ ⟨r, z⟩
  | s :: ss, t, u, r, z, h => by
    obtain ⟨v, hv, h⟩ := Option.bind_eq_some_iff.mp (show (doX t (some s)).bind (fun u => run u ss) = some u from h)
    obtain ⟨rv, zv⟩ := doX_row r hv
    exact run_row rv zv h
theorem run_cut {t u : List Nat} {ss : List StepD} (h : run t ss = some u) (n : Nat) : ∃ v, run t (ss.take n) = some v ∧ run v (ss.drop n) = some u := by
  rw [← List.take_append_drop n ss, run_app] at h
  exact Option.bind_eq_some_iff.mp h
theorem long_yes {H : Hp} {t : List Nat} (rt : Row t) (z : t.length ≤ 4000) : IsRowW H (.str (S t)) 4000 true := by
  have := long_true (H := H) rt (by omega)
  rwa [decide_eq_true z] at this
/-- a step's numbers -/
def StepD.nums : StepD → List Int
  | .less a m => [(a : Int), (m : Int)]
  | .more a m => [(a : Int), (m : Int)]
  | .past a m k => [(a : Int), (m : Int), (k : Int)]
theorem nums_cut (st : StepD) : cutV st.vals (some 1) none = st.nums.map V.int ∧ cutV st.vals (some 2) none = (st.nums.drop 1).map V.int ∧ 0 < st.nums.length ∧ 0 < (st.nums.drop 1).length := by
  cases st <;> exact ⟨rfl, rfl, by simp [StepD.nums], by simp [StepD.nums]⟩
theorem nums_part (st : StepD) : ¬ (HT.sIx st.vals.length 0 (some 1) = 0 ∧ HT.sIx st.vals.length st.vals.length none = st.vals.length) ∧ ¬ (HT.sIx st.vals.length 0 (some 2) = 0 ∧ HT.sIx st.vals.length st.vals.length none = st.vals.length) := by
  cases st <;> exact ⟨(fun h => absurd h.1 (by simp [StepD.vals, HT.sIx])), fun h => absurd h.1 (by simp [StepD.vals, HT.sIx])⟩
theorem nums_ok {st : StepD} (ok : st.ok) : (∀ n ∈ st.nums, 0 ≤ n) ∧ ∀ n ∈ st.nums.drop 1, 1 ≤ n := by
  cases st with
  | less a m =>
    have := ok.1
    refine ⟨fun n hn => ?_, fun n hn => ?_⟩ <;> (simp only [StepD.nums, List.drop_succ_cons, List.drop_zero, List.mem_cons, List.not_mem_nil, or_false] at hn) <;> omega
  | more a m =>
    have := ok.1
    refine ⟨fun n hn => ?_, fun n hn => ?_⟩ <;> (simp only [StepD.nums, List.drop_succ_cons, List.drop_zero, List.mem_cons, List.not_mem_nil, or_false] at hn) <;> omega
  | past a m k =>
    have := ok.1.1
    have := ok.2.1
    refine ⟨fun n hn => ?_, fun n hn => ?_⟩ <;> (simp only [StepD.nums, List.drop_succ_cons, List.drop_zero, List.mem_cons, List.not_mem_nil, or_false] at hn) <;> omega

/-- a def that the caller knows: where it stands, how its arguments bind, what it promises -/
def KN (P : Program) (w : World) (K : PySem.W.Frag) (mg : Str → Option Value) (base : Heap) (CX : CXT) (k : Nat) (ps : List Str) (sp : Sp) (x : Str) (dvs : List V) : Prop :=
  ∃ (f : Addr) (fd : FuncData) (ds : List Value), mg x = some (.ref f) ∧ PySem.W.keepIn K (.ref f) = true ∧ Vals dvs ds ∧ Binds K fd ps ds ∧ FnOk P w K mg base CX k f fd ps sp
/-- a method that the caller knows -/
def KM (P : Program) (w : World) (K : PySem.W.Frag) (mg : Str → Option Value) (base : Heap) (CX : CXT) (k : Nat) (ps : List Str) (sp : Sp) (C : Addr) (n : Str) (dvs : List V) : Prop :=
  ∃ (f : Addr) (fd : FuncData) (ds : List Value), PySem.W.findIn K (.ref C) n = some (some (.ref f)) ∧ PySem.W.typeIn K (.ref f) = some (.type "function") ∧ PySem.W.isFn K (.ref f) = true ∧ PySem.W.keepIn K (.ref f) = true ∧ Vals dvs ds ∧ Binds K fd ps ds ∧ FnOk P w K mg base CX k f fd ps sp
structure Txt (K : PySem.W.Frag) (mg : Str → Option Value) (w : World) (D_CONTRARY : Addr) (D_NUMBERS : Addr) (D_STEPS : Addr) (C_Canon : Addr) (C_NoRow : Addr) (C_NoStep : Addr) (C_Walk : Addr) (C_World : Addr) : Prop where
  b_LookupError : mg "LookupError" = none
  b_all : mg "all" = none
  b_bool : mg "bool" = none
  b_enumerate : mg "enumerate" = none
  b_frozenset : mg "frozenset" = none
  b_int : mg "int" = none
  b_isinstance : mg "isinstance" = none
  b_len : mg "len" = none
  b_list : mg "list" = none
  b_max : mg "max" = none
  b_min : mg "min" = none
  b_range : mg "range" = none
  b_sorted : mg "sorted" = none
  b_str : mg "str" = none
  b_sum : mg "sum" = none
  b_tuple : mg "tuple" = none
  g_DEEDS : ∃ u, mg "DEEDS" = some u ∧ RelV (.str "abcdef") u
  g_MOST_LONG : ∃ u, mg "MOST_LONG" = some u ∧ RelV (.int 4000) u
  g_MOST_PLACES : ∃ u, mg "MOST_PLACES" = some u ∧ RelV (.int 61) u
  g_MOST_SIGNS : ∃ u, mg "MOST_SIGNS" = some u ∧ RelV (.int 60) u
  g_MOST_THINGS : ∃ u, mg "MOST_THINGS" = some u ∧ RelV (.int 61) u
  g_SIGNS : ∃ u, mg "SIGNS" = some u ∧ RelV (.str "aAbBcCdDeEfF") u
  v_LookupError : PySem.W.findCls K (.type "LookupError") (.type "type") "__init__" = some (.val (.builtin "LookupError.__init__"))
  y_Canon_own_end : PySem.W.findIn K (.ref C_Canon) "own_end" = some none
  y_Canon_own_known : PySem.W.findIn K (.ref C_Canon) "own_known" = some none
  y_Canon_own_leaves : PySem.W.findIn K (.ref C_Canon) "own_leaves" = some none
  y_Canon_own_steps : PySem.W.findIn K (.ref C_Canon) "own_steps" = some none
  y_NoStep_number : PySem.W.findIn K (.ref C_NoStep) "number" = some none
  y_Walk_own_end : PySem.W.findIn K (.ref C_Walk) "own_end" = some none
  y_Walk_own_places : PySem.W.findIn K (.ref C_Walk) "own_places" = some none
  y_World_own_many : PySem.W.findIn K (.ref C_World) "own_many" = some none
  y_World_own_ways : PySem.W.findIn K (.ref C_World) "own_ways" = some none
  x_NoRow : ExK K mg "NoRow" C_NoRow [.type "ValueError", .type "Exception", .type "BaseException", .type "object"] "ValueError.__new__"
  x_NoStep : ExF K mg "NoStep" C_NoStep "LookupError" "LookupError.__new__" "LookupError.__init__" [.type "LookupError", .type "Exception", .type "BaseException", .type "object"]
  o_Canon : OwnK K mg "Canon" C_Canon
  o_Walk : OwnK K mg "Walk" C_Walk
  o_World : OwnK K mg "World" C_World
  q_CONTRARY : KDt K w mg "CONTRARY" D_CONTRARY
  q_CONTRARY_less : ∃ t, PySem.W.nsIn K D_CONTRARY "less" = some (some (.str "more" t))
  q_CONTRARY_more : ∃ t, PySem.W.nsIn K D_CONTRARY "more" = some (some (.str "less" t))
  q_NUMBERS : KDt K w mg "NUMBERS" D_NUMBERS
  q_NUMBERS_less : ∃ t, PySem.W.nsIn K D_NUMBERS "less" = some (some (.int 2 t))
  q_NUMBERS_more : ∃ t, PySem.W.nsIn K D_NUMBERS "more" = some (some (.int 2 t))
  q_NUMBERS_past : ∃ t, PySem.W.nsIn K D_NUMBERS "past" = some (some (.int 3 t))
  q_STEPS : KDt K w mg "STEPS" D_STEPS
  q_STEPS_less : ∃ f, mg "less_of" = some (.ref f) ∧ PySem.W.nsIn K D_STEPS "less" = some (some (.ref f))
  q_STEPS_more : ∃ f, mg "more_of" = some (.ref f) ∧ PySem.W.nsIn K D_STEPS "more" = some (some (.ref f))
  q_STEPS_past : ∃ f, mg "past_of" = some (.ref f) ∧ PySem.W.nsIn K D_STEPS "past" = some (some (.ref f))
  w1 : PySem.W.findIn K (.ref C_Walk) "__class__" = some (some (.builtin "object.__class__"))
  w2 : PySem.W.specialIn K (.builtin "object.__class__") "__get__" = some (some (.builtin "getset_descriptor.__get__"))
  w3 : PySem.W.takesIn K (.builtin "object.__class__") = some true
  w4 : PySem.W.mroIn K C_Walk (.type "object") = some true
  u1 : PySem.W.findIn K (.ref C_World) "__class__" = some (some (.builtin "object.__class__"))
  u4 : PySem.W.mroIn K C_World (.type "object") = some true
  n1 : PySem.W.subIn K (.ref C_NoStep) (.type "LookupError") = some true
  z0 : PySem.W.nsIn K D_NUMBERS "Less" = some none
  z1 : PySem.W.nsIn K D_NUMBERS "lesser" = some none
  z2 : PySem.W.nsIn K D_NUMBERS "" = some none
  z3 : PySem.W.nsIn K D_NUMBERS "pass" = some none
  z4 : PySem.W.nsIn K D_NUMBERS "1" = some none
def sp_law_pool (K : PySem.W.Frag) : Sp := fun vs H Q E => ∃ (a : Addr) (ns : List Int) (i : Int), vs = [.ref a, .int i] ∧ (SqL K H a (ns.map V.int)) ∧ (0 ≤ i) ∧ (i < 1000) ∧ ∀ (p : Addr) (H' : Hp), H p = none → Same H H' → Pool H' p → Q (.ref p) H'
def sp_law_take : Sp := fun vs H Q E => ∃ (p : Addr) (m : Int), vs = [.ref p, .int m] ∧ (Pool H p) ∧ (0 < m) ∧ (m < 18446744073709551616) ∧ ∀ (v : Int) (H' : Hp), 0 ≤ v → v < m → Off p H H' → Pool H' p → Q (.int v) H'
def sp_law_turned : Sp := fun vs H Q E => ∃ (l : List Nat), vs = [.str (S l)] ∧ (Row l) ∧ (l.length ≤ 40000) ∧ ∀ H' : Hp, Same H H' → Q (.str (S (RowM.turn l))) H'
def sp_law_row : Sp := fun vs H Q E => ∃ (p : Addr) (most deeds : Int), vs = [.ref p, .int most, .int deeds] ∧ (Pool H p) ∧ (0 ≤ most) ∧ (most ≤ 1000) ∧ (1 ≤ deeds) ∧ (deeds ≤ 6) ∧ ∀ (l : List Nat) (H' : Hp), Row l → (l.length : Int) ≤ most → (∀ c ∈ l, (ix c : Int) < 2 * deeds) → Off p H H' → Pool H' p → Q (.str (S l)) H'
def sp_law_other (K : PySem.W.Frag) : Sp := fun vs H Q E => ∃ (p : Addr) (l : List Nat) (d : Int), vs = [.ref p, .str (S l), .int d] ∧ (Pool H p) ∧ (Row l) ∧ (l.length ≤ 60) ∧ (1 ≤ d) ∧ (d ≤ 3) ∧ ∀ (m : List Nat) (H' : Hp), Row m → m.length ≤ 60 → Off p H H' → Pool H' p → Q (.str (S m)) H'
def sp_is_row_within : Sp := fun vs H Q E => ∃ (x : V) (most : Int) (r : Bool), vs = [x, .int most] ∧ (IsRowW H x most r) ∧ ∀ H' : Hp, Same H H' → Q (.bl r) H'
def sp_is_row : Sp := fun vs H Q E => ∃ (l : List Nat), vs = [.str (S l)] ∧ (l.length ≤ 40000) ∧ ∀ H' : Hp, Same H H' → Q (.bl (isRow l)) H'
def sp_look_at_row : Sp := fun vs H Q E => ∃ (l : List Nat), vs = [.str (S l)] ∧ (isRow l = true) ∧ ∀ H' : Hp, Same H H' → Q .non H'
def sp_contrary_sign : Sp := fun vs H Q E => ∃ (c : Nat), vs = [.str (S [c])] ∧ (c ∈ sgns) ∧ ∀ H' : Hp, Same H H' → Q (.str (S [con c])) H'
def sp_made_plain : Sp := fun vs H Q E => ∃ (l : List Nat), vs = [.str (S l)] ∧ (Row l) ∧ (l.length ≤ 40000) ∧ ∀ H' : Hp, Same H H' → Q (.str (S (RowM.plain l))) H'
def sp_is_plain_row : Sp := fun vs H Q E => ∃ (l : List Nat), vs = [.str (S l)] ∧ (isRow l = true) ∧ ∀ H' : Hp, Same H H' → Q (.bl (decide (RowM.plain l = l))) H'
def sp_first_wrong (K : PySem.W.Frag) : Sp := fun vs H Q E => ∃ (q : Addr) (ts : List (List Nat)), vs = [.ref q] ∧ (SqL K H q (ts.map sT)) ∧ (TreeS ts) ∧ ∀ H' : Hp, Same H H' → Q .non H'
def sp_rank : Sp := fun vs H Q E => ∃ (l : List Nat), vs = [.str (S l)] ∧ (Row l) ∧ (l.length ≤ 40000) ∧ ∀ (t q : Addr) (H' : Hp), Same H H' → H t = none → H' t = some (.tup [.int l.length, .ref q]) → H' q = some (.lst (l.map fun c => V.int (ix c : Nat))) → Q (.ref t) H'
def sp_Walk___init__ (K : PySem.W.Frag) (C_Walk : Addr) : Sp := fun vs H Q E => ∃ (a dx q : Addr) (ts : List (List Nat)) (e : List Nat), vs = [.ref a, .ref q, .str (S e)] ∧ (H a = some (.ins C_Walk dx [])) ∧ (H q = some (.lst (ts.map sT))) ∧ (TreeS ts) ∧ (e ∈ ts) ∧ ∀ (p : Addr) (H' : Hp), Off a H H' → H p = none → WkAt C_Walk H' a p (srt ts) e → Q .non H'
def sp_gone : Sp := fun vs H Q E => ∃ (l : List Nat), vs = [.str (S l)] ∧ (Row l) ∧ (l.length ≤ 1000) ∧ ∀ (q : Addr) (H' : Hp), Same H H' → H q = none → H' q = some (.lst ((gone l).map sT)) → Q (.ref q) H'
def sp_walk_of (C_Walk : Addr) : Sp := fun vs H Q E => ∃ (l : List Nat), vs = [.str (S l)] ∧ (isRow l = true) ∧ ∀ (a q : Addr) (H' : Hp), Same H H' → H a = none → H q = none → WkAt C_Walk H' a q (srt (gone l)) (RowM.plain l) → Q (.ref a) H'
def sp_Walk___eq__ (K : PySem.W.Frag) (C_Walk : Addr) : Sp := fun vs H Q E => ∃ (a q b r : Addr) (ps us : List (List Nat)) (e f : List Nat), vs = [.ref a, .ref b] ∧ (WkAt C_Walk H a q ps e) ∧ (WkAt C_Walk H b r us f) ∧ (ps.length ≤ 61) ∧ (us.length ≤ 61) ∧ ∀ (z : Bool) (H' : Hp), (z = true ↔ e = f ∧ ∀ p, p ∈ ps ↔ p ∈ us) → Same H H' → Q (.bl z) H'
def sp_same (K : PySem.W.Frag) (C_Walk : Addr) : Sp := fun vs H Q E => ∃ (l m : List Nat), vs = [.str (S l), .str (S m)] ∧ (isRow l = true) ∧ (isRow m = true) ∧ ∀ H' : Hp, Same H H' → Q (.bl (sameR l m)) H'
def sp_Canon___init__ (C_Canon : Addr) : Sp := fun vs H Q E => ∃ (x dx : Addr), vs = [.ref x] ∧ (H x = some (.ins C_Canon dx [])) ∧ ∀ (dk dl ds : Addr) (H' : Hp), Off x H H' → H dk = none → H dl = none → H ds = none → CanAt C_Canon H' x dk dl ds ⟨[[]], [], [], []⟩ → Q .non H'
def sp_Canon_at_leaf (K : PySem.W.Frag) (C_Canon : Addr) : Sp := fun vs H Q E => ∃ (x dk dl ds : Addr) (s : CS) (n : Nat), vs = [.ref x, .int (n : Int)] ∧ (CanAt C_Canon H x dk dl ds s) ∧ (s.ls.length ≤ 1000) ∧ (∀ p ∈ s.ls, p.length ≤ 1000) ∧ (n ≤ s.ls.length) ∧ ∀ H' : Hp, Same H H' → Q (.int ((2 * sumL (s.ls.take n) : Nat) : Int)) H'
def sp_Canon_swap (K : PySem.W.Frag) (C_Canon : Addr) : Sp := fun vs H Q E => ∃ (x dk dl ds : Addr) (s : CS) (A : List (List Nat)) (p q : List Nat) (B : List (List Nat)), vs = [.ref x, .int (A.length : Int)] ∧ (CanAt C_Canon H x dk dl ds s) ∧ (s.ls = A ++ p :: q :: B) ∧ (s.ls.length ≤ 1000) ∧ (∀ p ∈ s.ls, p.length ≤ 1000) ∧ (s.ss.length ≤ 100000) ∧ ∀ H' : Hp, OffS (cx4 x dk dl ds) H H' → CanAt C_Canon H' x dk dl ds { s with ls := A ++ q :: p :: B, ss := s.ss ++ [.past (rnd A).length p.length q.length] } → Q .non H'
def sp_Canon_to_end (K : PySem.W.Frag) (C_Canon : Addr) : Sp := fun vs H Q E => ∃ (x dk dl ds : Addr) (s : CS) (p : List Nat), vs = [.ref x, .str (S p)] ∧ (CanAt C_Canon H x dk dl ds s) ∧ (p ∈ s.ls) ∧ (s.ls.length ≤ 900) ∧ (∀ p ∈ s.ls, p.length ≤ 900) ∧ (s.ss.length ≤ 90000) ∧ ∀ H' : Hp, OffS (cx4 x dk dl ds) H H' → CanAt C_Canon H' x dk dl ds { s with ls := toE s.ls p ++ [p], ss := s.ss ++ toES s.ls p } → Q .non H'
def sp_Canon_to_order (K : PySem.W.Frag) (C_Canon : Addr) : Sp := fun vs H Q E => ∃ (x dk dl ds : Addr) (s : CS) (ra : List (List Nat)) (p : List Nat), vs = [.ref x] ∧ (CanAt C_Canon H x dk dl ds s) ∧ (s.ls = ra.reverse ++ [p]) ∧ (∀ q ∈ s.ls, Row q) ∧ (s.ls.length ≤ 900) ∧ (∀ p ∈ s.ls, p.length ≤ 900) ∧ (s.ss.length ≤ 90000) ∧ ∀ H' : Hp, OffS (cx4 x dk dl ds) H H' → CanAt C_Canon H' x dk dl ds { s with ls := ordL ra p, ss := s.ss ++ ordS ra p } → Q .non H'
def sp_Canon_fall (K : PySem.W.Frag) (C_Canon : Addr) : Sp := fun vs H Q E => ∃ (x dk dl ds : Addr) (s : CS), vs = [.ref x] ∧ (CanAt C_Canon H x dk dl ds s) ∧ (s.ls.length ≤ 800) ∧ (∀ p ∈ s.ls, p.length ≤ 800) ∧ (s.ss.length ≤ 80000) ∧ (∀ q ∈ s.ls, Row q) ∧ (s.ls.Nodup) ∧ (s.e ≠ []) ∧ (leafOf s.ls s.e ∈ s.ls ∧ (leafOf s.ls s.e).take s.e.length = s.e) ∧ (s.e.length ≤ 700) ∧ ∀ H' : Hp, OffS (cx4 x dk dl ds) H H' → CanAt C_Canon H' x dk dl ds ⟨s.ks, ordL (toE s.ls (leafOf s.ls s.e)).reverse (leafOf s.ls s.e), s.e.dropLast, s.ss ++ fallS s.ls s.e⟩ → Q .non H'
def sp_Canon_grow (K : PySem.W.Frag) (C_Canon : Addr) : Sp := fun vs H Q E => ∃ (x dk dl ds : Addr) (s : CS) (c : Nat), vs = [.ref x, .str (S (s.e ++ [c]))] ∧ (CanAt C_Canon H x dk dl ds s) ∧ (s.ls.length ≤ 800) ∧ (∀ p ∈ s.ls, p.length ≤ 800) ∧ (s.ss.length ≤ 80000) ∧ (∀ q ∈ s.ls, Row q) ∧ (s.ls.Nodup) ∧ (s.ks.length ≤ 1000) ∧ (Row (s.e ++ [c])) ∧ (s.e.length ≤ 700) ∧ ∀ H' : Hp, OffS (cx4 x dk dl ds) H H' → CanAt C_Canon H' x dk dl ds ⟨addK s.ks (s.e ++ [c]), ordL (if s.e ∈ s.ls then toE s.ls s.e else s.ls).reverse (s.e ++ [c]), s.e ++ [c], s.ss ++ growS s.ls s.e (s.e ++ [c])⟩ → Q .non H'
def sp_Canon_go_on (K : PySem.W.Frag) (C_Canon : Addr) : Sp := fun vs H Q E => ∃ (x dk dl ds : Addr) (s : CS) (c : Nat) (w : List Nat), vs = [.ref x, .str (S [c])] ∧ (CanAt C_Canon H x dk dl ds s) ∧ (c ∈ sgns) ∧ (CI w s) ∧ (CB w s) ∧ (Row w) ∧ (w.length < 60) ∧ ∀ H' : Hp, OffS (cx4 x dk dl ds) H H' → CanAt C_Canon H' x dk dl ds (goOn s c) → Q .non H'
def sp_canon_steps (K : PySem.W.Frag) (C_Canon : Addr) : Sp := fun vs H Q E => ∃ (l : List Nat), vs = [.str (S l)] ∧ (Row l) ∧ (l.length ≤ 60) ∧ ∀ (q : Addr) (ts : List Addr) (H' : Hp), Same H H' → H q = none → H' q = some (.lst (ts.map V.ref)) → TL H' StepD.vals ts (canon l).ss → Q (.ref q) H'
def sp_back_step (K : PySem.W.Frag) : Sp := fun vs H Q E => ∃ (p : Addr) (st : StepD), vs = [.ref p] ∧ (H p = some (.tup st.vals)) ∧ ∀ (q : Addr) (H' : Hp), Same H H' → H q = none → H' q = some (.tup st.undo.vals) → Q (.ref q) H'
def sp_chain (K : PySem.W.Frag) (C_Canon : Addr) (C_Walk : Addr) : Sp := fun vs H Q E => ∃ (l m : List Nat), vs = [.str (S l), .str (S m)] ∧ (isRow l = true) ∧ (isRow m = true) ∧ (sameR l m = false → ∀ H' : Hp, Same H H' → Q .non H') ∧ (sameR l m = true → ∀ (q : Addr) (ts : List Addr) (H' : Hp), Same H H' → H q = none → H' q = some (.lst (ts.map V.ref)) → TL H' StepD.vals ts (chainS l m) → Q (.ref q) H')
def sp_Walk_places (C_Walk : Addr) : Sp := fun vs H Q E => ∃ (a q : Addr) (ps : List (List Nat)) (e : List Nat), vs = [.ref a] ∧ (WkAt C_Walk H a q ps e) ∧ ∀ (p : Addr) (H' : Hp), Same H H' → H p = none → H' p = some (.lst (ps.map sT)) → Q (.ref p) H'
def sp_all_within (K : PySem.W.Frag) (C_Walk : Addr) : Sp := fun vs H Q E => ∃ (a q b r : Addr) (ps us : List (List Nat)) (e f : List Nat), vs = [.ref a, .ref b] ∧ (WkAt C_Walk H a q ps e) ∧ (WkAt C_Walk H b r us f) ∧ (ps.length ≤ 61) ∧ ∀ H' : Hp, Same H H' → Q (.bl (ps.all fun p => decide (p ∈ us))) H'
def sp_is_whole : Sp := fun vs H Q E => ∃ (x : V) (r : Bool), vs = [x] ∧ (IntW H x r) ∧ ∀ H' : Hp, Same H H' → Q (.bl r) H'
def sp_World___init__ (C_World : Addr) : Sp := fun vs H Q E => ∃ (a dx : Addr) (n : Nat), vs = [.ref a, .int (n : Int)] ∧ (H a = some (.ins C_World dx [])) ∧ (n ≤ 61) ∧ ∀ (dw : Addr) (H' : Hp), Off a H H' → H dw = none → WAt C_World H' a dw n [] → Q .non H'
def sp_World_look_at_deed (C_World : Addr) : Sp := fun vs H Q E => ∃ (a : Addr) (c : Nat), vs = [.ref a, .str (S [c])] ∧ (Deed c) ∧ ∀ H' : Hp, Same H H' → Q .non H'
def sp_World_look_at_thing (C_World : Addr) : Sp := fun vs H Q E => ∃ (a dw : Addr) (n : Nat) (kvs : Kvs) (i : Int), vs = [.ref a, .int i] ∧ (WAt C_World H a dw n kvs) ∧ (0 ≤ i) ∧ (i < n) ∧ ∀ H' : Hp, Same H H' → Q .non H'
def sp_World_lay (C_World : Addr) : Sp := fun vs H Q E => ∃ (a dw : Addr) (n : Nat) (kvs : Kvs) (c i j : Nat), vs = [.ref a, .str (S [c]), .int (i : Int), .int (j : Int)] ∧ (WAt C_World H a dw n kvs) ∧ (Deed c) ∧ (i < n) ∧ (j < n) ∧ (valV kvs (ky c i) = none) ∧ (valV kvs (ky (con c) j) = none) ∧ (kvs.length ≤ 10000) ∧ ∀ H' : Hp, Off dw H H' → H' dw = some (.dT (putK (putK kvs (ky c i) (.int (j : Int))) (ky (con c) j) (.int (i : Int)))) → Q .non H'
def sp_Walk_world (K : PySem.W.Frag) (C_Walk : Addr) (C_World : Addr) : Sp := fun vs H Q E => ∃ (a q : Addr) (ps : List (List Nat)) (e : List Nat), vs = [.ref a] ∧ (WkAt C_Walk H a q ps e) ∧ (Ord ps) ∧ ∀ (b dw : Addr) (kvs : Kvs) (H' : Hp), Same H H' → H b = none → H dw = none → WAt C_World H' b dw ps.length kvs → Ways kvs ps.length → TreeW ps kvs → kvs.length ≤ 122 → Q (.ref b) H'
def sp_unlike (K : PySem.W.Frag) (C_Walk : Addr) (C_World : Addr) : Sp := fun vs H Q E => ∃ (l m : List Nat), vs = [.str (S l), .str (S m)] ∧ (isRow l = true) ∧ (isRow m = true) ∧ (sameR l m = true → ∀ H' : Hp, Same H H' → Q .non H') ∧ (sameR l m = false → ∀ (t b dw : Addr) (x : List Nat) (kvs : Kvs) (H' : Hp), Same H H' → H t = none → H b = none → H dw = none → H' t = some (.tup [.ref b, .int 0]) → (x = m ∧ within l m = false ∨ x = l ∧ within l m = true) → WAt C_World H' b dw (gone x).length kvs → Ways kvs (gone x).length → TreeW (srt (gone x)) kvs → kvs.length ≤ 122 → Q (.ref t) H')
def sp_World___len__ (C_World : Addr) : Sp := fun vs H Q E => ∃ (a dw : Addr) (n : Nat) (kvs : Kvs), vs = [.ref a] ∧ (WAt C_World H a dw n kvs) ∧ (n ≤ 1000) ∧ ∀ H' : Hp, Same H H' → Q (.int (n : Nat)) H'
def sp_World_led_on (C_World : Addr) : Sp := fun vs H Q E => ∃ (a dw : Addr) (n : Nat) (kvs : Kvs) (l : List Nat) (t : Int), vs = [.ref a, .str (S l), .int t] ∧ (WAt C_World H a dw n kvs) ∧ (Ways kvs n) ∧ (l.length ≤ 1000) ∧ ∀ H' : Hp, Same H H' → Q (optV (ledW kvs l (some t))) H'
def sp_World_led (C_World : Addr) : Sp := fun vs H Q E => ∃ (a dw : Addr) (n : Nat) (kvs : Kvs) (l : List Nat) (t : Int), vs = [.ref a, .str (S l), .int t] ∧ (WAt C_World H a dw n kvs) ∧ (Ways kvs n) ∧ (isRow l = true) ∧ (0 ≤ t) ∧ (t < n) ∧ ∀ H' : Hp, Same H H' → Q (optV (ledW kvs l (some t))) H'
def sp_tells_unlike (K : PySem.W.Frag) (C_World : Addr) : Sp := fun vs H Q E => ∃ (l m : List Nat) (t a dw : Addr) (n : Nat) (kvs : Kvs) (i : Int), vs = [.str (S l), .str (S m), .ref t] ∧ (isRow l = true) ∧ (isRow m = true) ∧ (H t = some (.tup [.ref a, .int i])) ∧ (WAt C_World H a dw n kvs) ∧ (Ways kvs n) ∧ (n ≤ 1000) ∧ (0 ≤ i) ∧ (i < n) ∧ ∀ H' : Hp, Same H H' → Q (.bl (!decide (ledW kvs l (some i) = ledW kvs m (some i)))) H'
def sp_is_long_row : Sp := fun vs H Q E => ∃ (x : V) (r : Bool), vs = [x] ∧ (IsRowW H x 4000 r) ∧ ∀ H' : Hp, Same H H' → Q (.bl r) H'
def sp_look_at_long_row (C_NoRow : Addr) : Sp := fun vs H Q E => ∃ (x : V) (r : Bool), vs = [x] ∧ (IsRowW H x 4000 r) ∧ (r = true → ∀ H' : Hp, Same H H' → Q .non H') ∧ (r = false → ∀ H' : Hp, Same H H' → E (.ref C_NoRow) none H')
def sp_part_of : Sp := fun vs H Q E => ∃ (t : List Nat) (a m : Nat), vs = [.str (S t), .int (a : Int), .int (m : Int)] ∧ (t.length ≤ 40000) ∧ ∀ H' : Hp, Same H H' → Q (optS (partR t a m)) H'
def sp_turned : Sp := fun vs H Q E => ∃ (l : List Nat), vs = [.str (S l)] ∧ (Row l) ∧ (l.length ≤ 40000) ∧ ∀ H' : Hp, Same H H' → Q (.str (S (RowM.turn l))) H'
def sp_less_of : Sp := fun vs H Q E => ∃ (t : List Nat) (a m : Nat), vs = [.str (S t), .int (a : Int), .int (m : Int)] ∧ (Row t) ∧ (t.length ≤ 10000) ∧ (1 ≤ m) ∧ (0 ≤ m) ∧ ∀ H' : Hp, Same H H' → Q (optS (lessR t a m)) H'
def sp_more_of : Sp := fun vs H Q E => ∃ (t : List Nat) (a m : Nat), vs = [.str (S t), .int (a : Int), .int (m : Int)] ∧ (Row t) ∧ (t.length ≤ 10000) ∧ (1 ≤ m) ∧ (0 ≤ m) ∧ ∀ H' : Hp, Same H H' → Q (optS (moreR t a m)) H'
def sp_is_formed (K : PySem.W.Frag) : Sp := fun vs H Q E => ∃ (x : V) (o : Option StepD), vs = [x] ∧ (Thg H x o) ∧ ∀ H' : Hp, Same H H' → Q (.bl o.isSome) H'
def sp_past_of : Sp := fun vs H Q E => ∃ (t : List Nat) (a m j : Nat), vs = [.str (S t), .int (a : Int), .int (m : Int), .int (j : Int)] ∧ (Row t) ∧ (t.length ≤ 10000) ∧ (1 ≤ m) ∧ (0 ≤ m) ∧ (1 ≤ j) ∧ (0 ≤ j) ∧ ∀ H' : Hp, Same H H' → Q (optS (pastR t a m j)) H'
def sp_done (K : PySem.W.Frag) : Sp := fun vs H Q E => ∃ (t : List Nat) (x : V) (o : Option StepD), vs = [.str (S t), x] ∧ (Row t) ∧ (t.length ≤ 4000) ∧ (Thg H x o) ∧ ∀ H' : Hp, Same H H' → Q (optS (doX t o)) H'
def sp_NoStep___init__ (C_NoStep : Addr) : Sp := fun vs H Q E => ∃ (a : Addr) (v : V), vs = [.ref a, v] ∧ (H a = some (exo a C_NoStep none)) ∧ ∀ d : Addr, H d = none → d ≠ a → Q .non (upd (upd (upd H d (exd d [])) a (exo a C_NoStep (some d))) d (exd d [(Str.ofString "number", v)]))
def sp_led_on (K : PySem.W.Frag) (C_NoStep : Addr) (C_NoRow : Addr) : Sp := fun vs H Q E => ∃ (y : V) (r : Bool) (q : Addr) (xs : List V) (os : List (Option StepD)), vs = [y, .ref q] ∧ (IsRowW H y 4000 r) ∧ (H q = some (.lst xs)) ∧ (ThgL H xs os) ∧ (∀ t u, y = .str (S t) → Row t → t.length ≤ 4000 → doXL t os = some u → ∀ H' : Hp, Same H H' → Q (.str (S u)) H') ∧ (∀ t, y = .str (S t) → Row t → t.length ≤ 4000 → doXL t os = none → ∀ (d : Addr) (H' : Hp), Same H H' → H' d = some (.xd [(Str.ofString "number", .int (badX t os : Nat))]) → E (.ref C_NoStep) (some d) H') ∧ (r = false → ∀ H' : Hp, Same H H' → E (.ref C_NoRow) none H')
def sp_is_chain (K : PySem.W.Frag) (C_NoStep : Addr) (C_NoRow : Addr) : Sp := fun vs H Q E => ∃ (l m : List Nat) (q : Addr) (xs : List V) (os : List (Option StepD)), vs = [.str (S l), .str (S m), .ref q] ∧ (isRow l = true) ∧ (isRow m = true) ∧ (H q = some (.lst xs)) ∧ (ThgL H xs os) ∧ ∀ H' : Hp, Same H H' → Q (.bl (decide (doXL l os = some m))) H'
def sp_law_back (K : PySem.W.Frag) : Sp := fun vs H Q E => ∃ (p : Addr) (st : StepD), vs = [.ref p] ∧ (H p = some (.tup st.vals)) ∧ ∀ (q : Addr) (H' : Hp), Same H H' → (H' q = some (.tup st.undo.vals) ∨ H' q = some (.lst st.undo.vals)) → Q (.ref q) H'
def sp_law (K : PySem.W.Frag) : Sp := fun vs H Q E => ∃ (a : Addr) (ns : List Int), vs = [.ref a] ∧ (SqL K H a (ns.map V.int)) ∧ (ns.length ≤ 63) ∧ ∀ H', Q (.bl true) H'
section
variable {P : Program} {w : World} {K : PySem.W.Frag} {mg : Str → Option Value} {base : Heap} {D_CONTRARY : Addr} {D_NUMBERS : Addr} {D_STEPS : Addr} {C_Canon : Addr} {C_NoRow : Addr} {C_NoStep : Addr} {C_Walk : Addr} {C_World : Addr}
theorem sc_law_pool : FnScope ["_law_script", "_law_k", "_law_cell", "_law_number"] ["_law_script", "_law_k"] (defScope s_law_pool) := ⟨rfl, rfl, rfl, by decide +kernel, rfl, by decide +kernel, by decide +kernel⟩
theorem ok_law_pool {f : Addr} {fd : FuncData} (F : Fun K "_law_pool" "_law_pool" s_law_pool f fd) (T : Txt K mg w D_CONTRARY D_NUMBERS D_STEPS C_Canon C_NoRow C_NoStep C_Walk C_World) : FnOk P w K mg base CX0 1 f fd ["_law_script", "_law_k"] (sp_law_pool K) := by
  refine F.ok sc_law_pool (fun vs H Q E h => ?_) (fun cdv A outer s H vs Q E hr h => ?_)
  · obtain ⟨a, ns, i, rfl, _⟩ := h
    all_goals rfl
  · obtain ⟨a, ns, i, rfl, ha, h0, h1, k⟩ := h
    refine ⟨_, (pss_cons (ps_set (i := 2) sc_law_pool.nd rfl (Or.inl rfl) pe_int)
    (pss_cons (ps_if (pt_cmpR op_lt (pv 1) (pe_callB (call_lenK (K := K)) (by rfl) T.b_len (by decide +kernel) (pa_cons (pv 0) pa_nil)) (nomark _)) (pss_one (ps_set (i := 2) sc_law_pool.nd rfl (Or.inl rfl) (pe_ix (ix_listK (K := K)) (pv 0) (pv 1) (fun _ _ => rfl)))) pss_nil)
    (pss_cons (ps_set (i := 3) sc_law_pool.nd rfl (Or.inl rfl) (pe_op op_mod (pe_op op_pow (pe_op op_add (pe_op op_add (pe_op op_mod (pv 2) pe_int) (pe_op op_mul (pe_op op_mul pe_int (pv 1)) (pv 1))) pe_int) pe_int) pe_int))
    (pss_cons (ps_if (pt_cmpR op_lt (pv 2) (pe_op op_pow pe_int pe_int) (nomark _)) (pss_one (ps_set (i := 2) sc_law_pool.nd rfl (Or.inl rfl) pe_int)) pss_nil)
    (pss_one (ps_ret (pe_lst (pa_cons (pv 2) (pa_cons (pv 3) pa_nil))))))))), ?_⟩
    have go : ∀ c : Int, tSeq (tAsg (tOp (rI (fun x j => 0 < j) fun i j => V.int (i % j))
                (tOp (rI CPow fun i j => V.int (i ^ j.toNat))
                  (tOp (rI0 fun i j => V.int (i + j))
                    (tOp (rI0 fun i j => V.int (i + j))
                      (tOp (rI (fun x j => 0 < j) fun i j => V.int (i % j)) (tVar 2) (tC (V.int 2147483629)))
                      (tOp (rI CMul fun i j => V.int (i * j))
                        (tOp (rI CMul fun i j => V.int (i * j)) (tC (V.int 104729)) (tVar 1)) (tVar 1)))
                    (tC (V.int 11)))
                  (tC (V.int 3)))
                (tC (V.int 2147483647)))
              (gName 3))
            (tSeq
              (tIfS
                (tTest
                  (tOp (rI0 fun i j => V.bl (decide (i < j))) (tVar 2)
                    (tOp (rI CPow fun i j => V.int (i ^ j.toNat)) (tC (V.int 10)) (tC (V.int 18)))))
                (tAsg (tC (V.int 0)) (gName 2)) tNext)
              (tRet (tLst (tCons (tVar 2) (tCons (tVar 3) tNil))))) { nx := fun x H' => Q V.non H', rt := Q } [some (.ref a), some (.int i), some (.int c), none] H := fun c => by
        have z0 : 0 ≤ c % 2147483629 := Int.emod_nonneg _ (by decide)
        have z1 : c % 2147483629 < 2147483629 := Int.emod_lt_of_pos _ (by decide)
        have m0 : 0 ≤ i * i := Int.mul_nonneg h0 h0
        have m1 : i * i < 1000000 := by
          have : i * i ≤ 999 * 999 := Int.mul_le_mul (by omega) (by omega) h0 (by decide)
          omega
        have ea : 104729 * i * i = 104729 * (i * i) := Int.mul_assoc _ _ _
        refine ⟨_, rfl, _, _, rfl, rfl, (by show (0 : Int) < 2147483629; decide), _, rfl, _, _, rfl, rfl, .inl ⟨by decide, by decide⟩, _, rfl, _, _, rfl, rfl, .inr ⟨by omega, by omega⟩, _, _, rfl, rfl, _, _, rfl, rfl, _, _, rfl, rfl, ⟨by decide, by decide, by omega⟩, _, _, rfl, rfl, (by show (0 : Int) < 2147483647; decide), ?_⟩
        have y0 : 0 ≤ ((c % 2147483629 + 104729 * i * i + 11) ^ (3 : Int).toNat) % 2147483647 := Int.emod_nonneg _ (by decide)
        have y1 : ((c % 2147483629 + 104729 * i * i + 11) ^ (3 : Int).toNat) % 2147483647 < 2147483647 := Int.emod_lt_of_pos _ (by decide)
        refine ⟨_, rfl, _, _, rfl, rfl, ⟨by decide, by decide, by decide⟩, _, _, rfl, rfl, _, rfl, ?_⟩
        refine ite2 (fun _ => ?_) (fun _ => ?_)
        · exact ⟨_, rfl, _, rfl, (by show 2 ≤ sizeLine; decide), fun p hp => k p _ hp (Same.new hp) ⟨_, _, upd_same, y0, y1⟩⟩
        · exact ⟨_, rfl, _, rfl, (by show 2 ≤ sizeLine; decide), fun p hp => k p _ hp (Same.new hp) ⟨_, _, upd_same, y0, y1⟩⟩
    refine ⟨_, rfl, _, rfl, _, _, rfl, .inl ha, _, _, rfl, rfl, _, rfl, ?_⟩
    refine ite2 (fun q => ?_) (fun _ => go 0)
    have hl : i < (ns.length : Int) := by
      have q := of_decide_eq_true q
      rw [List.length_map] at q
      exact q
    obtain ⟨j, rfl⟩ : ∃ j : Nat, i = (j : Int) := ⟨i.toNat, by omega⟩
    have hj : j < ns.length := by omega
    refine ⟨_, rfl, _, rfl, _, _, _, _, rfl, rfl, ha, atI_nat (by rw [List.getElem?_map, List.getElem?_eq_getElem hj]; rfl), go _⟩
theorem sc_law_take : FnScope ["_law_pool_here", "_law_many", "_law_found"] ["_law_pool_here", "_law_many"] (defScope s_law_take) := ⟨rfl, rfl, rfl, by decide +kernel, rfl, by decide +kernel, by decide +kernel⟩
theorem ok_law_take {f : Addr} {fd : FuncData} (F : Fun K "_law_take" "_law_take" s_law_take f fd) (T : Txt K mg w D_CONTRARY D_NUMBERS D_STEPS C_Canon C_NoRow C_NoStep C_Walk C_World) : FnOk P w K mg base CX0 1 f fd ["_law_pool_here", "_law_many"] (sp_law_take) := by
  refine F.ok sc_law_take (fun vs H Q E h => ?_) (fun cdv A outer s H vs Q E hr h => ?_)
  · obtain ⟨p, m, rfl, _⟩ := h
    all_goals rfl
  · obtain ⟨p, m, rfl, hp, h0, h1, k⟩ := h
    refine ⟨_, (pss_cons (ps_if (pt_cmpR op_gt (pe_ix (ix_listK (K := K)) (pv 0) pe_int (fun _ _ => rfl)) pe_int (nomark _)) (pss_cons (ps_set (i := 2) sc_law_take.nd rfl (Or.inl rfl) (pe_op op_mod (pe_ix (ix_listK (K := K)) (pv 0) pe_int (fun _ _ => rfl)) (pv 1)))
    (pss_cons (ps_asg (pe_op op_fdivW (pe_ix (ix_listK (K := K)) (pv 0) pe_int (fun _ _ => rfl)) (pv 1)) (pg_sub (pv 0) pe_int set_list))
    (pss_one (ps_ret (pv 2))))) pss_nil)
    (pss_cons (ps_asg (pe_op op_mod (pe_op op_add (pe_op op_mul (pe_ix (ix_listK (K := K)) (pv 0) pe_int (fun _ _ => rfl)) pe_int) pe_int) pe_int) (pg_sub (pv 0) pe_int set_list))
    (pss_one (ps_ret (pe_op op_mod (pe_op op_fdiv (pe_op op_mod (pe_op op_mul (pe_ix (ix_listK (K := K)) (pv 0) pe_int (fun _ _ => rfl)) (pe_ix (ix_listK (K := K)) (pv 0) pe_int (fun _ _ => rfl))) pe_int) pe_int) (pv 1)))))), ?_⟩
    obtain ⟨c, n, hp, n0, n1⟩ := hp
    refine ⟨_, rfl, _, _, _, _, rfl, rfl, SqL.of hp, atI0, _, _, rfl, rfl, _, rfl, ?_⟩
    refine ite2 (fun _ => ?_) (fun _ => ?_)
    · refine ⟨_, rfl, _, _, _, _, rfl, rfl, SqL.of hp, atI0, _, rfl, _, _, rfl, rfl, h0, ?_⟩
      refine ⟨_, rfl, _, _, _, _, rfl, rfl, SqL.of hp, atI0, _, rfl, _, _, rfl, rfl, wide_div h0 (b := 64) (by omega) (by decide) (by decide), _, rfl, _, _, _, 0, rfl, rfl, hp, rfl, ?_⟩
      exact ⟨_, rfl, k _ _ (Int.emod_nonneg _ (by omega)) (Int.emod_lt_of_pos _ h0) (Off.upd (Off.refl _ _)) ⟨_, n, upd_same, n0, n1⟩⟩
    · refine ⟨_, rfl, _, _, _, _, rfl, rfl, SqL.of hp, atI1, _, _, rfl, rfl, .inr ⟨by decide, by decide⟩, _, _, rfl, rfl, _, _, rfl, rfl, (by show (0 : Int) < 2147483647; decide), _, rfl, _, _, _, 1, rfl, rfl, hp, rfl, ?_⟩
      have z0 : 0 ≤ (n * 48271 + 11) % 2147483647 := Int.emod_nonneg _ (by decide)
      have z1 : (n * 48271 + 11) % 2147483647 < 2147483647 := Int.emod_lt_of_pos _ (by decide)
      refine ⟨_, rfl, _, _, _, _, rfl, rfl, SqL.of upd_same, atI1, _, rfl, _, _, _, _, rfl, rfl, SqL.of upd_same, atI1, _, _, rfl, rfl, .inl ⟨by omega, by omega⟩, _, _, rfl, rfl, (by show (0 : Int) < 2147483629; decide), _, _, rfl, rfl, ⟨by decide, by decide⟩, _, rfl, _, _, rfl, rfl, h0, ?_⟩
      exact k _ _ (Int.emod_nonneg _ (by omega)) (Int.emod_lt_of_pos _ h0) (Off.upd (Off.refl _ _)) ⟨_, _, upd_same, z0, z1⟩
theorem sc_law_turned : FnScope ["_law_text", "_law_sign"] ["_law_text"] (defScope s_law_turned) := ⟨rfl, rfl, rfl, by decide +kernel, rfl, by decide +kernel, by decide +kernel⟩
theorem ok_law_turned {f : Addr} {fd : FuncData} (F : Fun K "_law_turned" "_law_turned" s_law_turned f fd) (T : Txt K mg w D_CONTRARY D_NUMBERS D_STEPS C_Canon C_NoRow C_NoStep C_Walk C_World) : FnOk P w K mg base CX0 1 f fd ["_law_text"] (sp_law_turned) := by
  refine F.ok sc_law_turned (fun vs H Q E h => ?_) (fun cdv A outer s H vs Q E hr h => ?_)
  · obtain ⟨l, rfl, _⟩ := h
    all_goals rfl
  · obtain ⟨l, rfl, hl, hz, k⟩ := h
    refine ⟨_, (pss_one (ps_ret (pe_m1 PySem.F.slot_str_join PySem.F.type_str_join (mt_joinK (K := K)) pe_str (pe_lc (own := [("_law_sign", 1)]) (g := gName 1) (tt := tYes) rfl sc_law_turned.nd (pi_str (pe_revS (pv 0))) (blkOk_by (own := [("_law_sign", 1)]) (N := ["_law_text", "_law_sign"]) (sc := defScope s_law_turned) (by decide +kernel)) (fun _ _ _ _ _ => (pg_name (i := 1) sc_law_turned.nd rfl (Or.inl rfl))) (fun _ _ _ _ _ => pts_nil) (fun _ _ _ _ _ => (pe_ix (ix_listK (K := K)) (pe_lst (pa_cons (pe_upper (pv 1)) (pa_cons (pe_lower (pv 1)) pa_nil))) (pe_callTy call_int1 (by rfl) T.b_int (by decide +kernel) (pa_cons (pe_m0 PySem.F.slot_str_isupper PySem.F.type_str_isupper mt_isupper (pv 1)) pa_nil)) (fun _ _ => rfl))))))), ?_⟩
    refine Evl.s_ret (Evl.ev_is (ev_joinMap con Evl.ev_c (by decide) (Evl.ev_revS (Evl.ev_var rfl) (by rw [len_S]; omega)) (by show (S l.reverse).length ≤ _; rw [len_S, List.length_reverse]; omega) (fun _ => rfl) (fun c H1 e hc => ?_)) rfl) fun H1 e => k H1 e
    have hc : c ∈ sgns := hl c (List.mem_reverse.mp hc)
    exact Evl.ev_ixNew (Evl.el_lst (Evl.ea_cons (Evl.ev_m0 (Evl.ev_var rfl) one_le) (Evl.ea_cons (Evl.ev_m0 (Evl.ev_var rfl) one_le) Evl.ea_nil)) (by show 2 ≤ _; decide)) (fun H1 e => Evl.ev_intB (Evl.ev_m0 (Evl.ev_var rfl) trivial)) (at_turn hc)
theorem sc_law_row : FnScope ["_law_pool_here", "_law_most", "_law_deeds", "_law_way", "_law_found", "_law_left", "_law_k", "_law_sign"] ["_law_pool_here", "_law_most", "_law_deeds"] (defScope s_law_row) := ⟨rfl, rfl, rfl, by decide +kernel, rfl, by decide +kernel, by decide +kernel⟩
theorem ok_law_row {f : Addr} {fd : FuncData} (F : Fun K "_law_row" "_law_row" s_law_row f fd) (T : Txt K mg w D_CONTRARY D_NUMBERS D_STEPS C_Canon C_NoRow C_NoStep C_Walk C_World) (kn_law_take : KN P w K mg base CX0 1 ["_law_pool_here", "_law_many"] (sp_law_take) "_law_take" []) (kn_law_turned : KN P w K mg base CX0 1 ["_law_text"] (sp_law_turned) "_law_turned" []) : FnOk P w K mg base CX0 2 f fd ["_law_pool_here", "_law_most", "_law_deeds"] (sp_law_row) := by
  obtain ⟨f_law_take, fd_law_take, ds_law_take, m_law_take, k_law_take, v_law_take, b_law_take, G_law_take⟩ := kn_law_take
  obtain ⟨f_law_turned, fd_law_turned, ds_law_turned, m_law_turned, k_law_turned, v_law_turned, b_law_turned, G_law_turned⟩ := kn_law_turned
  refine F.ok sc_law_row (fun vs H Q E h => ?_) (fun cdv A outer s H vs Q E hr h => ?_)
  · obtain ⟨p, most, deeds, rfl, _⟩ := h
    all_goals rfl
  · obtain ⟨p, most, deeds, rfl, hp, m0, m1, d0, d1, k⟩ := h
    refine ⟨_, (pss_cons (ps_set (i := 3) sc_law_row.nd rfl (Or.inl rfl) (pe_call G_law_take (hr.mono (by decide)) rfl m_law_take k_law_take b_law_take v_law_take pass0 (pa_cons (pv 0) (pa_cons pe_int pa_nil))))
    (pss_cons (ps_set (i := 4) sc_law_row.nd rfl (Or.inl rfl) pe_str)
    (pss_cons (ps_set (i := 5) sc_law_row.nd rfl (Or.inl rfl) pe_str)
    (pss_cons (ps_for PassesOwn.never rfl (pi_range1 (by rfl) T.b_range (pa_cons (pe_call G_law_take (hr.mono (by decide)) rfl m_law_take k_law_take b_law_take v_law_take pass0 (pa_cons (pv 0) (pa_cons (pe_op op_add (pv 1) pe_int) pa_nil))) pa_nil)) (pg_name (i := 6) sc_law_row.nd rfl (Or.inl rfl)) (pss_cons (ps_set (i := 7) sc_law_row.nd rfl (Or.inl rfl) (pe_ix ix_str pe_str (pe_call G_law_take (hr.mono (by decide)) rfl m_law_take k_law_take b_law_take v_law_take pass0 (pa_cons (pv 0) (pa_cons (pe_op op_mul pe_int (pv 2)) pa_nil))) (fun _ _ => rfl)))
    (Evl.pss_cut (ps_if (PW.pt (pw_and (pt_cmpR op_gt (pv 3) pe_int (nomark _)) (pw_and (pt_cmpR op_ne (pv 5) pe_str (nomark _)) (pw_and1 (pt_cmpR op_gt (pe_call G_law_take (hr.mono (by decide)) rfl m_law_take k_law_take b_law_take v_law_take pass0 (pa_cons (pv 0) (pa_cons (pe_op op_add pe_int (pv 3)) pa_nil))) pe_int (nomark _)))))) (pss_cons (ps_set (i := 7) sc_law_row.nd rfl (Or.inl rfl) (pe_call G_law_turned (hr.mono (by decide)) rfl m_law_turned k_law_turned b_law_turned v_law_turned pass0 (pa_cons (pe_ix ix_str (pv 5) (pe_un un_neg pe_int) (fun _ _ => rfl)) pa_nil)))
    (pss_one (ps_set (i := 5) sc_law_row.nd rfl (Or.inl rfl) (pe_slice sl_str (pv 5) po_none (po_some (pe_un un_neg pe_int)))))) (pss_one (ps_set (i := 5) sc_law_row.nd rfl (Or.inl rfl) (pe_op op_add_str (pv 5) (pv 7)))))
    (pss_one (ps_set (i := 4) sc_law_row.nd rfl (Or.inl rfl) (pe_op op_add_str (pv 4) (pv 7)))))))
    (pss_one (ps_ret (pv 4))))))), ?_⟩
    refine ⟨_, rfl, p, 3, rfl, hp, by decide, by decide, fun way H1 w0 w1 o1 p1 => ?_⟩
    refine ⟨_, rfl, _, rfl, _, _, rfl, rfl, p, most + 1, rfl, p1, by omega, by omega, fun n H2 n0 n1 o2 p2 => ?_⟩
    refine ⟨n, rfl, by omega, by omega, for_range (lo := 0) (n := n.toNat) (fun i σ H' => ∃ (l m : List Nat) (x y : Option V), σ = [some (.ref p), some (.int most), some (.int deeds), some (.int way), some (.str (S l)), some (.str (S m)), x, y] ∧
        Row l ∧ Row m ∧ (∀ c ∈ l, (ix c : Int) < 2 * deeds) ∧ (∀ c ∈ m, (ix c : Int) < 2 * deeds) ∧ l.length = i ∧ m.length ≤ i ∧ Off p H H' ∧ Pool H' p)
      ⟨[], [], none, none, rfl, RowM.nil_row, RowM.nil_row, (by intro c q; cases q), (by intro c q; cases q), rfl, Nat.le_refl _, o1.trans o2, p2⟩ ?_ ?_⟩
    · rintro i σ H' hi ⟨l, m, x, y, rfl, hl, hm, il, im, zl, zm, o, hp⟩
      have hin : (i : Int) < n := by omega
      refine ⟨_, rfl, _, rfl, _, _, rfl, rfl, .inl ⟨by decide, by decide⟩, p, 2 * deeds, rfl, hp, by omega, by omega, fun v H3 v0 v1 o3 p3 => ?_⟩
      obtain ⟨c, hc, sc, ic⟩ := sign_of_at (i := v) v0 (by omega) rfl
      refine ⟨_, _, c, rfl, rfl, (by decide), hc, ?_⟩
      have icd : (ix c : Int) < 2 * deeds := by omega
      have z1 : l.length < 2000 := by omega
      have z2 : m.length < 2000 := by omega
      refine ⟨fun σ H' => ∃ (m : List Nat) (c : Nat), σ = [some (.ref p), some (.int most), some (.int deeds), some (.int way), some (.str (S l)), some (.str (S m)), some (.int (0 + i)), some (.str (S [c]))] ∧
        Row m ∧ c ∈ sgns ∧ (∀ c ∈ m, (ix c : Int) < 2 * deeds) ∧ (ix c : Int) < 2 * deeds ∧ m.length ≤ i + 1 ∧ Off p H H' ∧ Pool H' p, ?_, ?_⟩
      · have add : ∀ H4, Off p H H4 → Pool H4 p → ∀ (D : Ends), D.nx = (fun σ H' => ∃ (m : List Nat) (c : Nat), σ = [some (.ref p), some (.int most), some (.int deeds), some (.int way), some (.str (S l)), some (.str (S m)), some (.int (0 + i)), some (.str (S [c]))] ∧
            Row m ∧ c ∈ sgns ∧ (∀ c ∈ m, (ix c : Int) < 2 * deeds) ∧ (ix c : Int) < 2 * deeds ∧ m.length ≤ i + 1 ∧ Off p H H' ∧ Pool H' p) →
            tAsg (tOp (fun x y H Q => ∃ i j, x = V.str i ∧ y = V.str j ∧ i.length + j.length ≤ sizeLine ∧ Q (V.str (i ++ j)) H) (tVar 5) (tVar 7)) (gName 5) D
              [some (.ref p), some (.int most), some (.int deeds), some (.int way), some (.str (S l)), some (.str (S m)), some (.int (0 + i)), some (.str (S [c]))] H4 := fun H4 o4 p4 D hD => by
          refine ⟨_, rfl, _, rfl, _, _, rfl, rfl, sz_str (m := [c]) (by omega) (by simp), ?_⟩
          show D.nx _ _
          rw [hD, add_S]
          exact ⟨m ++ [c], c, rfl, row_snoc hm sc, sc, all_snoc im icd, icd, by simp; omega, o4, p4⟩
        walk_at "rd"
        refine ite2 (fun _ => ?_) (fun _ => iteF (add _ (o.trans o3) p3 _ rfl))
        walk_at "rd"
        refine ite2 (fun q => ?_) (fun _ => iteF (add _ (o.trans o3) p3 _ rfl))
        have mne : m ≠ [] := fun e => by
          subst e
          exact absurd q (by decide)
        refine ⟨_, rfl, _, rfl, _, _, rfl, rfl, p, 1 + way, rfl, p3, by omega, by omega, fun u H4 u0 u1 o4 p4 => ?_⟩
        walk_at "rd"
        refine ite2 (fun _ => ?_) (fun _ => add _ ((o.trans o3).trans o4) p4 _ rfl)
        obtain ⟨m, d, rfl⟩ := exists_snoc mne
        have hd : d ∈ sgns := hm d (by simp)
        refine ⟨_, rfl, _, rfl, _, _, d, rfl, rfl, sz_of' (by rw [len_S]; omega), at_last, [d], rfl, (by intro e he; rw [List.mem_singleton.mp he]; exact hd), (by simp), fun H5 s5 => ?_⟩
        refine ⟨_, rfl, _, rfl, _, rfl, _, rfl, sz_of' (by rw [len_S]; omega), ?_⟩
        rw [cut_last]
        refine ⟨m, con d, rfl, (fun e he => hm e (List.mem_append_left _ he)), RowM.con_mem hd, (fun e he => im e (List.mem_append_left _ he)), ?_, by simp at zm; omega, ((o.trans o3).trans o4).trans (off_of s5), p4.same s5⟩
        have := im d (by simp)
        have q := ix_con hd
        omega
      · rintro σ H4 ⟨m, c, rfl, hm, sc, im, icd, zm, o4, p4⟩
        refine ⟨_, rfl, _, rfl, _, _, rfl, rfl, sz_str (m := [c]) (by omega) (by simp), ?_⟩
        rw [add_S]
        exact ⟨l ++ [c], m, _, _, rfl, row_snoc hl sc, hm, all_snoc il icd, im, by simp [zl], zm, o4, p4⟩
    · rintro σ H' ⟨l, m, x, y, rfl, hl, hm, il, im, zl, zm, o, hp⟩
      exact ⟨_, rfl, k l H' hl (by omega) il o hp⟩
theorem sc_law_other : FnScope ["_law_pool_here", "_law_row_here", "_law_deeds", "_law_way", "_law_at", "_law_more", "_law_some"] ["_law_pool_here", "_law_row_here", "_law_deeds"] (defScope s_law_other) := ⟨rfl, rfl, rfl, by decide +kernel, rfl, by decide +kernel, by decide +kernel⟩
theorem ok_law_other {f : Addr} {fd : FuncData} (F : Fun K "_law_other" "_law_other" s_law_other f fd) (T : Txt K mg w D_CONTRARY D_NUMBERS D_STEPS C_Canon C_NoRow C_NoStep C_Walk C_World) (kn_law_take : KN P w K mg base CX0 1 ["_law_pool_here", "_law_many"] (sp_law_take) "_law_take" []) (kn_law_row : KN P w K mg base CX0 2 ["_law_pool_here", "_law_most", "_law_deeds"] (sp_law_row) "_law_row" []) (kn_law_turned : KN P w K mg base CX0 1 ["_law_text"] (sp_law_turned) "_law_turned" []) : FnOk P w K mg base CX0 3 f fd ["_law_pool_here", "_law_row_here", "_law_deeds"] (sp_law_other K) := by
  obtain ⟨f_law_take, fd_law_take, ds_law_take, m_law_take, k_law_take, v_law_take, b_law_take, G_law_take⟩ := kn_law_take
  obtain ⟨f_law_row, fd_law_row, ds_law_row, m_law_row, k_law_row, v_law_row, b_law_row, G_law_row⟩ := kn_law_row
  obtain ⟨f_law_turned, fd_law_turned, ds_law_turned, m_law_turned, k_law_turned, v_law_turned, b_law_turned, G_law_turned⟩ := kn_law_turned
  refine F.ok sc_law_other (fun vs H Q E h => ?_) (fun cdv A outer s H vs Q E hr h => ?_)
  · obtain ⟨p, l, d, rfl, _⟩ := h
    all_goals rfl
  · obtain ⟨p, l, d, rfl, hp, hl, hz, d0, d1, k⟩ := h
    refine ⟨_, (pss_cons (ps_set (i := 3) sc_law_other.nd rfl (Or.inl rfl) (pe_call G_law_take (hr.mono (by decide)) rfl m_law_take k_law_take b_law_take v_law_take pass0 (pa_cons (pv 0) (pa_cons pe_int pa_nil))))
    (pss_cons (ps_set (i := 4) sc_law_other.nd rfl (Or.inl rfl) (pe_call G_law_take (hr.mono (by decide)) rfl m_law_take k_law_take b_law_take v_law_take pass0 (pa_cons (pv 0) (pa_cons (pe_op op_add (pe_callB call_len_str (by rfl) T.b_len (by decide +kernel) (pa_cons (pv 1) pa_nil)) pe_int) pa_nil))))
    (pss_cons (ps_set (i := 5) sc_law_other.nd rfl (Or.inl rfl) (pe_call G_law_row (hr.mono (by decide)) rfl m_law_row k_law_row b_law_row v_law_row pass0 (pa_cons (pv 0) (pa_cons pe_int (pa_cons (pv 2) pa_nil)))))
    (pss_cons (ps_set (i := 6) sc_law_other.nd rfl (Or.inl rfl) (pe_lst (pa_cons (pe_call G_law_row (hr.mono (by decide)) rfl m_law_row k_law_row b_law_row v_law_row pass0 (pa_cons (pv 0) (pa_cons pe_int (pa_cons (pv 2) pa_nil)))) (pa_cons (pe_op op_add_str (pe_op op_add_str (pv 1) (pv 5)) (pe_call G_law_turned (hr.mono (by decide)) rfl m_law_turned k_law_turned b_law_turned v_law_turned pass0 (pa_cons (pv 5) pa_nil))) (pa_cons (pe_op op_add_str (pe_op op_add_str (pe_op op_add_str (pe_slice sl_str (pv 1) po_none (po_some (pv 4))) (pv 5)) (pe_call G_law_turned (hr.mono (by decide)) rfl m_law_turned k_law_turned b_law_turned v_law_turned pass0 (pa_cons (pv 5) pa_nil))) (pe_slice sl_str (pv 1) (po_some (pv 4)) po_none)) pa_nil)))))
    (pss_cons (ps_set (i := 6) sc_law_other.nd rfl (Or.inl rfl) (pe_op op_cat (pv 6) (pe_lst (pa_cons (pe_op op_add_str (pe_op op_add_str (pe_slice sl_str (pv 1) po_none (po_some (pv 4))) (pe_call G_law_turned (hr.mono (by decide)) rfl m_law_turned k_law_turned b_law_turned v_law_turned pass0 (pa_cons (pe_slice sl_str (pv 1) po_none (po_some (pv 4))) pa_nil))) (pv 1)) (pa_cons (pe_op op_add_str (pe_op op_add_str (pv 1) (pe_call G_law_turned (hr.mono (by decide)) rfl m_law_turned k_law_turned b_law_turned v_law_turned pass0 (pa_cons (pe_slice sl_str (pv 1) (po_some (pv 4)) po_none) pa_nil))) (pe_slice sl_str (pv 1) (po_some (pv 4)) po_none)) (pa_cons (pe_slice sl_str (pv 1) po_none (po_some (pe_un un_neg pe_int))) (pa_cons (pe_op op_add_str (pv 1) (pv 5)) pa_nil)))))))
    (pss_one (ps_ret (pe_slice sl_str (pe_ix (ix_listK (K := K)) (pv 6) (pv 3) (fun _ _ => rfl)) po_none (po_some pe_int))))))))), ?_⟩
    refine ⟨_, rfl, p, 7, rfl, hp, by decide, by decide, fun way H1 w0 w1 o1 p1 => ?_⟩
    refine ⟨_, rfl, _, rfl, _, rfl, sz_of' (by rw [len_S]; omega), _, _, rfl, rfl, ?_⟩
    rw [len_S]
    refine ⟨p, (l.length : Int) + 1, rfl, p1, by omega, by omega, fun at0 H2 a0 a1 o2 p2 => ?_⟩
    obtain ⟨j, rfl⟩ : ∃ j : Nat, at0 = (j : Int) := ⟨at0.toNat, by omega⟩
    have hj : j ≤ l.length := by omega
    refine ⟨_, rfl, _, rfl, p, 4, d, rfl, p2, by decide, by decide, d0, by omega, fun m H3 rm zm _ o3 p3 => ?_⟩
    refine ⟨_, rfl, _, rfl, p, 8, d, rfl, p3, by decide, by decide, d0, by omega, fun u H4 ru zu _ o4 p4 => ?_⟩
    have zt : (l.take j).length ≤ 60 := by rw [List.length_take]; omega
    have zd : (l.drop j).length ≤ 60 := by rw [List.length_drop]; omega
    have ztt : (RowM.turn (l.take j)).length ≤ 60 := by rw [RowM.turn_length]; exact zt
    have ztd : (RowM.turn (l.drop j)).length ≤ 60 := by rw [RowM.turn_length]; exact zd
    have ztm : (RowM.turn m).length ≤ 4 := by rw [RowM.turn_length]; omega
    have rt := row_take hl j
    have rd := row_drop hl j
    refine ⟨_, rfl, _, rfl, _, _, rfl, rfl, sz_str (by omega) (by omega), ?_⟩
    rw [add_S]
    refine ⟨_, rfl, m, rfl, rm, by omega, fun H5 s5 => ⟨_, _, rfl, rfl, sz_str (by simp; omega) (by omega), ?_⟩⟩
    rw [add_S]
    refine ⟨_, rfl, _, rfl, _, rfl, _, rfl, sz_of' (by rw [len_S]; omega), ?_⟩
    rw [cut_take]
    refine ⟨_, rfl, _, _, rfl, rfl, sz_str (by omega) (by omega), ?_⟩
    rw [add_S]
    refine ⟨_, rfl, m, rfl, rm, by omega, fun H6 s6 => ⟨_, _, rfl, rfl, sz_str (by simp only [List.length_append]; omega) (by omega), ?_⟩⟩
    rw [add_S]
    refine ⟨_, rfl, _, rfl, _, rfl, _, rfl, sz_of' (by rw [len_S]; omega), ?_⟩
    rw [cut_from]
    refine ⟨_, _, rfl, rfl, sz_str (by simp only [List.length_append]; omega) (by omega), ?_⟩
    rw [add_S]
    refine ⟨by show 3 ≤ sizeLine; decide, fun A hA => ?_⟩
    -- the others
    refine ⟨_, rfl, _, rfl, _, rfl, _, rfl, _, rfl, sz_of' (by rw [len_S]; omega), ?_⟩
    rw [cut_take]
    refine ⟨_, rfl, _, rfl, _, rfl, _, rfl, sz_of' (by rw [len_S]; omega), ?_⟩
    rw [cut_take]
    refine ⟨l.take j, rfl, rt, by omega, fun H7 s7 => ⟨_, _, rfl, rfl, sz_str (by omega) (by omega), ?_⟩⟩
    rw [add_S]
    refine ⟨_, rfl, _, _, rfl, rfl, sz_str (by simp only [List.length_append]; omega) (by omega), ?_⟩
    rw [add_S]
    refine ⟨_, rfl, _, rfl, _, rfl, _, rfl, _, rfl, sz_of' (by rw [len_S]; omega), ?_⟩
    rw [cut_from]
    refine ⟨l.drop j, rfl, rd, by omega, fun H8 s8 => ⟨_, _, rfl, rfl, sz_str (by omega) (by omega), ?_⟩⟩
    rw [add_S]
    refine ⟨_, rfl, _, rfl, _, rfl, _, rfl, sz_of' (by rw [len_S]; omega), ?_⟩
    rw [cut_from]
    refine ⟨_, _, rfl, rfl, sz_str (by simp only [List.length_append]; omega) (by omega), ?_⟩
    rw [add_S]
    refine ⟨_, rfl, _, rfl, _, rfl, _, rfl, sz_of' (by rw [len_S]; omega), ?_⟩
    rw [cut_m1]
    refine ⟨_, rfl, _, rfl, _, _, rfl, rfl, sz_str (by omega) (by omega), ?_⟩
    rw [add_S]
    refine ⟨by show 4 ≤ sizeLine; decide, fun B hB => ?_⟩
    have gA := Same.new (o := .lst [.str (S (l.take j ++ RowM.turn (l.take j) ++ l)), .str (S (l ++ RowM.turn (l.drop j) ++ l.drop j)), .str (S l.dropLast), .str (S (l ++ m))]) hB _ _ (s8 _ _ (s7 _ _ (upd_same (H := H6) (a := A) (o := .lst [.str (S u), .str (S (l ++ m ++ RowM.turn m)), .str (S (l.take j ++ m ++ RowM.turn m ++ l.drop j))]))))
    refine ⟨A, B, _, _, rfl, rfl, gA, upd_same, by show 3 + 4 ≤ sizeLine; decide, fun C hC => ?_⟩
    obtain ⟨y, hy, my⟩ := at_in (L := [.str (S u), .str (S (l ++ m ++ RowM.turn m)), .str (S (l.take j ++ m ++ RowM.turn m ++ l.drop j))] ++ [.str (S (l.take j ++ RowM.turn (l.take j) ++ l)), .str (S (l ++ RowM.turn (l.drop j) ++ l.drop j)), .str (S l.dropLast), .str (S (l ++ m))]) (by exact w0) (by exact w1)
    have rtm := RowM.turn_row rm
    have all : ∃ r, y = .str (S r) ∧ Row r ∧ r.length ≤ 300 := by
      simp only [List.cons_append, List.nil_append, List.mem_cons, List.not_mem_nil, or_false] at my
      rcases my with rfl | rfl | rfl | rfl | rfl | rfl | rfl
      · exact ⟨_, rfl, ru, by omega⟩
      · exact ⟨_, rfl, row_app (row_app hl rm) rtm, by simp only [List.length_append]; omega⟩
      · exact ⟨_, rfl, row_app (row_app (row_app rt rm) rtm) rd, by simp only [List.length_append]; omega⟩
      · exact ⟨_, rfl, row_app (row_app rt (RowM.turn_row rt)) hl, by simp only [List.length_append]; omega⟩
      · exact ⟨_, rfl, row_app (row_app hl (RowM.turn_row rd)) rd, by simp only [List.length_append]; omega⟩
      · exact ⟨_, rfl, fun c hc => hl c (List.dropLast_subset _ hc), by rw [List.length_dropLast]; omega⟩
      · exact ⟨_, rfl, row_app hl rm, by simp only [List.length_append]; omega⟩
    obtain ⟨r, rfl, rr, zr⟩ := all
    refine ⟨_, rfl, _, rfl, _, _, _, _, rfl, rfl, SqL.of upd_same, hy, _, rfl, _, rfl, sz_of' (by rw [len_S]; omega), ?_⟩
    rw [show cutS (S r) none (some 60) = S (r.take 60) from cut_take r 60]
    have o4 := (((o1.trans o2).trans o3).trans o4)
    have npA : p ≠ A := (p4.same (Same.trans s5 s6)).ne hA
    have p6 := (p4.same (Same.trans s5 s6)).new (o := .lst [.str (S u), .str (S (l ++ m ++ RowM.turn m)), .str (S (l.take j ++ m ++ RowM.turn m ++ l.drop j))]) hA
    have fin : ∀ H9, Same H8 H9 → Q (.str (S (r.take 60))) H9 := fun H9 s9 => by
      have sx := Same.trans (Same.trans s5 s6) (Same.trans (Same.new (o := .lst [.str (S u), .str (S (l ++ m ++ RowM.turn m)), .str (S (l.take j ++ m ++ RowM.turn m ++ l.drop j))]) hA) (Same.trans s7 (Same.trans s8 s9)))
      exact k (r.take 60) H9 (row_take rr 60) (by rw [List.length_take]; omega) (o4.trans (off_of sx)) (p4.same sx)
    exact fin _ (Same.trans (Same.new hB) (Same.new hC))
theorem sc_is_row_within : FnScope ["thing", "most", "sign"] ["thing", "most"] (defScope s_is_row_within) := ⟨rfl, rfl, rfl, by decide +kernel, rfl, by decide +kernel, by decide +kernel⟩
theorem ok_is_row_within {f : Addr} {fd : FuncData} (F : Fun K "is_row_within" "is_row_within" s_is_row_within f fd) (T : Txt K mg w D_CONTRARY D_NUMBERS D_STEPS C_Canon C_NoRow C_NoStep C_Walk C_World) : FnOk P w K mg base CX0 1 f fd ["thing", "most"] (sp_is_row_within) := by
  refine F.ok sc_is_row_within (fun vs H Q E h => ?_) (fun cdv A outer s H vs Q E hr h => ?_)
  · obtain ⟨x, most, r, rfl, _⟩ := h
    all_goals rfl
  · obtain ⟨x, most, r, rfl, hx, k⟩ := h
    refine ⟨_, (pss_one (ps_ret (pe_and (pe_callB (call_isiK1 (K := K)) (by rfl) T.b_isinstance (by decide +kernel) (pa_cons (pv 0) (pa_cons (pe_bltn (v := .ty "str") (by rfl) T.b_str (by decide +kernel) rfl) pa_nil))) (pe_and (pe_cmpR op_le (pe_callB call_len_str (by rfl) T.b_len (by decide +kernel) (pa_cons (pv 0) pa_nil)) (pv 1) (nomark _)) (pe_one (pe_callB (cr_allK (K := K) rfl) (by rfl) T.b_all (by decide +kernel) (pa_cons (pe_lc (own := [("sign", 2)]) (g := gName 2) (tt := tYes) rfl sc_is_row_within.nd (pi_str (pv 0)) (blkOk_by (own := [("sign", 2)]) (N := ["thing", "most", "sign"]) (sc := defScope s_is_row_within) (by decide +kernel)) (fun _ _ _ _ _ => (pg_name (i := 2) sc_is_row_within.nd rfl (Or.inl rfl))) (fun _ _ _ _ _ => pts_nil) (fun _ _ _ _ _ => (pe_cmpR op_in_sign (pv 2) (pe_globC T.g_SIGNS) rfl))) pa_nil))))))), ?_⟩
    obtain ⟨u, hu, ru⟩ := T.g_SIGNS
    rcases hx with ⟨l, rfl, hz, rfl⟩ | ⟨hx, rfl⟩
    · refine Evl.s_ret (Evl.ev_is (Evl.ev_andV (Evl.ev_isi (Evl.ev_var rfl) Evl.ev_c (.ty "str") (fun _ _ => .base (.str _)) (kit_ty (r := true) (by decide +kernel)))
        (fun _ => Evl.ev_andV (Evl.ev_op (Evl.ev_lenS (Evl.ev_var rfl) (by rw [len_S]; omega)) (Evl.ev_var rfl) Evl.rv_I0)
          (fun _ => Evl.ev_allN (bs := l.map fun c => decide (c ∈ sgns)) (el_is (Evl.el_mapS (fun c => .bl (decide (c ∈ sgns))) (Evl.ev_var rfl) (by rw [len_S]; omega) (fun _ => rfl)
            (fun c H1 e hc => Evl.ev_is (Evl.ev_op (Evl.ev_var rfl) Evl.ev_c Evl.rv_inS) (by rw [decide_eq_decide.mpr (iff_of_eq (sgns_mem c))]))) (by rw [List.map_map]; rfl))))) ?_) fun H1 e => k H1 e
      rw [len_S]
      simp [List.all_map, Function.comp]
    · obtain ⟨t, ht, hk⟩ := hx.ty (K := K)
      refine Evl.s_ret (v := .bl (false && false)) (Evl.ev_andV (a := false) (fun H1 e Q q => ?_) (fun h => by cases h)) fun H1 e => k H1 e
      obtain ⟨t, ht, hk⟩ := (NotStr.same hx e).ty (K := K)
      exact ⟨_, rfl, x, _, _, _, false, rfl, .ty "str", ht, kit_ty hk, q H1 (Evl.Ex.refl H1)⟩
theorem sc_is_row : FnScope ["thing"] ["thing"] (defScope s_is_row) := ⟨rfl, rfl, rfl, by decide +kernel, rfl, by decide +kernel, by decide +kernel⟩
theorem ok_is_row {f : Addr} {fd : FuncData} (F : Fun K "is_row" "is_row" s_is_row f fd) (T : Txt K mg w D_CONTRARY D_NUMBERS D_STEPS C_Canon C_NoRow C_NoStep C_Walk C_World) (kn_is_row_within : KN P w K mg base CX0 1 ["thing", "most"] (sp_is_row_within) "is_row_within" []) : FnOk P w K mg base CX0 2 f fd ["thing"] (sp_is_row) := by
  obtain ⟨f_is_row_within, fd_is_row_within, ds_is_row_within, m_is_row_within, k_is_row_within, v_is_row_within, b_is_row_within, G_is_row_within⟩ := kn_is_row_within
  refine F.ok sc_is_row (fun vs H Q E h => ?_) (fun cdv A outer s H vs Q E hr h => ?_)
  · obtain ⟨l, rfl, _⟩ := h
    all_goals rfl
  · obtain ⟨l, rfl, hz, k⟩ := h
    refine ⟨_, (pss_one (ps_ret (pe_call G_is_row_within (hr.mono (by decide)) rfl m_is_row_within k_is_row_within b_is_row_within v_is_row_within pass0 (pa_cons (pv 0) (pa_cons (pe_globC T.g_MOST_SIGNS) pa_nil))))), ?_⟩
    refine ⟨_, rfl, .str (S l), 60, _, rfl, .inl ⟨l, rfl, hz, rfl⟩, fun H1 e => ?_⟩
    have q := k H1 e
    unfold isRow at q
    have z : decide ((l.length : Int) ≤ 60) = decide (l.length ≤ 60) := decide_eq_decide.mpr (by omega)
    rw [z]
    exact q
theorem sc_look_at_row : FnScope ["thing"] ["thing"] (defScope s_look_at_row) := ⟨rfl, rfl, rfl, by decide +kernel, rfl, by decide +kernel, by decide +kernel⟩
theorem ok_look_at_row {f : Addr} {fd : FuncData} (F : Fun K "look_at_row" "look_at_row" s_look_at_row f fd) (T : Txt K mg w D_CONTRARY D_NUMBERS D_STEPS C_Canon C_NoRow C_NoStep C_Walk C_World) (kn_is_row : KN P w K mg base CX0 2 ["thing"] (sp_is_row) "is_row" []) : FnOk P w K mg base CX0 3 f fd ["thing"] (sp_look_at_row) := by
  obtain ⟨f_is_row, fd_is_row, ds_is_row, m_is_row, k_is_row, v_is_row, b_is_row, G_is_row⟩ := kn_is_row
  refine F.ok sc_look_at_row (fun vs H Q E h => ?_) (fun cdv A outer s H vs Q E hr h => ?_)
  · obtain ⟨l, rfl, _⟩ := h
    all_goals rfl
  · obtain ⟨l, rfl, hl, k⟩ := h
    refine ⟨_, (pss_one (ps_if (pt_not (pt_val (pe_call G_is_row (hr.mono (by decide)) rfl m_is_row k_is_row b_is_row v_is_row pass0 (pa_cons (pv 0) pa_nil)))) (pss_one ps_never) pss_nil)), ?_⟩
    have hz := (isRow_iff.mp hl).1
    refine ⟨_, rfl, l, rfl, by omega, fun H1 e => ⟨_, rfl, ?_⟩⟩
    rw [hl]
    exact iteF (k H1 e)
theorem sc_contrary_sign : FnScope ["sign"] ["sign"] (defScope s_contrary_sign) := ⟨rfl, rfl, rfl, by decide +kernel, rfl, by decide +kernel, by decide +kernel⟩
theorem ok_contrary_sign {f : Addr} {fd : FuncData} (F : Fun K "contrary_sign" "contrary_sign" s_contrary_sign f fd) (T : Txt K mg w D_CONTRARY D_NUMBERS D_STEPS C_Canon C_NoRow C_NoStep C_Walk C_World) : FnOk P w K mg base CX0 1 f fd ["sign"] (sp_contrary_sign) := by
  refine F.ok sc_contrary_sign (fun vs H Q E h => ?_) (fun cdv A outer s H vs Q E hr h => ?_)
  · obtain ⟨c, rfl, _⟩ := h
    all_goals rfl
  · obtain ⟨c, rfl, hc, k⟩ := h
    refine ⟨_, (pss_one (ps_ret (pe_ifExp (pt_val (pe_m0 PySem.F.slot_str_isupper PySem.F.type_str_isupper mt_isupper (pv 0))) (pe_lower (pv 0)) (pe_upper (pv 0))))), ?_⟩
    refine Evl.s_ret (Evl.ev_is (Evl.ev_ifv (Evl.et_B (Evl.ev_m0 (Evl.ev_var rfl) trivial)) (fun _ => Evl.ev_m0 (Evl.ev_var rfl) one_le) (fun _ => Evl.ev_m0 (Evl.ev_var rfl) one_le)) ?_) fun H1 e => k H1 e
    rw [up1 c hc, low1 c hc, isup1 c hc]
    unfold con lo up
    by_cases h : c < 97
    · have h2 : ¬ 97 ≤ c := by omega
      rw [decide_eq_true h, if_pos rfl, if_neg h2, if_neg h2]
    · have h2 : 97 ≤ c := by omega
      rw [decide_eq_false h, if_neg (by decide), if_pos h2, if_pos h2]
theorem sc_made_plain : FnScope ["text", "found", "sign"] ["text"] (defScope s_made_plain) := ⟨rfl, rfl, rfl, by decide +kernel, rfl, by decide +kernel, by decide +kernel⟩
theorem ok_made_plain {f : Addr} {fd : FuncData} (F : Fun K "made_plain" "made_plain" s_made_plain f fd) (T : Txt K mg w D_CONTRARY D_NUMBERS D_STEPS C_Canon C_NoRow C_NoStep C_Walk C_World) (kn_contrary_sign : KN P w K mg base CX0 1 ["sign"] (sp_contrary_sign) "contrary_sign" []) : FnOk P w K mg base CX0 2 f fd ["text"] (sp_made_plain) := by
  obtain ⟨f_contrary_sign, fd_contrary_sign, ds_contrary_sign, m_contrary_sign, k_contrary_sign, v_contrary_sign, b_contrary_sign, G_contrary_sign⟩ := kn_contrary_sign
  refine F.ok sc_made_plain (fun vs H Q E h => ?_) (fun cdv A outer s H vs Q E hr h => ?_)
  · obtain ⟨l, rfl, _⟩ := h
    all_goals rfl
  · obtain ⟨l, rfl, hl, hz, k⟩ := h
    refine ⟨_, (pss_cons (ps_set (i := 1) sc_made_plain.nd rfl (Or.inl rfl) pe_str)
    (pss_cons (ps_for PassesOwn.never rfl (pi_str (pv 0)) (pg_name (i := 2) sc_made_plain.nd rfl (Or.inl rfl)) (pss_one (ps_if (pt_val (pe_m1 PySem.F.slot_str_endswith PySem.F.type_str_endswith mt_endswith (pv 1) (pe_call G_contrary_sign (hr.mono (by decide)) rfl m_contrary_sign k_contrary_sign b_contrary_sign v_contrary_sign pass0 (pa_cons (pv 2) pa_nil)))) (pss_one (ps_set (i := 1) sc_made_plain.nd rfl (Or.inl rfl) (pe_slice sl_str (pv 1) po_none (po_some (pe_un un_neg pe_int))))) (pss_one (ps_aug (i := 1) sc_made_plain.nd rfl (Or.inl rfl) (pv 2) iop_add_str)))))
    (pss_one (ps_ret (pv 1))))), ?_⟩
    refine ⟨_, rfl, _, rfl, for_it walk_str (fun i σ H' => ∃ x, σ = [some (.str (S l)), some (.str (S (RowM.plain (l.take i)))), x] ∧ Same H H') ⟨_, rfl, Same.refl H⟩ (fun _ _ _ _ _ => trivial) ?_ ?_⟩
    · rintro i v σ H3 H4 hi ⟨x, rfl, s3⟩ ⟨rfl, c, hc, rfl⟩
      have hc' : l[i]? = some c := by simpa using hc
      have sc : c ∈ sgns := hl c (List.mem_of_getElem? hc')
      have em := made_on hc'
      have pz : (RowM.plain (l.take i)).length ≤ 40000 := Nat.le_trans (RowM.plain_length _) (by rw [List.length_take]; omega)
      obtain ⟨p, ep⟩ : ∃ p, p = RowM.plain (l.take i) := ⟨_, rfl⟩
      rw [← ep] at em pz ⊢
      refine ⟨_, rfl, ⟨_, rfl⟩, _, rfl, c, rfl, sc, fun H5 s5 => ⟨_, _, rfl, rfl, _, rfl, ?_⟩⟩
      rw [ends_last]
      by_cases q : p.getLast? = some (con c)
      · rw [decide_eq_true q]
        obtain ⟨m, d, e⟩ := exists_snoc (m := p) (fun z => by rw [z] at q; cases q)
        subst e
        have ed : d = con c := by simpa using q
        subst ed
        refine iteT ⟨_, rfl, _, rfl, _, rfl, _, rfl, sz_of' (by rw [len_S]; omega), ?_⟩
        rw [cut_last]
        rw [on_snoc] at em
        exact ⟨_, by rw [em]; rfl, Same.trans s3 s5⟩
      · rw [decide_eq_false q]
        rw [on_else q] at em
        refine iteF ⟨_, rfl, _, rfl, _, _, rfl, rfl, sz_of' (by rw [len_S]; show p.length + 1 ≤ _; omega), ?_⟩
        have ea : S p ++ (⟨#[c]⟩ : Str) = S (p ++ [c]) := add_S p [c]
        rw [ea]
        exact ⟨_, by rw [em]; rfl, Same.trans s3 s5⟩
    rintro σ H3 ⟨x, rfl, s3⟩
    have et : l.take (S l).cps.size = l := by
      have : (S l).cps.size = l.length := len_S l
      rw [this, List.take_length]
    rw [et]
    exact ⟨_, rfl, k H3 s3⟩
theorem sc_is_plain_row : FnScope ["thing"] ["thing"] (defScope s_is_plain_row) := ⟨rfl, rfl, rfl, by decide +kernel, rfl, by decide +kernel, by decide +kernel⟩
theorem ok_is_plain_row {f : Addr} {fd : FuncData} (F : Fun K "is_plain_row" "is_plain_row" s_is_plain_row f fd) (T : Txt K mg w D_CONTRARY D_NUMBERS D_STEPS C_Canon C_NoRow C_NoStep C_Walk C_World) (kn_is_row : KN P w K mg base CX0 2 ["thing"] (sp_is_row) "is_row" []) (kn_made_plain : KN P w K mg base CX0 2 ["text"] (sp_made_plain) "made_plain" []) : FnOk P w K mg base CX0 3 f fd ["thing"] (sp_is_plain_row) := by
  obtain ⟨f_is_row, fd_is_row, ds_is_row, m_is_row, k_is_row, v_is_row, b_is_row, G_is_row⟩ := kn_is_row
  obtain ⟨f_made_plain, fd_made_plain, ds_made_plain, m_made_plain, k_made_plain, v_made_plain, b_made_plain, G_made_plain⟩ := kn_made_plain
  refine F.ok sc_is_plain_row (fun vs H Q E h => ?_) (fun cdv A outer s H vs Q E hr h => ?_)
  · obtain ⟨l, rfl, _⟩ := h
    all_goals rfl
  · obtain ⟨l, rfl, hl, k⟩ := h
    refine ⟨_, (pss_one (ps_ret (pe_and (pe_call G_is_row (hr.mono (by decide)) rfl m_is_row k_is_row b_is_row v_is_row pass0 (pa_cons (pv 0) pa_nil)) (pe_one (pe_cmpR op_eq (pe_call G_made_plain (hr.mono (by decide)) rfl m_made_plain k_made_plain b_made_plain v_made_plain pass0 (pa_cons (pv 0) pa_nil)) (pv 0) (nomark _)))))), ?_⟩
    obtain ⟨zl, rl⟩ := isRow_iff.mp hl
    refine ⟨_, rfl, l, rfl, by omega, fun H1 s1 => ⟨_, rfl, ?_⟩⟩
    rw [hl]
    refine iteT ⟨_, rfl, l, rfl, rl, by omega, fun H2 s2 => ⟨_, rfl, rfl, ?_⟩⟩
    have e : decide (V.str (S (RowM.plain l)) = V.str (S l)) = decide (RowM.plain l = l) := decide_eq_decide.mpr ⟨sT_inj, fun h => by rw [h]⟩
    rw [e]
    exact k H2 (Same.trans s1 s2)
theorem sc_first_wrong : FnScope ["places", "known", "number", "thing", "place"] ["places"] (defScope s_first_wrong) := ⟨rfl, rfl, rfl, by decide +kernel, rfl, by decide +kernel, by decide +kernel⟩
theorem ok_first_wrong {f : Addr} {fd : FuncData} (F : Fun K "first_wrong" "first_wrong" s_first_wrong f fd) (T : Txt K mg w D_CONTRARY D_NUMBERS D_STEPS C_Canon C_NoRow C_NoStep C_Walk C_World) (kn_is_plain_row : KN P w K mg base CX0 3 ["thing"] (sp_is_plain_row) "is_plain_row" []) : FnOk P w K mg base CX0 4 f fd ["places"] (sp_first_wrong K) := by
  obtain ⟨f_is_plain_row, fd_is_plain_row, ds_is_plain_row, m_is_plain_row, k_is_plain_row, v_is_plain_row, b_is_plain_row, G_is_plain_row⟩ := kn_is_plain_row
  refine F.ok sc_first_wrong (fun vs H Q E h => ?_) (fun cdv A outer s H vs Q E hr h => ?_)
  · obtain ⟨q, ts, rfl, _⟩ := h
    all_goals rfl
  · obtain ⟨q, ts, rfl, hq, ht, k⟩ := h
    refine ⟨_, (pss_cons (ps_set (i := 1) sc_first_wrong.nd rfl (Or.inl rfl) pe_dnewK)
    (pss_cons (ps_for PassesOwn.never rfl (pi_enum (by rfl) T.b_enumerate (pa_cons (pv 0) pa_nil)) (pg_tup rfl (pgs_cons (pg_name (i := 2) sc_first_wrong.nd rfl (Or.inl rfl)) (pgs_cons (pg_name (i := 3) sc_first_wrong.nd rfl (Or.inl rfl)) pgs_nil))) (pss_cons (ps_if (PW.pt (pw_or (pt_not (pt_val (pe_call G_is_plain_row (hr.mono (by decide)) rfl m_is_plain_row k_is_plain_row b_is_plain_row v_is_plain_row pass0 (pa_cons (pv 3) pa_nil)))) (pw_or1 (pt_cmp (pc_din (hu_of hr) (pv 3) (pv 1)))))) (pss_one (ps_ret (pv 2))) pss_nil)
    (pss_one (ps_dput (hu_of hr) (pv 1) (pv 3) pe_bl rfl))))
    (pss_cons (ps_for PassesOwn.never rfl (pi_enum (by rfl) T.b_enumerate (pa_cons (pv 0) pa_nil)) (pg_tup rfl (pgs_cons (pg_name (i := 2) sc_first_wrong.nd rfl (Or.inl rfl)) (pgs_cons (pg_name (i := 4) sc_first_wrong.nd rfl (Or.inl rfl)) pgs_nil))) (pss_one (ps_if (PW.pt (pw_and (pt_cmpR op_ne (pv 4) pe_str (nomark _)) (pw_and1 (pt_cmp (pc_dnotin (hu_of hr) (pe_slice sl_str (pv 4) po_none (po_some (pe_un un_neg pe_int))) (pv 1)))))) (pss_one (ps_ret (pv 2))) pss_nil)))
    (pss_one (ps_ret pe_non))))), ?_⟩
    refine fun d hd => ?_
    have s0 := Same.new (o := .dK []) hd
    have lt : (ts.map sT).length = ts.length := List.length_map ..
    refine ⟨_, rfl, q, _, rfl, s0.seq hq, for_it walk_enum (fun i σ H' => ∃ x y z, σ = [some (.ref q), some (.ref d), x, y, z] ∧ Same H H' ∧ H' d = some (.dK (kvT (ts.take i)))) ⟨_, _, _, rfl, s0, upd_same⟩ (fun _ _ _ _ ⟨_, _, _, _, s, _⟩ => s.seq hq) ?_ ?_⟩
    · rintro i v σ H3 H4 hi ⟨x, y, z, rfl, s3, g3⟩ ⟨t, u, w, rfl, nt, rfl, hu, hw⟩
      have hw : (ts.map sT)[i]? = some w := hw
      rw [List.getElem?_map] at hw
      obtain ⟨p, hp, rfl⟩ := Option.map_eq_some_iff.mp hw
      injection hu with hu
      subst hu
      have pm := List.mem_of_getElem? hp
      have rp := ht.row pm
      have s4 := Same.new (o := .tup [.int (i : Nat), sT p]) nt
      have nd : t ≠ d := fun e => by rw [e, g3] at nt; cases nt
      refine ⟨t, [_, _], rfl, SqT.of upd_same, rfl, _, _, rfl, _, _, rfl, rfl, ?_⟩
      refine ⟨_, rfl, p, rfl, rp, fun H5 s5 => ⟨_, rfl, ?_⟩⟩
      rw [decide_eq_true (WalkM.plain_prow (ht.t.pr p pm))]
      have g5 := s5 _ _ (s4 _ _ g3)
      refine iteF ⟨_, rfl, _, rfl, d, _, rfl, DGet.k (k := kT p) g5, _, rfl, ?_⟩
      have np : p ∉ ts.take i := fun h => by
        have hl := (List.getElem?_eq_some_iff.mp hp).1
        obtain ⟨j, hj, e⟩ := List.getElem_of_mem h
        rw [List.length_take] at hj
        rw [List.getElem_take] at e
        have e2 := (List.getElem?_eq_some_iff.mp hp).2
        have := (List.getElem_inj ht.t.nd).mp (e.trans e2.symm)
        omega
      rw [val_T, if_neg np]
      refine iteF ⟨_, rfl, _, rfl, d, _, rfl, DPut.k (k := kT p) g5 (by rw [len_kvT]; exact Nat.lt_of_le_of_lt (List.length_take_le ..) (Nat.lt_of_le_of_lt (Nat.le_trans (by omega : i ≤ ts.length) ht.n1) (by decide))), ?_⟩
      refine ⟨_, _, _, rfl, fun b o hb => ?_, ?_⟩
      · rw [upd_ne (fun e => by rw [e, hd] at hb; cases hb)]
        exact s5 _ _ (s4 _ _ (s3 _ _ hb))
      · rw [upd_same, put_T]
        unfold addK
        rw [if_neg np, List.take_add_one, hp]
        rfl
    rintro σ H3 ⟨x, y, z, rfl, s3, g3⟩
    rw [lt, List.take_length] at g3
    refine ⟨_, rfl, q, _, rfl, s3.seq hq, for_it walk_enum (fun i σ H' => ∃ x y z, σ = [some (.ref q), some (.ref d), x, y, z] ∧ Same H3 H') ⟨_, _, _, rfl, Same.refl _⟩ (fun _ _ _ _ ⟨_, _, _, _, s⟩ => s.seq (s3.seq hq)) ?_ ?_⟩
    · rintro i v σ H4 H5 hi ⟨x, y, z, rfl, s4⟩ ⟨t, u, w, rfl, nt, rfl, hu, hw⟩
      have hw : (ts.map sT)[i]? = some w := hw
      rw [List.getElem?_map] at hw
      obtain ⟨p, hp, rfl⟩ := Option.map_eq_some_iff.mp hw
      injection hu with hu
      subst hu
      have pm := List.mem_of_getElem? hp
      have s5 := Same.new (o := .tup [.int (i : Nat), sT p]) nt
      refine ⟨t, [_, _], rfl, SqT.of upd_same, rfl, _, _, rfl, _, _, rfl, rfl, ?_⟩
      refine ⟨_, rfl, rfl, _, rfl, ?_⟩
      by_cases e : p = []
      · subst e
        exact iteF (iteF ⟨_, _, _, rfl, Same.trans s4 s5⟩)
      · have ne : decide (sT p = V.str (Str.ofString "")) = false := decide_eq_false fun h => e (sT_inj (l := p) (m := []) h)
        rw [ne]
        obtain ⟨m, c, rfl⟩ := exists_snoc e
        refine iteT ⟨_, rfl, _, rfl, _, rfl, _, rfl, sz_of' (by rw [len_S]; have := ht.z _ pm; omega), ?_⟩
        rw [cut_last]
        have g := s5 _ _ (s4 _ _ g3)
        refine ⟨_, rfl, d, _, rfl, DGet.k (k := kT m) g, _, rfl, ?_⟩
        have hm : m ∈ ts := by
          have := ht.t.cl _ pm e
          simpa using this
        rw [val_T, if_pos hm]
        exact iteF ⟨_, _, _, rfl, Same.trans s4 s5⟩
    rintro σ H4 ⟨x, y, z, rfl, s4⟩
    exact k H4 (Same.trans s3 s4)
theorem sc_rank : FnScope ["text", "sign"] ["text"] (defScope s_rank) := ⟨rfl, rfl, rfl, by decide +kernel, rfl, by decide +kernel, by decide +kernel⟩
theorem ok_rank {f : Addr} {fd : FuncData} (F : Fun K "rank" "rank" s_rank f fd) (T : Txt K mg w D_CONTRARY D_NUMBERS D_STEPS C_Canon C_NoRow C_NoStep C_Walk C_World) : FnOk P w K mg base CX0 1 f fd ["text"] (sp_rank) := by
  refine F.ok sc_rank (fun vs H Q E h => ?_) (fun cdv A outer s H vs Q E hr h => ?_)
  · obtain ⟨l, rfl, _⟩ := h
    all_goals rfl
  · obtain ⟨l, rfl, hl, hz, k⟩ := h
    refine ⟨_, (pss_one (ps_ret (pe_tup (pa_cons (pe_callB call_len_str (by rfl) T.b_len (by decide +kernel) (pa_cons (pv 0) pa_nil)) (pa_cons (pe_lc (own := [("sign", 1)]) (g := gName 1) (tt := tYes) rfl sc_rank.nd (pi_str (pv 0)) (blkOk_by (own := [("sign", 1)]) (N := ["text", "sign"]) (sc := defScope s_rank) (by decide +kernel)) (fun _ _ _ _ _ => (pg_name (i := 1) sc_rank.nd rfl (Or.inl rfl))) (fun _ _ _ _ _ => pts_nil) (fun _ _ _ _ _ => (pe_m1 PySem.F.slot_str_index PySem.F.type_str_index mt_sindex (pe_globC T.g_SIGNS) (pv 1)))) pa_nil))))), ?_⟩
    refine ⟨_, rfl, _, rfl, by rw [len_S]; exact sz_of' (by omega), ?_⟩
    refine Evl.el_mapS (fun c => .int (ix c : Nat)) (Evl.ev_var rfl) (by rw [len_S]; omega) (fun _ => rfl) (fun c H1 e hc => ?_) H (Evl.Ex.refl H) _ fun q H1 nq e1 hq => ?_
    · obtain ⟨r, hr⟩ := six1 c (hl c hc)
      exact fun H2 e2 Q q => ⟨⟨_, rfl⟩, _, rfl, _, S [c], ix c, r, rfl, rfl, hr, q H2 (Evl.Ex.refl H2)⟩
    · refine ⟨by show 2 ≤ sizeLine; decide, fun t ht => ?_⟩
      rw [len_S]
      exact k t q _ (Same.trans e1 (Same.new ht)) (Same.free e1 ht) upd_same (by rw [upd_ne (ne_of_none hq ht)]; exact hq)
theorem sc_Walk___init__ : FnScope ["self", "places", "end", "some", "wrong"] ["self", "places", "end"] (defScope s_Walk___init__) := ⟨rfl, rfl, rfl, by decide +kernel, rfl, by decide +kernel, by decide +kernel⟩
theorem ok_Walk___init__ {f : Addr} {fd : FuncData} (F : FunD K "__init__" "Walk.__init__" (defArgs s_Walk___init__) (defBody s_Walk___init__) (defScope s_Walk___init__) [.non, .str ""] [] f fd) (T : Txt K mg w D_CONTRARY D_NUMBERS D_STEPS C_Canon C_NoRow C_NoStep C_Walk C_World) (kn_first_wrong : KN P w K mg base CX0 4 ["places"] (sp_first_wrong K) "first_wrong" []) (kn_rank : KN P w K mg base CX0 1 ["text"] (sp_rank) "rank" []) : FnOk P w K mg base CX0 5 f fd ["self", "places", "end"] (sp_Walk___init__ K C_Walk) := by
  obtain ⟨f_first_wrong, fd_first_wrong, ds_first_wrong, m_first_wrong, k_first_wrong, v_first_wrong, b_first_wrong, G_first_wrong⟩ := kn_first_wrong
  obtain ⟨f_rank, fd_rank, ds_rank, m_rank, k_rank, v_rank, b_rank, G_rank⟩ := kn_rank
  refine F.ok0 sc_Walk___init__ (fun vs H Q E h => ?_) (fun cdv A outer s H vs Q E hr h => ?_)
  · obtain ⟨a, dx, q, ts, e, rfl, _⟩ := h
    all_goals rfl
  · obtain ⟨a, dx, q, ts, e, rfl, ha, hq, ht, he, k⟩ := h
    refine ⟨_, (pss_cons (ps_set (i := 3) sc_Walk___init__.nd rfl (Or.inl rfl) (pe_lst (pa_cons pe_str pa_nil)))
    (pss_cons (ps_if (pt_cmpR op_notN (pv 1) pe_non (nomark _)) (pss_cons (ps_if (PW.pt (pw_or (pt_not (pt_val (pe_callB (call_isiTK (K := K)) (by rfl) T.b_isinstance (by decide +kernel) (pa_cons (pv 1) (pa_cons (pe_tup (pa_cons (pe_bltn (v := .ty "list") (by rfl) T.b_list (by decide +kernel) rfl) (pa_cons (pe_bltn (v := .ty "tuple") (by rfl) T.b_tuple (by decide +kernel) rfl) pa_nil))) pa_nil))))) (pw_or1 (pt_not (pt_chain op_le op_le pe_int (pe_callB (call_lenK (K := K)) (by rfl) T.b_len (by decide +kernel) (pa_cons (pv 1) pa_nil)) (pe_globC T.g_MOST_PLACES)))))) (pss_one ps_never) pss_nil)
    (pss_one (ps_set (i := 3) sc_Walk___init__.nd rfl (Or.inl rfl) (pe_callTy (call_listK (K := K)) (by rfl) T.b_list (by decide +kernel) (pa_cons (pv 1) pa_nil))))) pss_nil)
    (pss_cons (ps_set (i := 4) sc_Walk___init__.nd rfl (Or.inl rfl) (pe_call G_first_wrong (hr.mono (by decide)) rfl m_first_wrong k_first_wrong b_first_wrong v_first_wrong pass0 (pa_cons (pv 3) pa_nil)))
    (pss_cons (ps_if (pt_cmpR op_notN (pv 4) pe_non (nomark _)) (pss_one ps_never) pss_nil)
    (pss_cons (ps_if (PW.pt (pw_or (pt_not (pt_val (pe_callB (call_isiK1 (K := K)) (by rfl) T.b_isinstance (by decide +kernel) (pa_cons (pv 2) (pa_cons (pe_bltn (v := .ty "str") (by rfl) T.b_str (by decide +kernel) rfl) pa_nil))))) (pw_or1 (pt_cmpR (op_notInK (K := K)) (pv 2) (pv 3) (by rfl))))) (pss_one ps_never) pss_nil)
    (pss_cons (ps_fld (pv 0) (pe_callBK (call_sortF (K := K) G_rank (hr.mono (by decide)) b_rank v_rank) (by rfl) T.b_sorted (by decide +kernel) (pa_cons (pv 3) pa_nil) (pk_cons (pe_glob (v := .ref f_rank) rfl m_rank rfl) pk_nil)) rfl)
    (pss_one (ps_fld (pv 0) (pv 2) rfl)))))))), ?_⟩
    refine ⟨by show 1 ≤ sizeLine; decide, fun b hb => ?_⟩
    have q1 := Same.new (o := .lst [sT []]) hb
    refine ⟨_, rfl, rfl, _, rfl, iteT ?_⟩
    have gq := q1 _ _ hq
    refine ⟨_, rfl, by show 2 ≤ sizeLine; decide, fun t htt => ⟨_, t, _, _, _, true, rfl, upd_same, .cons (.ty "list") (.cons (.ty "tuple") .nil), .base (.lst (Same.new htt _ _ gq)), kitAny_cons (b := true) (kit_ty (by decide +kernel)) (fun h => nomatch h) (fun _ => rfl), _, rfl, iteF ?_⟩⟩
    have q2 := Same.trans q1 (Same.new (o := .tup [.ty "list", .ty "tuple"]) htt)
    have gq := q2 _ _ hq
    refine ⟨_, rfl, q, _, rfl, .inl (SqL.of gq), _, _, rfl, rfl, _, rfl, ?_⟩
    have n0 := ht.n0
    have n1 := ht.n1
    rw [List.length_map, decide_eq_true (by omega : (1 : Int) ≤ (ts.length : Int))]
    refine iteT ⟨_, _, rfl, rfl, _, rfl, ?_⟩
    rw [decide_eq_true (by omega : (ts.length : Int) ≤ 61)]
    refine iteF ⟨_, rfl, q, _, rfl, .inl (SqL.of gq), fun l hl => ?_⟩
    have q3 := Same.trans q2 (Same.new (o := .lst (ts.map sT)) hl)
    refine ⟨_, rfl, l, ts, rfl, SqL.of upd_same, ht, fun H4 s4 => ?_⟩
    have q4 := Same.trans q3 s4
    have gl := s4 _ _ (upd_same (o := .lst (ts.map sT)))
    refine ⟨_, rfl, rfl, _, rfl, iteF ?_⟩
    refine ⟨_, rfl, .str (S e), _, _, _, true, rfl, .ty "str", .base (.str _), kit_ty (by decide +kernel), _, rfl, iteF ?_⟩
    refine ⟨_, rfl, _, rfl, l, _, rfl, .inl (SqL.of gl), rfl, flat_T ts, _, rfl, ?_⟩
    have ein : inV (.str (S e)) (ts.map sT) = true := by
      show inV (sT e) (ts.map sT) = true
      rw [in_texts, decide_eq_true he]
    rw [if_pos rfl, ein]
    refine iteF ?_
    refine ⟨_, rfl, l, bsT ts, rfl, rfl, SqL.of (by rw [bsT_fst]; exact gl), alike_bsT ts, sortable_bsT ts, by unfold bsT; rw [List.length_map]; omega, fun b hb => ?_, fun b hb H1 s1 Q1 h => ?_, fun p H5 s5 np gp => ?_⟩
    · obtain ⟨x, _, rfl⟩ := List.mem_map.mp hb
      exact depth_rank2 x
    · obtain ⟨x, hx, rfl⟩ := List.mem_map.mp hb
      exact ⟨x, rfl, (ht.t.pr x hx).1, by have := ht.z x hx; omega, fun t q H' s nt gt gq => h _ H' s fun H3 s3 => dp_rank (s3 _ _ gt) (s3 _ _ gq)⟩
    rw [sort_bsT] at gp
    have q5 := Same.trans q4 s5
    have ne : p ≠ a := fun z => by rw [z, q4 _ _ ha] at np; cases np
    refine ⟨_, rfl, a, C_Walk, dx, [], rfl, q5 _ _ ha, T.o_Walk.cls, T.y_Walk_own_places, by decide, ?_⟩
    refine ⟨_, rfl, _, rfl, a, C_Walk, dx, _, rfl, upd_same, T.o_Walk.cls, T.y_Walk_own_end, by show 1 < 1000; decide, ?_⟩
    refine k p _ (fun b o hb h => ?_) (Same.free q4 np) ⟨⟨dx, upd_same⟩, ?_⟩
    · rw [upd_ne hb, upd_ne hb]
      exact q5 _ _ h
    · rw [upd_ne ne, upd_ne ne]
      exact gp
theorem sc_gone : FnScope ["text", "here", "found", "sign"] ["text"] (defScope s_gone) := ⟨rfl, rfl, rfl, by decide +kernel, rfl, by decide +kernel, by decide +kernel⟩
theorem ok_gone {f : Addr} {fd : FuncData} (F : Fun K "gone" "gone" s_gone f fd) (T : Txt K mg w D_CONTRARY D_NUMBERS D_STEPS C_Canon C_NoRow C_NoStep C_Walk C_World) (kn_made_plain : KN P w K mg base CX0 2 ["text"] (sp_made_plain) "made_plain" []) : FnOk P w K mg base CX0 3 f fd ["text"] (sp_gone) := by
  obtain ⟨f_made_plain, fd_made_plain, ds_made_plain, m_made_plain, k_made_plain, v_made_plain, b_made_plain, G_made_plain⟩ := kn_made_plain
  refine F.ok sc_gone (fun vs H Q E h => ?_) (fun cdv A outer s H vs Q E hr h => ?_)
  · obtain ⟨l, rfl, _⟩ := h
    all_goals rfl
  · obtain ⟨l, rfl, hl, hz, k⟩ := h
    refine ⟨_, (pss_cons (ps_set (i := 1) sc_gone.nd rfl (Or.inl rfl) pe_str)
    (pss_cons (ps_set (i := 2) sc_gone.nd rfl (Or.inl rfl) (pe_disp (pps_cons (pv 1) pe_bl pps_nil) (by rfl) (by rfl) (fun z => by cases z) (by decide)))
    (pss_cons (ps_for PassesOwn.never rfl (pi_str (pv 0)) (pg_name (i := 3) sc_gone.nd rfl (Or.inl rfl)) (pss_cons (ps_set (i := 1) sc_gone.nd rfl (Or.inl rfl) (pe_call G_made_plain (hr.mono (by decide)) rfl m_made_plain k_made_plain b_made_plain v_made_plain pass0 (pa_cons (pe_op op_add_str (pv 1) (pv 3)) pa_nil)))
    (pss_one (ps_dput (hu_of hr) (pv 2) (pv 1) pe_bl rfl))))
    (pss_one (ps_ret (pe_callTy (call_listD rfl) (by rfl) T.b_list (by decide +kernel) (pa_cons (pv 2) pa_nil))))))), ?_⟩
    refine fun d hd => ⟨_, rfl, ⟨upd_same, [(kT [], .bl true)], rfl, by show 1 ≤ 15; decide, ?_⟩⟩
    rw [merge_T]
    have s0 : Same H (upd (upd H d (.dK [])) d (.dK (kvT [[]]))) := fun b o hb => by rw [upd_ne (ne_of_none hb hd), upd_ne (ne_of_none hb hd)]; exact hb
    refine ⟨_, rfl, _, rfl, for_it walk_str (fun i σ H' => ∃ x, σ = [some (.str (S l)), some (.str (S (RowM.plain (l.take i)))), some (.ref d), x] ∧ Same H H' ∧ H' d = some (.dK (kvT (gone (l.take i))))) ⟨_, rfl, s0, upd_same⟩ (fun _ _ _ _ _ => trivial) ?_ ?_⟩
    · rintro i v σ H3 H4 hi ⟨x, rfl, s3, g3⟩ ⟨rfl, c, hc, rfl⟩
      have hc' : l[i]? = some c := by simpa using hc
      have sc : c ∈ sgns := hl c (List.mem_of_getElem? hc')
      have em := made_on hc'
      have rt : Row (l.take i) := fun c h => hl c (List.mem_of_mem_take h)
      have pz : (RowM.plain (l.take i)).length ≤ 1000 := Nat.le_trans (RowM.plain_length _) (by rw [List.length_take]; omega)
      have pp := WalkM.prow_plain rt
      have eg : gone (l.take (i + 1)) = addK (gone (l.take i)) (RowM.plain (l.take (i + 1))) := by
        rw [em, List.take_add_one, hc']
        exact WalkM.gone_snoc _ _
      refine ⟨_, rfl, _, rfl, _, _, rfl, rfl, sz_of' (by rw [len_S]; show _ + 1 ≤ _; omega), RowM.plain (l.take i) ++ [c], (by show [V.str (S (RowM.plain (l.take i)) ++ S [c])] = _; rw [add_S]), row_snoc pp.1 sc, by rw [List.length_append]; show _ + 1 ≤ _; omega, fun H5 s5 => ?_⟩
      have ep : RowM.plain (RowM.plain (l.take i) ++ [c]) = RowM.plain (l.take (i + 1)) := by rw [em, WalkM.on_plain c pp]
      rw [ep]
      have g5 := s5 _ _ g3
      refine ⟨_, rfl, _, rfl, d, _, rfl, DPut.k (k := kT (RowM.plain (l.take (i + 1)))) g5 (by rw [len_kvT]; exact Nat.lt_of_le_of_lt (WalkM.gone_length _) (Nat.lt_of_le_of_lt (by rw [List.length_take]; omega : _ ≤ 2000) (by decide))), ?_⟩
      refine ⟨_, rfl, fun b o hb => ?_, ?_⟩
      · rw [upd_ne (ne_of_none hb hd)]
        exact s5 _ _ (s3 _ _ hb)
      · rw [upd_same, put_T, eg]
    rintro σ H3 ⟨x, rfl, s3, g3⟩
    have et : l.take (S l).cps.size = l := by
      have : (S l).cps.size = l.length := len_S l
      rw [this, List.take_length]
    rw [et] at g3
    refine ⟨_, rfl, d, _, rfl, Rd.of g3, fun p hp => ?_⟩
    rw [keys_T]
    exact k p _ (Same.trans s3 (Same.new hp)) (Same.free s3 hp) upd_same
theorem sc_walk_of : FnScope ["row"] ["row"] (defScope s_walk_of) := ⟨rfl, rfl, rfl, by decide +kernel, rfl, by decide +kernel, by decide +kernel⟩
theorem ok_walk_of {f : Addr} {fd : FuncData} (F : Fun K "walk_of" "walk_of" s_walk_of f fd) (T : Txt K mg w D_CONTRARY D_NUMBERS D_STEPS C_Canon C_NoRow C_NoStep C_Walk C_World) (kn_look_at_row : KN P w K mg base CX0 3 ["thing"] (sp_look_at_row) "look_at_row" []) (kn_Walk___init__ : KM P w K mg base CX0 5 ["self", "places", "end"] (sp_Walk___init__ K C_Walk) C_Walk "__init__" []) (kn_gone : KN P w K mg base CX0 3 ["text"] (sp_gone) "gone" []) (kn_made_plain : KN P w K mg base CX0 2 ["text"] (sp_made_plain) "made_plain" []) : FnOk P w K mg base CX0 7 f fd ["row"] (sp_walk_of C_Walk) := by
  obtain ⟨f_look_at_row, fd_look_at_row, ds_look_at_row, m_look_at_row, k_look_at_row, v_look_at_row, b_look_at_row, G_look_at_row⟩ := kn_look_at_row
  obtain ⟨f_Walk___init__, fd_Walk___init__, ds_Walk___init__, i_Walk___init__, t_Walk___init__, fn_Walk___init__, k_Walk___init__, v_Walk___init__, b_Walk___init__, G_Walk___init__⟩ := kn_Walk___init__
  obtain ⟨f_gone, fd_gone, ds_gone, m_gone, k_gone, v_gone, b_gone, G_gone⟩ := kn_gone
  obtain ⟨f_made_plain, fd_made_plain, ds_made_plain, m_made_plain, k_made_plain, v_made_plain, b_made_plain, G_made_plain⟩ := kn_made_plain
  refine F.ok sc_walk_of (fun vs H Q E h => ?_) (fun cdv A outer s H vs Q E hr h => ?_)
  · obtain ⟨l, rfl, _⟩ := h
    all_goals rfl
  · obtain ⟨l, rfl, hl, k⟩ := h
    refine ⟨_, (pss_cons (ps_expr (pe_call G_look_at_row (hr.mono (by decide)) rfl m_look_at_row k_look_at_row b_look_at_row v_look_at_row pass0 (pa_cons (pv 0) pa_nil)))
    (pss_one (ps_ret (pe_make ⟨T.o_Walk.made, i_Walk___init__, fn_Walk___init__, T.o_Walk.kC⟩ G_Walk___init__ (hr.mono (by decide)) rfl T.o_Walk.gC b_Walk___init__ v_Walk___init__ pass0 (pa_cons (pe_call G_gone (hr.mono (by decide)) rfl m_gone k_gone b_gone v_gone pass0 (pa_cons (pv 0) pa_nil)) (pa_cons (pe_call G_made_plain (hr.mono (by decide)) rfl m_made_plain k_made_plain b_made_plain v_made_plain pass0 (pa_cons (pv 0) pa_nil)) pa_nil)))))), ?_⟩
    obtain ⟨zl, rl⟩ := isRow_iff.mp hl
    refine ⟨_, rfl, l, rfl, hl, fun H1 s1 => ?_⟩
    refine ⟨_, rfl, l, rfl, rl, by omega, fun q H2 s2 nq gq => ?_⟩
    refine ⟨_, rfl, l, rfl, rl, by omega, fun H3 s3 => ?_⟩
    refine fun x dx hx hdx nx => ⟨x, dx, q, gone l, RowM.plain l, rfl, upd_same, ?_, treeS_gone rl zl, WalkM.end_gone l, fun p H4 o4 np w4 => ⟨rfl, ?_⟩⟩
    · have g3 := s3 _ _ gq
      rw [upd_ne (ne_of_none g3 hx), upd_ne (ne_of_none g3 hdx)]
      exact g3
    have s123 := Same.trans s1 (Same.trans s2 s3)
    refine k x p H4 (fun b o hb => ?_) (Same.free s123 hx) ?_ w4
    · have h3 := s123 _ _ hb
      refine o4 b o (ne_of_none h3 hx) ?_
      rw [upd_ne (ne_of_none h3 hx), upd_ne (ne_of_none h3 hdx)]
      exact h3
    · cases e : H p with
      | none => rfl
      | some o =>
        have h3 := s123 _ _ e
        rw [upd_ne (ne_of_none h3 hx), upd_ne (ne_of_none h3 hdx), h3] at np
        cases np
theorem sc_Walk___eq__ : FnScope ["self", "other"] ["self", "other"] (defScope s_Walk___eq__) := ⟨rfl, rfl, rfl, by decide +kernel, rfl, by decide +kernel, by decide +kernel⟩
theorem ok_Walk___eq__ {f : Addr} {fd : FuncData} (F : Fun K "__eq__" "Walk.__eq__" s_Walk___eq__ f fd) (T : Txt K mg w D_CONTRARY D_NUMBERS D_STEPS C_Canon C_NoRow C_NoStep C_Walk C_World) : FnOk P w K mg base CX0 1 f fd ["self", "other"] (sp_Walk___eq__ K C_Walk) := by
  refine F.ok sc_Walk___eq__ (fun vs H Q E h => ?_) (fun cdv A outer s H vs Q E hr h => ?_)
  · obtain ⟨a, q, b, r, ps, us, e, f, rfl, _⟩ := h
    all_goals rfl
  · obtain ⟨a, q, b, r, ps, us, e, f, rfl, hw, hv, hz, hy, k⟩ := h
    refine ⟨_, (pss_cons (ps_if (PW.pt (pw_or (pt_not (pt_val (pe_callB (call_isiK1 (K := K)) (by rfl) T.b_isinstance (by decide +kernel) (pa_cons (pv 1) (pa_cons (pe_glob (v := .ref C_Walk) rfl T.o_Walk.gC rfl) pa_nil))))) (pw_or1 (pt_cmpR op_ne (pe_fld (pv 0) rfl) (pe_fld (pv 1) rfl) (nomark _))))) (pss_one (ps_ret pe_bl)) pss_nil)
    (pss_one (ps_ret (pe_cmpR (op_eqFz hr.units0) (pe_callTy (call_frz (K := K) rfl) (by rfl) T.b_frozenset (by decide +kernel) (pa_cons (pe_fld (pv 0) rfl) pa_nil)) (pe_callTy (call_frz (K := K) rfl) (by rfl) T.b_frozenset (by decide +kernel) (pa_cons (pe_fld (pv 1) rfl) pa_nil)) (nomark _))))), ?_⟩
    obtain ⟨⟨dx, ga⟩, gq⟩ := id hw
    obtain ⟨⟨dy, gb⟩, gr⟩ := id hv
    refine ⟨_, rfl, _, _, _, _, true, rfl, .own C_Walk, .base (.ins gb T.o_Walk.cls T.w1 T.w2 T.w3 T.w4), kit_self, _, rfl, iteF ?_⟩
    refine ⟨_, rfl, a, C_Walk, dx, _, _, rfl, ga, T.o_Walk.cls, T.y_Walk_own_end, rfl, _, rfl, b, C_Walk, dy, _, _, rfl, gb, T.o_Walk.cls, T.y_Walk_own_end, rfl, rfl, _, rfl, ?_⟩
    by_cases ef : e = f
    rotate_left
    · rw [show decide (sT e = sT f) = false from decide_eq_false (fun h => ef (sT_inj h))]
      exact iteT (k false H (by simp [ef]) (Same.refl H))
    subst ef
    refine iteNS rfl ?_
    have zb : ∀ ps : List (List Nat), ps.length ≤ 61 → (ps.map S).length + 1 < PySem.scanBound := fun ps h => by
      rw [List.length_map]
      exact Nat.lt_of_le_of_lt (by omega : _ ≤ 62) (by decide)
    refine ⟨_, rfl, a, C_Walk, dx, _, _, rfl, ga, T.o_Walk.cls, T.y_Walk_own_places, rfl, q, ps.map S, rfl, SqL.of (by rw [← sT_map]; exact gq), zb ps hz, fun F1 hF1 => ?_⟩
    have s1 := Same.new (o := FrzO w F1 (ps.map S)) hF1
    refine ⟨_, rfl, b, C_Walk, dy, _, _, rfl, s1 _ _ gb, T.o_Walk.cls, T.y_Walk_own_places, rfl, r, us.map S, rfl, SqL.of (by rw [← sT_map]; exact s1 _ _ gr), zb us hy, fun F2 hF2 => ?_⟩
    have s2 := Same.new (o := FrzO w F2 (us.map S)) hF2
    refine ⟨F1, F2, ps.map S, us.map S, rfl, rfl, s2 _ _ upd_same, upd_same, fun z hz => k z _ (hz.trans (mems_S.trans ⟨fun h => ⟨rfl, h⟩, fun h => h.2⟩)) (Same.trans s1 s2)⟩
theorem sc_same : FnScope ["one", "other"] ["one", "other"] (defScope s_same) := ⟨rfl, rfl, rfl, by decide +kernel, rfl, by decide +kernel, by decide +kernel⟩
theorem ok_same {f : Addr} {fd : FuncData} (F : Fun K "same" "same" s_same f fd) (T : Txt K mg w D_CONTRARY D_NUMBERS D_STEPS C_Canon C_NoRow C_NoStep C_Walk C_World) (kn_look_at_row : KN P w K mg base CX0 3 ["thing"] (sp_look_at_row) "look_at_row" []) (kn_walk_of : KN P w K mg base CX0 7 ["row"] (sp_walk_of C_Walk) "walk_of" []) (kn_Walk___eq__ : KM P w K mg base CX0 1 ["self", "other"] (sp_Walk___eq__ K C_Walk) C_Walk "__eq__" []) : FnOk P w K mg base CX0 8 f fd ["one", "other"] (sp_same K C_Walk) := by
  obtain ⟨f_look_at_row, fd_look_at_row, ds_look_at_row, m_look_at_row, k_look_at_row, v_look_at_row, b_look_at_row, G_look_at_row⟩ := kn_look_at_row
  obtain ⟨f_walk_of, fd_walk_of, ds_walk_of, m_walk_of, k_walk_of, v_walk_of, b_walk_of, G_walk_of⟩ := kn_walk_of
  obtain ⟨f_Walk___eq__, fd_Walk___eq__, ds_Walk___eq__, i_Walk___eq__, t_Walk___eq__, fn_Walk___eq__, k_Walk___eq__, v_Walk___eq__, b_Walk___eq__, G_Walk___eq__⟩ := kn_Walk___eq__
  refine F.ok sc_same (fun vs H Q E h => ?_) (fun cdv A outer s H vs Q E hr h => ?_)
  · obtain ⟨l, m, rfl, _⟩ := h
    all_goals rfl
  · obtain ⟨l, m, rfl, hl, hm, k⟩ := h
    refine ⟨_, (pss_cons (ps_expr (pe_call G_look_at_row (hr.mono (by decide)) rfl m_look_at_row k_look_at_row b_look_at_row v_look_at_row pass0 (pa_cons (pv 0) pa_nil)))
    (pss_cons (ps_expr (pe_call G_look_at_row (hr.mono (by decide)) rfl m_look_at_row k_look_at_row b_look_at_row v_look_at_row pass0 (pa_cons (pv 1) pa_nil)))
    (pss_one (ps_ret (pe_cmpR (op_eqO i_Walk___eq__ fn_Walk___eq__ G_Walk___eq__ (hr.mono (by decide)) b_Walk___eq__ v_Walk___eq__ pass0) (pe_call G_walk_of (hr.mono (by decide)) rfl m_walk_of k_walk_of b_walk_of v_walk_of pass0 (pa_cons (pv 0) pa_nil)) (pe_call G_walk_of (hr.mono (by decide)) rfl m_walk_of k_walk_of b_walk_of v_walk_of pass0 (pa_cons (pv 1) pa_nil)) (nomark _)))))), ?_⟩
    obtain ⟨zl, rl⟩ := isRow_iff.mp hl
    obtain ⟨zm, rm⟩ := isRow_iff.mp hm
    refine ⟨_, rfl, l, rfl, hl, fun H1 s1 => ⟨_, rfl, m, rfl, hm, fun H2 s2 => ?_⟩⟩
    refine ⟨_, rfl, l, rfl, hl, fun a q H3 s3 na nq wa => ⟨_, rfl, m, rfl, hm, fun b r H4 s4 nb nr wb => ?_⟩⟩
    have wa := wa.same s4
    obtain ⟨⟨da, ga⟩, gq⟩ := id wa
    obtain ⟨⟨db, gb⟩, gr⟩ := id wb
    have tl := (ord_srt (treeS_gone rl zl)).t.n1
    have tm := (ord_srt (treeS_gone rm zm)).t.n1
    refine ⟨a, b, _, _, _, _, rfl, rfl, ga, gb, a, q, b, r, _, _, _, _, rfl, wa, wb, tl, tm, fun z H5 hz s5 => ⟨z, rfl, ?_⟩⟩
    have ez : z = sameR l m := Bool.eq_iff_iff.mpr (hz.trans (same_iff rl rm))
    rw [ez]
    exact k H5 (Same.trans s1 (Same.trans s2 (Same.trans s3 (Same.trans s4 s5))))
theorem sc_Canon___init__ : FnScope ["self"] ["self"] (defScope s_Canon___init__) := ⟨rfl, rfl, rfl, by decide +kernel, rfl, by decide +kernel, by decide +kernel⟩
theorem ok_Canon___init__ {f : Addr} {fd : FuncData} (F : Fun K "__init__" "Canon.__init__" s_Canon___init__ f fd) (T : Txt K mg w D_CONTRARY D_NUMBERS D_STEPS C_Canon C_NoRow C_NoStep C_Walk C_World) : FnOk P w K mg base CX0 1 f fd ["self"] (sp_Canon___init__ C_Canon) := by
  refine F.ok sc_Canon___init__ (fun vs H Q E h => ?_) (fun cdv A outer s H vs Q E hr h => ?_)
  · obtain ⟨x, dx, rfl, _⟩ := h
    all_goals rfl
  · obtain ⟨x, dx, rfl, ha, k⟩ := h
    refine ⟨_, (pss_cons (ps_fld (pv 0) (pe_disp (pps_cons pe_str pe_bl pps_nil) (by rfl) (by rfl) (fun z => by cases z) (by decide)) rfl)
    (pss_cons (ps_fld (pv 0) (pe_lst pa_nil) rfl)
    (pss_cons (ps_fld (pv 0) pe_str rfl)
    (pss_one (ps_fld (pv 0) (pe_lst pa_nil) rfl))))), ?_⟩
    refine fun dk hdk => ⟨upd_same, [(kT [], .bl true)], rfl, by show 1 ≤ 15; decide, ?_⟩
    rw [merge_T]
    have nk : x ≠ dk := fun e => by rw [← e, ha] at hdk; cases hdk
    have f1 : ∀ b o, b ≠ x → H b = some o → (upd (upd H dk (.dK [])) dk (.dK (kvT [[]]))) b = some o := fun b o _ h => by rw [upd_ne (ne_of_none h hdk), upd_ne (ne_of_none h hdk)]; exact h
    have g1 : (upd (upd H dk (.dK [])) dk (.dK (kvT [[]]))) dk = some (.dK (kvT [[]])) := upd_same
    have x1 : (upd (upd H dk (.dK [])) dk (.dK (kvT [[]]))) x = some (.ins C_Canon dx []) := by rw [upd_ne nk, upd_ne nk]; exact ha
    generalize upd (upd H dk (.dK [])) dk (.dK (kvT [[]])) = H1 at f1 g1 x1 ⊢
    refine ⟨_, rfl, x, C_Canon, dx, [], rfl, x1, T.o_Canon.cls, T.y_Canon_own_known, by decide, ?_⟩
    refine ⟨(by show 0 ≤ sizeLine; decide), fun dl hdl => ?_⟩
    have nl : x ≠ dl := fun e => by rw [← e, upd_same] at hdl; cases hdl
    have nkl : dk ≠ dl := fun e => by rw [← e, upd_ne nk.symm, g1] at hdl; cases hdl
    refine ⟨_, rfl, x, C_Canon, dx, _, rfl, (by rw [upd_ne nl]; exact upd_same), T.o_Canon.cls, T.y_Canon_own_leaves, by show 1 < 1000; decide, ?_⟩
    refine ⟨_, rfl, x, C_Canon, dx, _, rfl, upd_same, T.o_Canon.cls, T.y_Canon_own_end, by show 2 < 1000; decide, ?_⟩
    refine ⟨(by show 0 ≤ sizeLine; decide), fun ds hds => ?_⟩
    have ns : x ≠ ds := fun e => by rw [← e, upd_same] at hds; cases hds
    have nks : dk ≠ ds := fun e => by rw [← e, upd_ne nk.symm, upd_ne nk.symm, upd_ne nkl, upd_ne nk.symm, g1] at hds; cases hds
    have nls : dl ≠ ds := fun e => by rw [← e, upd_ne nl.symm, upd_ne nl.symm, upd_same] at hds; cases hds
    refine ⟨_, rfl, x, C_Canon, dx, _, rfl, (by rw [upd_ne ns]; exact upd_same), T.o_Canon.cls, T.y_Canon_own_steps, by show 3 < 1000; decide, ?_⟩
    have fr : ∀ b, b ≠ x → H1 b = none → H b = none := fun b hb h => by
      cases e : H b with
      | none => rfl
      | some o => rw [f1 b o hb e] at h; cases h
    have dl1 : H1 dl = none := by rwa [upd_ne nl.symm] at hdl
    have ds1 : H1 ds = none := by rwa [upd_ne ns.symm, upd_ne ns.symm, upd_ne (Ne.symm nls), upd_ne ns.symm] at hds
    refine k dk dl ds _ (fun b o hb h => ?_) hdk (fr _ nl.symm dl1) (fr _ ns.symm ds1) ⟨⟨dx, upd_same⟩, ?_, ?_, ⟨[], ?_, TL.nil⟩, nls⟩
    · have h1 := f1 b o hb h
      rw [upd_ne hb, upd_ne (ne_of_none h1 ds1), upd_ne hb, upd_ne hb, upd_ne (ne_of_none h1 dl1), upd_ne hb]
      exact h1
    · rw [upd_ne nk.symm, upd_ne nks, upd_ne nk.symm, upd_ne nk.symm, upd_ne nkl, upd_ne nk.symm]
      exact g1
    · rw [upd_ne nl.symm, upd_ne nls, upd_ne nl.symm, upd_ne nl.symm, upd_same]
      rfl
    · rw [upd_ne ns.symm, upd_same]
      rfl
theorem sc_Canon_at_leaf : FnScope ["self", "number", "leaf"] ["self", "number"] (defScope s_Canon_at_leaf) := ⟨rfl, rfl, rfl, by decide +kernel, rfl, by decide +kernel, by decide +kernel⟩
theorem ok_Canon_at_leaf {f : Addr} {fd : FuncData} (F : Fun K "at_leaf" "Canon.at_leaf" s_Canon_at_leaf f fd) (T : Txt K mg w D_CONTRARY D_NUMBERS D_STEPS C_Canon C_NoRow C_NoStep C_Walk C_World) : FnOk P w K mg base CX0 1 f fd ["self", "number"] (sp_Canon_at_leaf K C_Canon) := by
  refine F.ok sc_Canon_at_leaf (fun vs H Q E h => ?_) (fun cdv A outer s H vs Q E hr h => ?_)
  · obtain ⟨x, dk, dl, ds, s, n, rfl, _⟩ := h
    all_goals rfl
  · obtain ⟨x, dk, dl, ds, s, n, rfl, hc, hz, hw, hn, k⟩ := h
    refine ⟨_, (pss_one (ps_ret (pe_op op_mul pe_int (pe_callB (cr_sumK (K := K) rfl) (by rfl) T.b_sum (by decide +kernel) (pa_cons (pe_lc (own := [("leaf", 2)]) (g := gName 2) (tt := tYes) rfl sc_Canon_at_leaf.nd (pi_list (pe_slice (sl_listK (K := K)) (pe_fld (pv 0) rfl) po_none (po_some (pv 1)))) (blkOk_by (own := [("leaf", 2)]) (N := ["self", "number", "leaf"]) (sc := defScope s_Canon_at_leaf) (by decide +kernel)) (fun _ _ _ _ _ => (pg_name (i := 2) sc_Canon_at_leaf.nd rfl (Or.inl rfl))) (fun _ _ _ _ _ => pts_nil) (fun _ _ _ _ _ => (pe_callB call_len_str (by rfl) T.b_len (by decide +kernel) (pa_cons (pv 2) pa_nil)))) pa_nil))))), ?_⟩
    obtain ⟨dx, ga⟩ := hc.ob
    refine ⟨_, rfl, x, C_Canon, dx, _, _, rfl, ga, T.o_Canon.cls, T.y_Canon_own_leaves, rfl, _, rfl, _, rfl, dl, _, rfl, SqL.of hc.lv, fun r hr => ⟨r, rfl, ⟨_, SqL.of upd_same⟩, fun D hD => ?_⟩⟩
    rw [cut_pre, ← List.map_take] at hD ⊢
    have sr := Same.new (o := .lst ((s.ls.take n).map sT)) hr
    have gr : (upd H r (.lst ((s.ls.take n).map sT))) r = some (.lst ((s.ls.take n).map sT)) := upd_same
    generalize upd H r (.lst ((s.ls.take n).map sT)) = H1 at sr gr hD ⊢
    have zt : (s.ls.take n).length ≤ 1000 := by rw [List.length_take]; omega
    refine lc_list (K := K) (a := r) (xs := (s.ls.take n).map sT) (fun i H' => H' D = some (.lst ((((s.ls.take n).take i).map fun p => (p.length : Int)).map V.int)) ∧ Same H1 H' ∧ i ≤ (s.ls.take n).length) ⟨upd_same, Same.new hD, Nat.zero_le _⟩ (fun _ H' _ ⟨_, s, _⟩ => SqL.of (s _ _ gr)) ?_ ?_
    · rintro i v H3 hv ⟨gD, s3, hi⟩
      rw [List.getElem?_map] at hv
      obtain ⟨p, hp, rfl⟩ := Option.map_eq_some_iff.mp hv
      have il := (List.getElem?_eq_some_iff.mp hp).1
      have pw := hw p (List.mem_of_mem_take (List.mem_of_getElem? hp))
      refine ⟨rfl, _, rfl, _, rfl, sz_of' (by rw [len_S]; omega), _, gD, ?_, ?_, fun b o hb => ?_, il⟩
      · rw [List.length_map, List.length_map, List.length_take]
        exact Nat.lt_of_le_of_lt (by omega : _ ≤ 1000) (by decide)
      · rw [upd_same, take_oneS hp, List.map_append, List.map_append, len_S]
        rfl
      · rw [upd_ne (ne_of_none hb hD)]
        exact s3 _ _ hb
    rintro H3 ⟨gD, s3, _⟩
    rw [List.length_map, List.take_length] at gD
    refine ⟨D, _, rfl, SqL.of gD, _, _, rfl, rfl, .inl ⟨by decide, by decide⟩, ?_⟩
    rw [sum_len]
    have e : (2 : Int) * (sumL (s.ls.take n) : Int) = ((2 * sumL (s.ls.take n) : Nat) : Int) := by omega
    have k3 := k H3 (Same.trans sr s3)
    rw [← e] at k3
    exact k3
theorem sc_Canon_swap : FnScope ["self", "number", "one", "other"] ["self", "number"] (defScope s_Canon_swap) := ⟨rfl, rfl, rfl, by decide +kernel, rfl, by decide +kernel, by decide +kernel⟩
theorem ok_Canon_swap {f : Addr} {fd : FuncData} (F : Fun K "swap" "Canon.swap" s_Canon_swap f fd) (T : Txt K mg w D_CONTRARY D_NUMBERS D_STEPS C_Canon C_NoRow C_NoStep C_Walk C_World) (kn_Canon_at_leaf : KM P w K mg base CX0 1 ["self", "number"] (sp_Canon_at_leaf K C_Canon) C_Canon "at_leaf" []) : FnOk P w K mg base CX0 2 f fd ["self", "number"] (sp_Canon_swap K C_Canon) := by
  obtain ⟨f_Canon_at_leaf, fd_Canon_at_leaf, ds_Canon_at_leaf, i_Canon_at_leaf, t_Canon_at_leaf, fn_Canon_at_leaf, k_Canon_at_leaf, v_Canon_at_leaf, b_Canon_at_leaf, G_Canon_at_leaf⟩ := kn_Canon_at_leaf
  refine F.ok sc_Canon_swap (fun vs H Q E h => ?_) (fun cdv A outer s H vs Q E hr h => ?_)
  · obtain ⟨x, dk, dl, ds, s, A, p, q, B, rfl, _⟩ := h
    all_goals rfl
  · obtain ⟨x, dk, dl, ds, s, A, p, q, B, rfl, hc, hl, hz, hw, hs, k⟩ := h
    refine ⟨_, (pss_cons (ps_asg (pe_slice (sl_listK (K := K)) (pe_fld (pv 0) rfl) (po_some (pv 1)) (po_some (pe_op op_add (pv 1) pe_int))) (pg_lst rfl (pgs_cons (pg_name (i := 2) sc_Canon_swap.nd rfl (Or.inl rfl)) (pgs_cons (pg_name (i := 3) sc_Canon_swap.nd rfl (Or.inl rfl)) pgs_nil))))
    (pss_cons (ps_expr (pe_bm PySem.F.plainAttrs_list PySem.F.slot_list_append PySem.F.type_list_append mt_append (pe_fld (pv 0) rfl) (pa_cons (pe_tup (pa_cons pe_str (pa_cons (pe_meth (pv 0) T.o_Canon.cls ⟨i_Canon_at_leaf, fn_Canon_at_leaf, k_Canon_at_leaf⟩ G_Canon_at_leaf (hr.mono (by decide)) b_Canon_at_leaf v_Canon_at_leaf pass0 (pa_cons (pv 1) pa_nil)) (pa_cons (pe_callB call_len_str (by rfl) T.b_len (by decide +kernel) (pa_cons (pv 2) pa_nil)) (pa_cons (pe_callB call_len_str (by rfl) T.b_len (by decide +kernel) (pa_cons (pv 3) pa_nil)) pa_nil))))) pa_nil)))
    (pss_one (ps_asg (pe_lst (pa_cons (pv 3) (pa_cons (pv 2) pa_nil))) (pg_slset (pe_fld (pv 0) rfl) (po_some (pv 1)) (po_some (pe_op op_add (pv 1) pe_int))))))), ?_⟩
    obtain ⟨dx, ga⟩ := hc.ob
    have zA : A.length + 2 ≤ s.ls.length := by rw [hl, List.length_append, List.length_cons, List.length_cons]; omega
    have zp : p.length ≤ 1000 := hw p (by rw [hl]; simp)
    have zq : q.length ≤ 1000 := hw q (by rw [hl]; simp)
    have el : s.ls.map sT = A.map sT ++ sT p :: sT q :: B.map sT := by rw [hl]; simp
    have eA : (A.length : Int) = ((A.map sT).length : Int) := by rw [List.length_map]
    refine ⟨_, rfl, x, C_Canon, dx, _, _, rfl, ga, T.o_Canon.cls, T.y_Canon_own_leaves, rfl, _, rfl, _, rfl, _, rfl, _, _, rfl, rfl, _, rfl, dl, _, rfl, SqL.of hc.lv, fun r hr => ?_⟩
    have ec : cutV (s.ls.map sT) (some (A.length : Int)) (some ((A.length : Int) + 2)) = [sT p, sT q] := by rw [el, eA]; exact cut_two_at _ _ _ _
    rw [ec]
    have sr := Same.new (o := .lst [sT p, sT q]) hr
    have gr : (upd H r (.lst [sT p, sT q])) r = some (.lst [sT p, sT q]) := upd_same
    have hc1 := hc.same sr
    generalize upd H r (.lst [sT p, sT q]) = H1 at sr gr hc1 ⊢
    refine ⟨r, [sT p, sT q], rfl, SqL.of gr, rfl, _, _, rfl, _, _, rfl, rfl, ?_⟩
    obtain ⟨ts, gs, tl⟩ := hc1.st
    refine ⟨_, rfl, x, C_Canon, dx, _, _, rfl, sr _ _ ga, T.o_Canon.cls, T.y_Canon_own_steps, rfl, .inl ⟨rfl, _, SqL.of gs⟩, ?_⟩
    refine ⟨_, rfl, x, _, _, rfl, sr _ _ ga, rfl, _, rfl, x, dk, dl, ds, s, A.length, rfl, hc1, hz, hw, by omega, fun H2 s2 => ⟨_, rfl, _, rfl, sz_of' (by rw [len_S]; omega), _, rfl, _, rfl, sz_of' (by rw [len_S]; omega), (by show 4 ≤ sizeLine; decide), fun u hu => ?_⟩⟩
    have hc2 := hc1.same s2
    have eR : 2 * sumL (s.ls.take A.length) = (rnd A).length := by rw [hl, take_app, rnd_len]
    rw [eR, len_S, len_S]
    have su := Same.new (o := .tup [V.str (Str.ofString "past"), .int ((rnd A).length : Int), .int (p.length : Int), .int (q.length : Int)]) hu
    have gu : (upd H2 u (.tup [V.str (Str.ofString "past"), .int ((rnd A).length : Int), .int (p.length : Int), .int (q.length : Int)])) u = some (.tup (StepD.vals (.past (rnd A).length p.length q.length))) := upd_same
    have s13 := Same.trans s2 su
    have hc3 := hc1.same s13
    generalize upd H2 u (.tup [V.str (Str.ofString "past"), .int ((rnd A).length : Int), .int (p.length : Int), .int (q.length : Int)]) = H3 at su gu s13 hc3 ⊢
    refine ⟨ds, _, _, rfl, rfl, s13 _ _ gs, ?_, ?_⟩
    · rw [List.length_map, tl.len]
      exact Nat.lt_of_le_of_lt hs (by decide)
    have hc4 := hc3.putS (s13 _ _ gs) (tl.mono s13) gu
    have o4 : OffS (cx4 x dk dl ds) H (upd H3 ds (.lst (ts.map V.ref ++ [V.ref u]))) := (OffS.of (Same.trans sr s13)).upd (by simp)
    generalize upd H3 ds (.lst (ts.map V.ref ++ [V.ref u])) = H4 at hc4 o4 ⊢
    refine ⟨_, rfl, _, rfl, (by show 2 ≤ sizeLine; decide), fun b hb => ?_⟩
    have sb := Same.new (o := .lst [sT q, sT p]) hb
    have gb : (upd H4 b (.lst [sT q, sT p])) b = some (.lst [sT q, sT p]) := upd_same
    have hc5 := hc4.same sb
    have nlb : dl ≠ b := ne_of_none hc4.lv hb
    have o5 := o4.trans (OffS.of sb)
    generalize upd H4 b (.lst [sT q, sT p]) = H5 at hc5 gb o5 ⊢
    obtain ⟨dx5, ga5⟩ := hc5.ob
    refine ⟨_, rfl, x, C_Canon, dx5, _, _, rfl, ga5, T.o_Canon.cls, T.y_Canon_own_leaves, rfl, _, rfl, _, rfl, _, rfl, _, _, rfl, rfl, _, rfl, dl, b, _, _, (A.length : Int), (A.length : Int) + 2, rfl, rfl, rfl, rfl, hc5.lv, gb, nlb, by omega, by omega, ?_, ?_, ?_⟩
    · show (A.length : Int) + 2 ≤ ((s.ls.map sT).length : Int)
      rw [List.length_map]
      omega
    · show (s.ls.map sT).length + 2 ≤ sizeLine
      rw [List.length_map]
      exact Nat.le_trans (by omega : _ ≤ 1002) (by decide)
    have ep : (s.ls.map sT).take (A.length : Int).toNat ++ [sT q, sT p] ++ (s.ls.map sT).drop ((A.length : Int) + 2).toNat = (A ++ q :: p :: B).map sT := by
      rw [el, eA, put_two_at]
      simp
    show Q .non (upd H5 dl (.lst ((s.ls.map sT).take (A.length : Int).toNat ++ [sT q, sT p] ++ (s.ls.map sT).drop ((A.length : Int) + 2).toNat)))
    rw [ep]
    exact k _ (o5.upd (by simp)) (hc5.putL (A ++ q :: p :: B))
theorem sc_Canon_to_end : FnScope ["self", "leaf", "number"] ["self", "leaf"] (defScope s_Canon_to_end) := ⟨rfl, rfl, rfl, by decide +kernel, rfl, by decide +kernel, by decide +kernel⟩
theorem ok_Canon_to_end {f : Addr} {fd : FuncData} (F : Fun K "to_end" "Canon.to_end" s_Canon_to_end f fd) (T : Txt K mg w D_CONTRARY D_NUMBERS D_STEPS C_Canon C_NoRow C_NoStep C_Walk C_World) (kn_Canon_swap : KM P w K mg base CX0 2 ["self", "number"] (sp_Canon_swap K C_Canon) C_Canon "swap" []) : FnOk P w K mg base CX0 3 f fd ["self", "leaf"] (sp_Canon_to_end K C_Canon) := by
  obtain ⟨f_Canon_swap, fd_Canon_swap, ds_Canon_swap, i_Canon_swap, t_Canon_swap, fn_Canon_swap, k_Canon_swap, v_Canon_swap, b_Canon_swap, G_Canon_swap⟩ := kn_Canon_swap
  refine F.ok sc_Canon_to_end (fun vs H Q E h => ?_) (fun cdv A outer s H vs Q E hr h => ?_)
  · obtain ⟨x, dk, dl, ds, s, p, rfl, _⟩ := h
    all_goals rfl
  · obtain ⟨x, dk, dl, ds, s, p, rfl, hc, hp, hz, hw, hs, k⟩ := h
    refine ⟨_, (pss_cons (ps_set (i := 2) sc_Canon_to_end.nd rfl (Or.inl rfl) (pe_bm PySem.F.plainAttrs_list PySem.F.slot_list_index PySem.F.type_list_index mt_index (pe_fld (pv 0) rfl) (pa_cons (pv 1) pa_nil)))
    (pss_one (ps_while PassesOwn.never (pt_cmpR op_lt (pe_op op_add (pv 2) pe_int) (pe_callB (call_lenK (K := K)) (by rfl) T.b_len (by decide +kernel) (pa_cons (pe_fld (pv 0) rfl) pa_nil)) (nomark _)) (pss_cons (ps_expr (pe_meth (pv 0) T.o_Canon.cls ⟨i_Canon_swap, fn_Canon_swap, k_Canon_swap⟩ G_Canon_swap (hr.mono (by decide)) b_Canon_swap v_Canon_swap pass0 (pa_cons (pv 2) pa_nil)))
    (pss_one (ps_aug (i := 2) sc_Canon_to_end.nd rfl (Or.inl rfl) pe_int iop_add)))))), ?_⟩
    obtain ⟨dx, ga⟩ := hc.ob
    obtain ⟨A, B, el, hA, et, es⟩ := toE_split hp
    have zp := hw p hp
    rw [et, es] at k
    have zAB : A.length + B.length + 1 ≤ 900 := by
      rw [el, List.length_append, List.length_cons] at hz
      omega
    refine ⟨_, rfl, x, C_Canon, dx, _, _, rfl, ga, T.o_Canon.cls, T.y_Canon_own_leaves, rfl, .inl ⟨rfl, _, SqL.of hc.lv⟩, _, rfl, dl, s.ls.map sT, sT p, A.length, sT p, rfl, rfl, SqL.of hc.lv, rfl, flat_T s.ls, by rw [List.getElem?_map, el]; simp, by rw [eqV_T]; exact decide_eq_true rfl, fun m' z' h1 h2 => ?_, ?_⟩
    · rw [List.getElem?_map] at h2
      obtain ⟨p', hp', rfl⟩ := Option.map_eq_some_iff.mp h2
      rw [eqV_T]
      refine decide_eq_false fun e => ?_
      subst e
      rw [el, List.getElem?_append_left h1] at hp'
      exact hA _ (List.mem_of_getElem? hp') rfl
    refine ⟨fun m σ H' => ∃ (A' B' : List (List Nat)) (s' : CS), m = B'.length ∧ σ = [some (.ref x), some (.str (S p)), some (.int (A'.length : Int))] ∧ OffS (cx4 x dk dl ds) H H' ∧ CanAt C_Canon H' x dk dl ds s' ∧ s'.ks = s.ks ∧ s'.e = s.e ∧ s'.ls = A' ++ p :: B' ∧ s'.ss ++ endS A' p B' = s.ss ++ endS A p B ∧ A' ++ B' = A ++ B ∧ s'.ss.length + B'.length ≤ 91000 ∧ (∀ q ∈ A' ++ B', q.length ≤ 900), ⟨_, A, B, s, rfl, rfl, OffS.refl _ _, hc, rfl, rfl, el, rfl, rfl, by omega, fun q hq => hw q (by rw [el]; rcases List.mem_append.mp hq with h | h; exact List.mem_append_left _ h; exact List.mem_append_right _ (List.mem_cons_of_mem _ h))⟩, ?_⟩
    rintro m σ H1 ⟨A', B', s', rfl, rfl, o1, c1, k1, e1, l1, ss1, ab, z1, w1⟩
    obtain ⟨dx1, ga1⟩ := c1.ob
    have zl : A'.length + B'.length = A.length + B.length := by rw [← List.length_append, ab, List.length_append]
    refine ⟨_, rfl, _, _, rfl, rfl, _, rfl, x, C_Canon, dx1, _, _, rfl, ga1, T.o_Canon.cls, T.y_Canon_own_leaves, rfl, dl, _, rfl, .inl (SqL.of c1.lv), _, _, rfl, rfl, _, rfl, ?_⟩
    rw [List.length_map, l1, List.length_append, List.length_cons]
    cases B' with
    | nil =>
      rw [decide_eq_false (by rw [List.length_nil]; omega)]
      refine iteF ?_
      refine k H1 o1 ?_
      rw [show s'.ss ++ endS A' p [] = s'.ss from List.append_nil _] at ss1
      rw [List.append_nil] at ab
      have : s' = { s with ls := A ++ B ++ [p], ss := s.ss ++ endS A p B } := by
        rw [← ab, ← ss1]
        cases s'
        cases s
        simp only at k1 e1 l1 ⊢
        subst k1 e1 l1
        rfl
      rw [this] at c1
      exact c1
    | cons q B' =>
      rw [decide_eq_true (by rw [List.length_cons]; omega)]
      refine iteT ⟨fun σ' H' => ∃ m', m' < (q :: B').length ∧ (∃ (A'' B'' : List (List Nat)) (s'' : CS), m' = B''.length ∧ σ' = [some (.ref x), some (.str (S p)), some (.int (A''.length : Int))] ∧ OffS (cx4 x dk dl ds) H H' ∧ CanAt C_Canon H' x dk dl ds s'' ∧ s''.ks = s.ks ∧ s''.e = s.e ∧ s''.ls = A'' ++ p :: B'' ∧ s''.ss ++ endS A'' p B'' = s.ss ++ endS A p B ∧ A'' ++ B'' = A ++ B ∧ s''.ss.length + B''.length ≤ 91000 ∧ (∀ q ∈ A'' ++ B'', q.length ≤ 900)), fun _ _ h => h, ?_⟩
      rw [List.length_cons] at zl z1
      refine ⟨_, rfl, x, _, _, rfl, ga1, rfl, _, rfl, x, dk, dl, ds, s', A', p, q, B', rfl, c1, l1, by rw [l1, List.length_append, List.length_cons, List.length_cons]; omega, fun r hr => ?_, by omega, fun H2 o2 c2 => ?_⟩
      · rw [l1] at hr
        rcases List.mem_append.mp hr with h | h
        · exact Nat.le_trans (w1 r (List.mem_append_left _ h)) (by decide)
        rcases List.mem_cons.mp h with rfl | h
        · omega
        · exact Nat.le_trans (w1 r (List.mem_append_right _ h)) (by decide)
      refine ⟨_, rfl, _, _, rfl, rfl, B'.length, Nat.lt_succ_self _, A' ++ [q], B', _, rfl, ?_, o1.trans o2, c2, k1, e1, by simp, ?_, by rw [← ab]; simp, ?_, fun r hr => w1 r ?_⟩
      · rw [List.length_append, List.length_singleton]
        rfl
      · rw [← ss1]
        show (s'.ss ++ [_]) ++ endS (A' ++ [q]) p B' = s'.ss ++ (_ :: endS (A' ++ [q]) p B')
        rw [List.append_assoc]
        rfl
      · show (s'.ss ++ [_]).length + _ ≤ _
        rw [List.length_append, List.length_singleton]
        omega
      · rw [List.append_assoc] at hr
        exact hr
theorem sc_Canon_to_order : FnScope ["self", "number"] ["self"] (defScope s_Canon_to_order) := ⟨rfl, rfl, rfl, by decide +kernel, rfl, by decide +kernel, by decide +kernel⟩
theorem ok_Canon_to_order {f : Addr} {fd : FuncData} (F : Fun K "to_order" "Canon.to_order" s_Canon_to_order f fd) (T : Txt K mg w D_CONTRARY D_NUMBERS D_STEPS C_Canon C_NoRow C_NoStep C_Walk C_World) (kn_rank : KN P w K mg base CX0 1 ["text"] (sp_rank) "rank" []) (kn_Canon_swap : KM P w K mg base CX0 2 ["self", "number"] (sp_Canon_swap K C_Canon) C_Canon "swap" []) : FnOk P w K mg base CX0 3 f fd ["self"] (sp_Canon_to_order K C_Canon) := by
  obtain ⟨f_rank, fd_rank, ds_rank, m_rank, k_rank, v_rank, b_rank, G_rank⟩ := kn_rank
  obtain ⟨f_Canon_swap, fd_Canon_swap, ds_Canon_swap, i_Canon_swap, t_Canon_swap, fn_Canon_swap, k_Canon_swap, v_Canon_swap, b_Canon_swap, G_Canon_swap⟩ := kn_Canon_swap
  refine F.ok sc_Canon_to_order (fun vs H Q E h => ?_) (fun cdv A outer s H vs Q E hr h => ?_)
  · obtain ⟨x, dk, dl, ds, s, ra, p, rfl, _⟩ := h
    all_goals rfl
  · obtain ⟨x, dk, dl, ds, s, ra, p, rfl, hc, hl, hrow, hz, hw, hs, k⟩ := h
    refine ⟨_, (pss_cons (ps_set (i := 1) sc_Canon_to_order.nd rfl (Or.inl rfl) (pe_op op_sub (pe_callB (call_lenK (K := K)) (by rfl) T.b_len (by decide +kernel) (pa_cons (pe_fld (pv 0) rfl) pa_nil)) pe_int))
    (pss_one (ps_while PassesOwn.never (PW.pt (pw_and (pt_cmpR op_gt (pv 1) pe_int (nomark _)) (pw_and1 (pt_cmpR (op_ltDK (K := K) hr.units) (pe_call G_rank (hr.mono (by decide)) rfl m_rank k_rank b_rank v_rank pass0 (pa_cons (pe_ix (ix_listK (K := K)) (pe_fld (pv 0) rfl) (pv 1) (fun _ _ => rfl)) pa_nil)) (pe_call G_rank (hr.mono (by decide)) rfl m_rank k_rank b_rank v_rank pass0 (pa_cons (pe_ix (ix_listK (K := K)) (pe_fld (pv 0) rfl) (pe_op op_sub (pv 1) pe_int) (fun _ _ => rfl)) pa_nil)) (nomark _))))) (pss_cons (ps_expr (pe_meth (pv 0) T.o_Canon.cls ⟨i_Canon_swap, fn_Canon_swap, k_Canon_swap⟩ G_Canon_swap (hr.mono (by decide)) b_Canon_swap v_Canon_swap pass0 (pa_cons (pe_op op_sub (pv 1) pe_int) pa_nil)))
    (pss_one (ps_aug (i := 1) sc_Canon_to_order.nd rfl (Or.inl rfl) pe_int iop_sub)))))), ?_⟩
    obtain ⟨dx, ga⟩ := hc.ob
    have zra : ra.length + 1 ≤ 900 := by
      rw [hl, List.length_append, List.length_reverse, List.length_singleton] at hz
      exact hz
    have rp : Row p := hrow p (by rw [hl]; simp)
    have zp : p.length ≤ 900 := hw p (by rw [hl]; simp)
    refine ⟨_, rfl, x, C_Canon, dx, _, _, rfl, ga, T.o_Canon.cls, T.y_Canon_own_leaves, rfl, dl, _, rfl, .inl (SqL.of hc.lv), _, _, rfl, rfl, ?_⟩
    rw [List.length_map]
    have en : (s.ls.length : Int) - 1 = (ra.length : Int) := by
      rw [hl, List.length_append, List.length_reverse, List.length_singleton]
      omega
    try dsimp only
    rw [en]
    refine ⟨fun m σ H' => ∃ (ra' B' : List (List Nat)) (s' : CS), m = ra'.length ∧ σ = [some (.ref x), some (.int (ra'.length : Int))] ∧ OffS (cx4 x dk dl ds) H H' ∧ CanAt C_Canon H' x dk dl ds s' ∧ s'.ks = s.ks ∧ s'.e = s.e ∧ s'.ls = ra'.reverse ++ p :: B' ∧ s'.ss ++ ordS ra' p = s.ss ++ ordS ra p ∧ ordL ra' p ++ B' = ordL ra p ∧ s'.ss.length + ra'.length ≤ 91000 ∧ ra'.length + B'.length = ra.length ∧ (∀ q, q ∈ ra' ∨ q ∈ B' → Row q ∧ q.length ≤ 900), ⟨_, ra, [], s, rfl, rfl, OffS.refl _ _, hc, rfl, rfl, hl, rfl, List.append_nil _, by omega, rfl, fun q hq => ?_⟩, ?_⟩
    · rcases hq with hq | hq
      · have : q ∈ s.ls := by rw [hl]; exact List.mem_append_left _ (List.mem_reverse.mpr hq)
        exact ⟨hrow q this, hw q this⟩
      · cases hq
    rintro m σ H1 ⟨ra', B', s', rfl, rfl, o1, c1, k1, e1, l1, ss1, ol, z1, z2, w1⟩
    obtain ⟨dx1, ga1⟩ := c1.ob
    have fin : s'.ss = s.ss ++ ordS ra p → s'.ls = ordL ra p → Q .non H1 := fun h1 h2 => by
      refine k H1 o1 ?_
      have : s' = { s with ls := ordL ra p, ss := s.ss ++ ordS ra p } := by
        cases s'
        cases s
        simp only at k1 e1 h1 h2 ⊢
        subst k1 e1 h1 h2
        rfl
      rw [this] at c1
      exact c1
    refine ⟨_, rfl, _, _, rfl, rfl, _, rfl, ?_⟩
    cases ra' with
    | nil =>
      rw [decide_eq_false (by rw [List.length_nil]; omega)]
      refine iteF (iteF (fin ?_ ?_))
      · rw [← ss1]
        exact (List.append_nil _).symm
      · rw [← ol, l1]
        rfl
    | cons q ra' =>
      rw [decide_eq_true (by rw [List.length_cons]; omega)]
      obtain ⟨rq, zq⟩ := w1 q (.inl List.mem_cons_self)
      have el : s'.ls.map sT = (ra'.reverse.map sT) ++ sT q :: sT p :: B'.map sT := by rw [l1]; simp
      have lr : (ra'.reverse.map sT).length = ra'.length := by rw [List.length_map, List.length_reverse]
      have a1 : atI (s'.ls.map sT) ((q :: ra').length : Int) = some (sT p) := atI_nat (by rw [el, List.getElem?_append_right (by rw [lr, List.length_cons]; omega), lr, List.length_cons]; simp)
      have e2 : ((q :: ra').length : Int) - 1 = (ra'.length : Int) := by rw [List.length_cons]; omega
      have a2 : atI (s'.ls.map sT) (((q :: ra').length : Int) - 1) = some (sT q) := by
        rw [e2]
        exact atI_nat (by rw [el, List.getElem?_append_right (by rw [lr]; omega), lr]; simp)
      refine iteT ⟨_, rfl, x, C_Canon, dx1, _, _, rfl, ga1, T.o_Canon.cls, T.y_Canon_own_leaves, rfl, _, rfl, dl, _, _, sT p, rfl, rfl, SqL.of c1.lv, a1, p, rfl, rp, by omega, fun t qa H3 s3 _ ht hq => ?_⟩
      refine ⟨_, rfl, x, C_Canon, dx1, _, _, rfl, s3 _ _ ga1, T.o_Canon.cls, T.y_Canon_own_leaves, rfl, _, rfl, _, _, rfl, rfl, dl, _, _, sT q, rfl, rfl, SqL.of (s3 _ _ c1.lv), a2, q, rfl, rq, by omega, fun t' q' H4 s4 _ ht' hq' => ?_⟩
      refine ⟨rankD p, rankD q, dp_rank (s4 _ _ ht) (s4 _ _ hq), dp_rank ht' hq', alike_rank p q, (fun h => by cases h), Nat.le_trans (Nat.min_le_left _ _) (depth_rank p), _, rfl, ?_⟩
      rw [lt_rank]
      have s14 := Same.trans s3 s4
      have c4 := c1.same s14
      have o4 := o1.trans (OffS.of (ex := cx4 x dk dl ds) s14)
      cases hb : RowM.before p q with
      | false =>
        refine iteF ?_
        have h1 : ordS (q :: ra') p = [] := by unfold ordS; rw [if_neg (by rw [hb]; decide)]
        have h2 : ordL (q :: ra') p = ra'.reverse ++ [q, p] := by unfold ordL; rw [if_neg (by rw [hb]; decide)]
        rw [h1, List.append_nil] at ss1
        rw [h2] at ol
        refine k H4 o4 ?_
        have : s' = { s with ls := ordL ra p, ss := s.ss ++ ordS ra p } := by
          have h3 : s'.ls = ordL ra p := by rw [l1, ← ol]; simp
          cases s'
          cases s
          simp only at k1 e1 ss1 h3 ⊢
          subst k1 e1 ss1 h3
          rfl
        rw [this] at c4
        exact c4
      | true =>
        have h1 : ordS (q :: ra') p = .past (rnd ra'.reverse).length q.length p.length :: ordS ra' p := by
          conv => lhs; unfold ordS
          rw [if_pos hb]
        have h2 : ordL (q :: ra') p = ordL ra' p ++ [q] := by
          conv => lhs; unfold ordL
          rw [if_pos hb]
        rw [h1] at ss1
        rw [h2] at ol
        rw [List.length_cons] at z1 z2
        refine iteT ⟨fun σ' H' => ∃ m', m' < (q :: ra').length ∧ (∃ (ra'' B'' : List (List Nat)) (s'' : CS), m' = ra''.length ∧ σ' = [some (.ref x), some (.int (ra''.length : Int))] ∧ OffS (cx4 x dk dl ds) H H' ∧ CanAt C_Canon H' x dk dl ds s'' ∧ s''.ks = s.ks ∧ s''.e = s.e ∧ s''.ls = ra''.reverse ++ p :: B'' ∧ s''.ss ++ ordS ra'' p = s.ss ++ ordS ra p ∧ ordL ra'' p ++ B'' = ordL ra p ∧ s''.ss.length + ra''.length ≤ 91000 ∧ ra''.length + B''.length = ra.length ∧ (∀ q, q ∈ ra'' ∨ q ∈ B'' → Row q ∧ q.length ≤ 900)), fun _ _ h => h, ?_⟩
        obtain ⟨dx4, ga4⟩ := c4.ob
        have l2 : s'.ls = ra'.reverse ++ q :: p :: B' := by rw [l1]; simp
        refine ⟨_, rfl, x, _, _, rfl, ga4, rfl, _, rfl, _, _, rfl, rfl, x, dk, dl, ds, s', ra'.reverse, q, p, B', (by rw [List.length_reverse]; show [V.ref x, V.int (((q :: ra').length : Int) - 1)] = _; rw [e2]), c4, l2, by rw [l2, List.length_append, List.length_reverse, List.length_cons, List.length_cons]; omega, fun r hr => ?_, by omega, fun H5 o5 c5 => ?_⟩
        · rw [l2] at hr
          rcases List.mem_append.mp hr with h | h
          · exact Nat.le_trans (w1 r (.inl (List.mem_cons_of_mem _ (List.mem_reverse.mp h)))).2 (by decide)
          rcases List.mem_cons.mp h with rfl | h
          · omega
          rcases List.mem_cons.mp h with rfl | h
          · omega
          · exact Nat.le_trans (w1 r (.inr h)).2 (by decide)
        refine ⟨_, rfl, _, _, rfl, rfl, ra'.length, Nat.lt_succ_self _, ra', q :: B', _, rfl, ?_, o4.trans o5, c5, k1, e1, rfl, ?_, ?_, ?_, by rw [List.length_cons]; omega, fun r hr => ?_⟩
        · show [_, some (V.int (((q :: ra').length : Int) - 1))] = _
          rw [e2]
        · rw [← ss1]
          show (s'.ss ++ [_]) ++ ordS ra' p = s'.ss ++ (_ :: ordS ra' p)
          rw [List.append_assoc]
          rfl
        · rw [← ol]
          simp
        · show (s'.ss ++ [_]).length + _ ≤ _
          rw [List.length_append, List.length_singleton]
          omega
        · rcases hr with h | h
          · exact w1 r (.inl (List.mem_cons_of_mem _ h))
          rcases List.mem_cons.mp h with rfl | h
          · exact w1 r (.inl List.mem_cons_self)
          · exact w1 r (.inr h)
theorem sc_Canon_fall : FnScope ["self", "elder", "leaf", "end", "back", "one"] ["self"] (defScope s_Canon_fall) := ⟨rfl, rfl, rfl, by decide +kernel, rfl, by decide +kernel, by decide +kernel⟩
theorem ok_Canon_fall {f : Addr} {fd : FuncData} (F : Fun K "fall" "Canon.fall" s_Canon_fall f fd) (T : Txt K mg w D_CONTRARY D_NUMBERS D_STEPS C_Canon C_NoRow C_NoStep C_Walk C_World) (kn_Canon_to_end : KM P w K mg base CX0 3 ["self", "leaf"] (sp_Canon_to_end K C_Canon) C_Canon "to_end" []) (kn_Canon_at_leaf : KM P w K mg base CX0 1 ["self", "number"] (sp_Canon_at_leaf K C_Canon) C_Canon "at_leaf" []) (kn_Canon_to_order : KM P w K mg base CX0 3 ["self"] (sp_Canon_to_order K C_Canon) C_Canon "to_order" []) : FnOk P w K mg base CX0 4 f fd ["self"] (sp_Canon_fall K C_Canon) := by
  obtain ⟨f_Canon_to_end, fd_Canon_to_end, ds_Canon_to_end, i_Canon_to_end, t_Canon_to_end, fn_Canon_to_end, k_Canon_to_end, v_Canon_to_end, b_Canon_to_end, G_Canon_to_end⟩ := kn_Canon_to_end
  obtain ⟨f_Canon_at_leaf, fd_Canon_at_leaf, ds_Canon_at_leaf, i_Canon_at_leaf, t_Canon_at_leaf, fn_Canon_at_leaf, k_Canon_at_leaf, v_Canon_at_leaf, b_Canon_at_leaf, G_Canon_at_leaf⟩ := kn_Canon_at_leaf
  obtain ⟨f_Canon_to_order, fd_Canon_to_order, ds_Canon_to_order, i_Canon_to_order, t_Canon_to_order, fn_Canon_to_order, k_Canon_to_order, v_Canon_to_order, b_Canon_to_order, G_Canon_to_order⟩ := kn_Canon_to_order
  refine F.ok sc_Canon_fall (fun vs H Q E h => ?_) (fun cdv A outer s H vs Q E hr h => ?_)
  · obtain ⟨x, dk, dl, ds, s, rfl, _⟩ := h
    all_goals rfl
  · obtain ⟨x, dk, dl, ds, s, rfl, hc, hz, hw, hs, hrow, hnd, ne, hm, zp, k⟩ := h
    refine ⟨_, (pss_cons (ps_set (i := 1) sc_Canon_fall.nd rfl (Or.inr rfl) (pe_fld (pv 0) rfl))
    (pss_cons (ps_set (i := 2) sc_Canon_fall.nd rfl (Or.inl rfl) (pe_ix (ix_listK (K := K)) (pe_lc (own := [("one", 5)]) (g := gName 5) rfl sc_Canon_fall.nd (pi_list (pe_fld (pv 0) rfl)) (blkOk_by (own := [("one", 5)]) (N := ["self", "elder", "leaf", "end", "back", "one"]) (sc := defScope s_Canon_fall) (by decide +kernel)) (fun _ _ _ _ _ => (pg_name (i := 5) sc_Canon_fall.nd rfl (Or.inl rfl))) (fun _ _ _ _ _ => pts_one (pt_val (pe_m1 PySem.F.slot_str_startswith PySem.F.type_str_startswith mt_startswith (pv 5) (pv 1)))) (fun _ _ _ _ _ => (pv 5))) pe_int (fun _ _ => rfl)))
    (pss_cons (ps_expr (pe_meth (pv 0) T.o_Canon.cls ⟨i_Canon_to_end, fn_Canon_to_end, k_Canon_to_end⟩ G_Canon_to_end (hr.mono (by decide)) b_Canon_to_end v_Canon_to_end pass0 (pa_cons (pv 2) pa_nil)))
    (pss_cons (ps_set (i := 3) sc_Canon_fall.nd rfl (Or.inl rfl) (pe_meth (pv 0) T.o_Canon.cls ⟨i_Canon_at_leaf, fn_Canon_at_leaf, k_Canon_at_leaf⟩ G_Canon_at_leaf (hr.mono (by decide)) b_Canon_at_leaf v_Canon_at_leaf pass0 (pa_cons (pe_callB (call_lenK (K := K)) (by rfl) T.b_len (by decide +kernel) (pa_cons (pe_fld (pv 0) rfl) pa_nil)) pa_nil)))
    (pss_cons (ps_set (i := 4) sc_Canon_fall.nd rfl (Or.inl rfl) (pe_op op_sub (pe_callB call_len_str (by rfl) T.b_len (by decide +kernel) (pa_cons (pv 1) pa_nil)) pe_int))
    (Evl.pss_cut (ps_if (pt_cmpR op_gt (pv 4) pe_int (nomark _)) (pss_one (ps_expr (pe_bm PySem.F.plainAttrs_list PySem.F.slot_list_append PySem.F.type_list_append mt_append (pe_fld (pv 0) rfl) (pa_cons (pe_tup (pa_cons pe_str (pa_cons (pe_op op_sub (pv 3) (pv 4)) (pa_cons (pv 4) (pa_cons pe_int pa_nil))))) pa_nil)))) pss_nil)
    (pss_cons (ps_expr (pe_bm PySem.F.plainAttrs_list PySem.F.slot_list_append PySem.F.type_list_append mt_append (pe_fld (pv 0) rfl) (pa_cons (pe_tup (pa_cons pe_str (pa_cons (pe_op op_sub (pe_op op_sub (pv 3) (pv 4)) pe_int) (pa_cons pe_int pa_nil)))) pa_nil)))
    (pss_cons (ps_fld (pv 0) (pe_slice sl_str (pv 1) po_none (po_some (pe_un un_neg pe_int))) rfl)
    (pss_one (ps_expr (pe_meth0 (pv 0) T.o_Canon.cls ⟨i_Canon_to_order, fn_Canon_to_order, k_Canon_to_order⟩ G_Canon_to_order (hr.mono (by decide)) b_Canon_to_order v_Canon_to_order pass0))))))))))), ?_⟩
    obtain ⟨hm, ht⟩ := hm
    obtain ⟨dx, ga⟩ := hc.ob
    obtain ⟨l, el⟩ : ∃ l, l = leafOf s.ls s.e := ⟨_, rfl⟩
    obtain ⟨r0, er0⟩ : ∃ r0, s.ls.filter (fun l => decide (l.take s.e.length = s.e)) = l :: r0 := by
      have h1 : leafOf s.ls s.e ∈ s.ls.filter (fun l => decide (l.take s.e.length = s.e)) := List.mem_filter.mpr ⟨hm, decide_eq_true ht⟩
      cases hf : s.ls.filter (fun l => decide (l.take s.e.length = s.e)) with
      | nil => rw [hf] at h1; cases h1
      | cons a r =>
        refine ⟨r, ?_⟩
        rw [el]
        unfold leafOf
        rw [hf]
        rfl
    have zl1 := hw _ hm
    have ze := List.length_pos_iff.mpr ne
    rw [← el] at hm ht k zl1
    refine ⟨_, rfl, x, C_Canon, dx, _, _, rfl, ga, T.o_Canon.cls, T.y_Canon_own_end, rfl, ?_⟩
    refine ⟨_, rfl, x, C_Canon, dx, _, _, rfl, ga, T.o_Canon.cls, T.y_Canon_own_leaves, rfl, dl, rfl, ⟨_, SqL.of hc.lv⟩, fun D hD => ?_⟩
    refine lc_list (K := K) (a := dl) (xs := s.ls.map sT) (fun i H' => H' D = some (.lst (((s.ls.take i).filter (fun l => decide (l.take s.e.length = s.e))).map sT)) ∧ Same H H' ∧ i ≤ s.ls.length) ⟨upd_same, Same.new hD, Nat.zero_le _⟩ (fun _ H' _ ⟨_, s, _⟩ => SqL.of (s _ _ hc.lv)) ?_ ?_
    · rintro i v H3 hv ⟨gD, s3, hi⟩
      rw [List.getElem?_map] at hv
      obtain ⟨p, hp, rfl⟩ := Option.map_eq_some_iff.mp hv
      have il := (List.getElem?_eq_some_iff.mp hp).1
      refine ⟨rfl, _, rfl, ⟨_, rfl⟩, _, rfl, _, _, rfl, rfl, _, rfl, ?_⟩
      rw [show Txt.startswith (S p) (S s.e) = decide (p.take s.e.length = s.e) from starts_take]
      by_cases hq : p.take s.e.length = s.e
      · rw [decide_eq_true hq]
        refine iteT ⟨_, rfl, _, gD, ?_, ?_, fun b o hb => ?_, il⟩
        · rw [List.length_map]
          exact lt_size (Nat.le_trans (List.length_filter_le _ _) (by rw [List.length_take]; omega : _ ≤ 800)) (by decide)
        · rw [upd_same, take_oneS hp, List.filter_append, List.map_append]
          simp [hq]
        · rw [upd_ne (ne_of_none hb hD)]
          exact s3 _ _ hb
      · rw [decide_eq_false hq]
        refine iteF ⟨?_, s3, il⟩
        rw [take_oneS hp, List.filter_append]
        simp [hq, gD]
    rintro H1 ⟨gD, s1, _⟩
    rw [List.length_map, List.take_length, er0] at gD
    have c1 := hc.same s1
    refine ⟨D, _, 0, sT l, rfl, rfl, SqL.of gD, atI0, ?_⟩
    obtain ⟨dx, ga1⟩ := c1.ob
    have tp := toE_perm hm
    obtain ⟨M, eM⟩ : ∃ M, M = toE s.ls l := ⟨_, rfl⟩
    have zM0 : M.length + 1 = s.ls.length := by
      rw [eM]
      exact (toES_len hm).2
    have zT := (toES_len hm).1
    have spm := sumL_perm tp
    rw [← eM] at tp spm k
    have mM : ∀ q ∈ M ++ [l], q ∈ s.ls := fun q hq => tp.mem_iff.mpr hq
    refine ⟨_, rfl, x, _, _, rfl, ga1, rfl, _, rfl, x, dk, dl, ds, s, l, rfl, c1, hm, by omega, fun q hq => Nat.le_trans (hw q hq) (by decide), by omega, fun H2 o2 c2 => ?_⟩
    rw [← eM] at c2
    have o2 := (OffS.of (ex := cx4 x dk dl ds) s1).trans o2
    obtain ⟨dx, ga2⟩ := c2.ob
    refine ⟨_, rfl, x, _, _, rfl, ga2, rfl, _, rfl, x, C_Canon, dx, _, _, rfl, ga2, T.o_Canon.cls, T.y_Canon_own_leaves, rfl, dl, _, rfl, .inl (SqL.of c2.lv), x, dk, dl, ds, _, ((M ++ [l]).map sT).length, rfl, c2, ?_, fun q hq => Nat.le_trans (hw q (mM q hq)) (by decide), by rw [List.length_map]; exact Nat.le_refl _, fun H3 s3 => ?_⟩
    · show (M ++ [l]).length ≤ 1000
      rw [List.length_append, List.length_singleton]
      omega
    rw [show sumL (List.take ((M ++ [l]).map sT).length (CS.mk s.ks (M ++ [l]) s.e (s.ss ++ toES s.ls l)).ls) = sumL s.ls from (by rw [List.length_map]; show sumL (List.take (M ++ [l]).length (M ++ [l])) = _; rw [List.take_length, spm])]
    have c3 := c2.same s3
    have o3 := o2.trans (OffS.of s3)
    obtain ⟨n, en⟩ : ∃ n, n = 2 * sumL s.ls := ⟨_, rfl⟩
    obtain ⟨b, eb⟩ : ∃ b, b = s.e.length - 1 := ⟨_, rfl⟩
    rw [← en]
    refine ⟨_, rfl, _, rfl, sz_of' (by rw [len_S]; omega), _, _, rfl, rfl, ?_⟩
    have ebi : ((S s.e).length : Int) - 1 = (b : Int) := by
      rw [len_S]
      omega
    try dsimp only
    rw [ebi]
    have zle : s.e.length ≤ sumL s.ls := by
      have h1 : s.e.length ≤ l.length := by
        have := congrArg List.length ht
        rw [List.length_take] at this
        omega
      rw [spm, sumL_app, sumL_cons]
      omega
    have zb : b + 1 ≤ n := by omega
    have o3' : OffS (cx4 x dk dl ds) H H3 := o3
    refine ⟨fun σ H' => σ = [some (.ref x), some (.str (S s.e)), some (sT l), some (.int (n : Int)), some (.int (b : Int)), none] ∧ OffS (cx4 x dk dl ds) H H' ∧ CanAt C_Canon H' x dk dl ds ⟨s.ks, M ++ [l], s.e, (s.ss ++ toES s.ls l) ++ (if 0 < b then [.past (n - b) b 1] else [])⟩, ?_, ?_⟩
    · refine ⟨_, rfl, _, _, rfl, rfl, _, rfl, ?_⟩
      by_cases h0 : 0 < b
      · rw [decide_eq_true (by omega : (0 : Int) < (b : Int)), if_pos h0]
        obtain ⟨dx, ga3⟩ := c3.ob
        obtain ⟨xs, gxs⟩ := c3.lstS
        refine iteT ⟨_, rfl, x, C_Canon, dx, _, _, rfl, ga3, T.o_Canon.cls, T.y_Canon_own_steps, rfl, .inl ⟨rfl, _, SqL.of gxs⟩, _, rfl, _, rfl, _, _, rfl, rfl, _, rfl, (by show 4 ≤ sizeLine; decide), fun u hu => ?_⟩
        have e1 : (n : Int) - (b : Int) = ((n - b : Nat) : Int) := by omega
        try dsimp only
        rw [e1]
        obtain ⟨ts, zt, gt, c4, o4⟩ := c3.addS hu (.past (n - b) b 1)
        exact ⟨ds, _, _, rfl, rfl, gt, lt_size (by rw [List.length_map, zt]; show (s.ss ++ toES s.ls l).length ≤ 81000; rw [List.length_append]; omega) (by decide), rfl, o3.trans o4, c4⟩
      · rw [decide_eq_false (by omega : ¬ (0 : Int) < (b : Int)), if_neg h0]
        exact iteF ⟨rfl, o3, c3.to (by rw [List.append_nil])⟩
    rintro σ H4 ⟨rfl, o4, c4⟩
    have zs4 : ((s.ss ++ toES s.ls l) ++ (if 0 < b then [StepD.past (n - b) b 1] else [])).length ≤ 81001 := by
      rw [List.length_append, List.length_append]
      split
      · rw [List.length_singleton]; omega
      · rw [List.length_nil]; omega
    obtain ⟨dx, ga4⟩ := c4.ob
    obtain ⟨xs, gxs⟩ := c4.lstS
    refine ⟨_, rfl, x, C_Canon, dx, _, _, rfl, ga4, T.o_Canon.cls, T.y_Canon_own_steps, rfl, .inl ⟨rfl, _, SqL.of gxs⟩, _, rfl, _, rfl, _, _, rfl, rfl, _, _, rfl, rfl, (by show 3 ≤ sizeLine; decide), fun u hu => ?_⟩
    have e1 : (n : Int) - (b : Int) - 1 = ((n - b - 1 : Nat) : Int) := by omega
    try dsimp only
    rw [e1]
    obtain ⟨ts, zt, gt, c5, o5⟩ := c4.addS hu (.less (n - b - 1) 1)
    refine ⟨ds, _, _, rfl, rfl, gt, lt_size (by rw [List.length_map, zt]; exact zs4) (by decide), ?_⟩
    have o5 := o4.trans o5
    have c5 : CanAt C_Canon (upd (upd H4 u (.tup [V.str (Str.ofString "less"), .int ((n - b - 1 : Nat) : Int), .int 1])) ds (.lst (ts.map V.ref ++ [V.ref u]))) x dk dl ds _ := c5
    have o5 : OffS (cx4 x dk dl ds) H (upd (upd H4 u (.tup [V.str (Str.ofString "less"), .int ((n - b - 1 : Nat) : Int), .int 1])) ds (.lst (ts.map V.ref ++ [V.ref u]))) := o5
    generalize upd (upd H4 u (.tup [V.str (Str.ofString "less"), .int ((n - b - 1 : Nat) : Int), .int 1])) ds (.lst (ts.map V.ref ++ [V.ref u])) = H5 at c5 o5 ⊢
    obtain ⟨dx, ga5⟩ := c5.ob
    obtain ⟨e', y, ee⟩ : ∃ e' y, s.e = e' ++ [y] := ⟨_, _, (List.dropLast_concat_getLast ne).symm⟩
    have ed : s.e.dropLast = e' := by rw [ee, List.dropLast_concat]
    refine ⟨_, rfl, _, rfl, _, rfl, _, rfl, sz_of' (by rw [len_S]; omega), _, rfl, x, C_Canon, dx, _, rfl, ga5, T.o_Canon.cls, T.y_Canon_own_end, (by show 4 < 1000; decide), ?_⟩
    rw [show cutS (S s.e) none (some (-1)) = S e' by rw [ee]; exact cut_last]
    have c7 := c5.putE ga5 e'
    have o7 := o5.upd (b := x) (o := .ins C_Canon dx (cnF e' dk dl ds)) (by simp)
    have c7 : CanAt C_Canon (upd H5 x (.ins C_Canon dx (putF (Str.ofString "own_end") (V.str (S e')) (cnF s.e dk dl ds)))) x dk dl ds _ := c7
    have o7 : OffS (cx4 x dk dl ds) H (upd H5 x (.ins C_Canon dx (putF (Str.ofString "own_end") (V.str (S e')) (cnF s.e dk dl ds)))) := o7
    generalize upd H5 x (.ins C_Canon dx (putF (Str.ofString "own_end") (V.str (S e')) (cnF s.e dk dl ds))) = H7 at c7 o7 ⊢
    obtain ⟨dx, ga7⟩ := c7.ob
    refine ⟨_, rfl, x, _, _, rfl, ga7, rfl, x, dk, dl, ds, _, M.reverse, l, rfl, c7, (by rw [List.reverse_reverse]), fun q hq => hrow q (mM q hq), ?_, fun q hq => Nat.le_trans (hw q (mM q hq)) (by decide), ?_, fun H8 o8 c8 => k H8 (o7.trans o8) (c8.to ?_)⟩
    · show (M ++ [l]).length ≤ 900
      rw [List.length_append, List.length_singleton]
      omega
    · show ((((s.ss ++ toES s.ls l) ++ (if 0 < b then [StepD.past (n - b) b 1] else []))) ++ [_]).length ≤ 90000
      rw [List.length_append, List.length_singleton]
      omega
    · unfold fallS
      dsimp only
      rw [← el, ← eM, ed, ← eb, ← en]
      simp only [List.append_assoc]
theorem sc_Canon_grow : FnScope ["self", "place", "elder", "begin"] ["self", "place"] (defScope s_Canon_grow) := ⟨rfl, rfl, rfl, by decide +kernel, rfl, by decide +kernel, by decide +kernel⟩
theorem ok_Canon_grow {f : Addr} {fd : FuncData} (F : Fun K "grow" "Canon.grow" s_Canon_grow f fd) (T : Txt K mg w D_CONTRARY D_NUMBERS D_STEPS C_Canon C_NoRow C_NoStep C_Walk C_World) (kn_Canon_to_end : KM P w K mg base CX0 3 ["self", "leaf"] (sp_Canon_to_end K C_Canon) C_Canon "to_end" []) (kn_Canon_at_leaf : KM P w K mg base CX0 1 ["self", "number"] (sp_Canon_at_leaf K C_Canon) C_Canon "at_leaf" []) (kn_Canon_to_order : KM P w K mg base CX0 3 ["self"] (sp_Canon_to_order K C_Canon) C_Canon "to_order" []) : FnOk P w K mg base CX0 4 f fd ["self", "place"] (sp_Canon_grow K C_Canon) := by
  obtain ⟨f_Canon_to_end, fd_Canon_to_end, ds_Canon_to_end, i_Canon_to_end, t_Canon_to_end, fn_Canon_to_end, k_Canon_to_end, v_Canon_to_end, b_Canon_to_end, G_Canon_to_end⟩ := kn_Canon_to_end
  obtain ⟨f_Canon_at_leaf, fd_Canon_at_leaf, ds_Canon_at_leaf, i_Canon_at_leaf, t_Canon_at_leaf, fn_Canon_at_leaf, k_Canon_at_leaf, v_Canon_at_leaf, b_Canon_at_leaf, G_Canon_at_leaf⟩ := kn_Canon_at_leaf
  obtain ⟨f_Canon_to_order, fd_Canon_to_order, ds_Canon_to_order, i_Canon_to_order, t_Canon_to_order, fn_Canon_to_order, k_Canon_to_order, v_Canon_to_order, b_Canon_to_order, G_Canon_to_order⟩ := kn_Canon_to_order
  refine F.ok sc_Canon_grow (fun vs H Q E h => ?_) (fun cdv A outer s H vs Q E hr h => ?_)
  · obtain ⟨x, dk, dl, ds, s, c, rfl, _⟩ := h
    all_goals rfl
  · obtain ⟨x, dk, dl, ds, s, c, rfl, hc, hz, hw, hs, hrow, hnd, hk, rp, zp, k⟩ := h
    refine ⟨_, (pss_cons (ps_set (i := 2) sc_Canon_grow.nd rfl (Or.inl rfl) (pe_fld (pv 0) rfl))
    (pss_cons (ps_if (pt_cmpR (op_inK (K := K)) (pv 2) (pe_fld (pv 0) rfl) (by rfl)) (pss_one (ps_expr (pe_meth (pv 0) T.o_Canon.cls ⟨i_Canon_to_end, fn_Canon_to_end, k_Canon_to_end⟩ G_Canon_to_end (hr.mono (by decide)) b_Canon_to_end v_Canon_to_end pass0 (pa_cons (pv 2) pa_nil)))) pss_nil)
    (pss_cons (ps_set (i := 3) sc_Canon_grow.nd rfl (Or.inl rfl) (pe_meth (pv 0) T.o_Canon.cls ⟨i_Canon_at_leaf, fn_Canon_at_leaf, k_Canon_at_leaf⟩ G_Canon_at_leaf (hr.mono (by decide)) b_Canon_at_leaf v_Canon_at_leaf pass0 (pa_cons (pe_callB (call_lenK (K := K)) (by rfl) T.b_len (by decide +kernel) (pa_cons (pe_fld (pv 0) rfl) pa_nil)) pa_nil)))
    (pss_cons (ps_expr (pe_bm PySem.F.plainAttrs_list PySem.F.slot_list_append PySem.F.type_list_append mt_append (pe_fld (pv 0) rfl) (pa_cons (pe_tup (pa_cons pe_str (pa_cons (pv 3) (pa_cons (pe_callB call_len_str (by rfl) T.b_len (by decide +kernel) (pa_cons (pv 1) pa_nil)) pa_nil)))) pa_nil)))
    (pss_cons (ps_if (pt_cmpR (op_inK (K := K)) (pv 2) (pe_fld (pv 0) rfl) (by rfl)) (pss_cons (ps_expr (pe_bm PySem.F.plainAttrs_list PySem.F.slot_list_append PySem.F.type_list_append mt_append (pe_fld (pv 0) rfl) (pa_cons (pe_tup (pa_cons pe_str (pa_cons (pe_op op_sub (pv 3) (pe_op op_mul pe_int (pe_callB call_len_str (by rfl) T.b_len (by decide +kernel) (pa_cons (pv 2) pa_nil)))) (pa_cons (pe_callB call_len_str (by rfl) T.b_len (by decide +kernel) (pa_cons (pv 2) pa_nil)) pa_nil)))) pa_nil)))
    (pss_one (ps_expr (pe_bm0 PySem.F.plainAttrs_list PySem.F.slot_list_pop PySem.F.type_list_pop mt_pop (pe_fld (pv 0) rfl))))) pss_nil)
    (pss_cons (ps_dput (hu_of hr) (pe_fld (pv 0) rfl) (pv 1) pe_bl rfl)
    (pss_cons (ps_expr (pe_bm PySem.F.plainAttrs_list PySem.F.slot_list_append PySem.F.type_list_append mt_append (pe_fld (pv 0) rfl) (pa_cons (pv 1) pa_nil)))
    (pss_cons (ps_fld (pv 0) (pv 1) rfl)
    (pss_one (ps_expr (pe_meth0 (pv 0) T.o_Canon.cls ⟨i_Canon_to_order, fn_Canon_to_order, k_Canon_to_order⟩ G_Canon_to_order (hr.mono (by decide)) b_Canon_to_order v_Canon_to_order pass0))))))))))), ?_⟩
    have zn : 1 ≤ sizeLine := by decide
    obtain ⟨P, eP⟩ : ∃ P, P = s.e ++ [c] := ⟨_, rfl⟩
    have zP : P.length = s.e.length + 1 := by rw [eP, List.length_append, List.length_singleton]
    rw [← eP] at k rp ⊢
    obtain ⟨dx, ga⟩ := hc.ob
    refine ⟨_, rfl, x, C_Canon, dx, _, _, rfl, ga, T.o_Canon.cls, T.y_Canon_own_end, rfl, ?_⟩
    refine ⟨_, rfl, _, rfl, x, C_Canon, dx, _, _, rfl, ga, T.o_Canon.cls, T.y_Canon_own_leaves, rfl, dl, _, rfl, .inl (SqL.of hc.lv), rfl, flat_T s.ls, _, rfl, ?_⟩
    rw [show (if false = true then !inV (V.str (S s.e)) (s.ls.map sT) else inV (V.str (S s.e)) (s.ls.map sT)) = decide (s.e ∈ s.ls) from in_texts _ _]
    by_cases he : s.e ∈ s.ls
    · rw [decide_eq_true he]
      have tp := toE_perm he
      obtain ⟨M, eM⟩ : ∃ M, M = toE s.ls s.e := ⟨_, rfl⟩
      have zM0 : M.length + 1 = s.ls.length := by
        rw [eM]
        exact (toES_len he).2
      have zM : M.length ≤ 900 := by omega
      have zT := (toES_len he).1
      have spm := sumL_perm tp
      rw [← eM] at tp spm
      have mM : ∀ q ∈ M ++ [s.e], q ∈ s.ls := fun q hq => tp.mem_iff.mpr hq
      refine iteT ⟨_, rfl, x, _, _, rfl, ga, rfl, _, rfl, x, dk, dl, ds, s, s.e, rfl, hc, he, by omega, fun q hq => Nat.le_trans (hw q hq) (by decide), by omega, fun H1 o1 c1 => ?_⟩
      rw [← eM] at c1
      obtain ⟨dx, ga1⟩ := c1.ob
      refine ⟨_, rfl, x, _, _, rfl, ga1, rfl, _, rfl, x, C_Canon, dx, _, _, rfl, ga1, T.o_Canon.cls, T.y_Canon_own_leaves, rfl, dl, _, rfl, .inl (SqL.of c1.lv), x, dk, dl, ds, _, ((M ++ [s.e]).map sT).length, rfl, c1, ?_, fun q hq => Nat.le_trans (hw q (mM q hq)) (by decide), by rw [List.length_map]; exact Nat.le_refl _, fun H2 s2 => ?_⟩
      · show (M ++ [s.e]).length ≤ 1000
        rw [List.length_append, List.length_singleton]
        omega
      have e2 : sumL ((M ++ [s.e]).take ((M ++ [s.e]).map sT).length) = sumL s.ls := by rw [List.length_map, List.take_length, spm]
      show _
      rw [show sumL (List.take ((M ++ [s.e]).map sT).length (CS.mk s.ks (M ++ [s.e]) s.e (s.ss ++ toES s.ls s.e)).ls) = sumL s.ls from e2]
      have c2 := c1.same s2
      have o2 := o1.trans (OffS.of s2)
      obtain ⟨dx, ga2⟩ := c2.ob
      obtain ⟨xs, gxs⟩ := c2.lstS
      refine ⟨_, rfl, x, C_Canon, dx, _, _, rfl, ga2, T.o_Canon.cls, T.y_Canon_own_steps, rfl, .inl ⟨rfl, _, SqL.of gxs⟩, _, rfl, _, rfl, _, rfl, sz_of' (by rw [len_S]; omega), (by show 3 ≤ sizeLine; decide), fun u hu => ?_⟩
      rw [len_S]
      obtain ⟨ts, zt, gt, c3, o3⟩ := c2.addS hu (.more (2 * sumL s.ls) P.length)
      refine ⟨ds, _, _, rfl, rfl, gt, lt_size (by rw [List.length_map, zt]; show (s.ss ++ toES s.ls s.e).length ≤ 81000; rw [List.length_append]; omega) (by decide), ?_⟩
      have o3 := o2.trans o3
      have c3 : CanAt C_Canon (upd (upd H2 u (.tup [V.str (Str.ofString "more"), .int ((2 * sumL s.ls : Nat) : Int), .int (P.length : Int)])) ds (.lst (ts.map V.ref ++ [V.ref u]))) x dk dl ds _ := c3
      have o3 : OffS (cx4 x dk dl ds) H (upd (upd H2 u (.tup [V.str (Str.ofString "more"), .int ((2 * sumL s.ls : Nat) : Int), .int (P.length : Int)])) ds (.lst (ts.map V.ref ++ [V.ref u]))) := o3
      generalize upd (upd H2 u (.tup [V.str (Str.ofString "more"), .int ((2 * sumL s.ls : Nat) : Int), .int (P.length : Int)])) ds (.lst (ts.map V.ref ++ [V.ref u])) = H3 at c3 o3 ⊢
      -- the elder's round goes
      obtain ⟨dx, ga3⟩ := c3.ob
      refine ⟨_, rfl, _, rfl, x, C_Canon, dx, _, _, rfl, ga3, T.o_Canon.cls, T.y_Canon_own_leaves, rfl, dl, _, rfl, .inl (SqL.of c3.lv), rfl, flat_T _, _, rfl, ?_⟩
      rw [show (if false = true then !inV (V.str (S s.e)) ((M ++ [s.e]).map sT) else inV (V.str (S s.e)) ((M ++ [s.e]).map sT)) = decide (s.e ∈ M ++ [s.e]) from in_texts _ _, decide_eq_true (by simp : s.e ∈ M ++ [s.e])]
      obtain ⟨xs3, gxs3⟩ := c3.lstS
      refine iteT ⟨_, rfl, x, C_Canon, dx, _, _, rfl, ga3, T.o_Canon.cls, T.y_Canon_own_steps, rfl, .inl ⟨rfl, _, SqL.of gxs3⟩, ?_⟩
      have eL : ((2 * sumL s.ls : Nat) : Int) - 2 * ((S s.e).length : Int) = ((2 * sumL s.ls - 2 * s.e.length : Nat) : Int) := by
        rw [sumL_app, sumL_cons] at spm
        rw [len_S]
        omega
      refine ⟨_, rfl, _, rfl, _, rfl, sz_of' (by rw [len_S]; omega), _, _, rfl, rfl, .inl ⟨by decide, by decide⟩, _, _, rfl, rfl, _, rfl, _, rfl, sz_of' (by rw [len_S]; omega), (by show 3 ≤ sizeLine; decide), fun u2 hu2 => ?_⟩
      try dsimp only
      rw [eL, len_S]
      obtain ⟨ts3, zt3, gt3, c4, o4⟩ := c3.addS hu2 (.less (2 * sumL s.ls - 2 * s.e.length) s.e.length)
      refine ⟨ds, _, _, rfl, rfl, gt3, lt_size (by rw [List.length_map, zt3]; show ((s.ss ++ toES s.ls s.e) ++ [_]).length ≤ 81001; rw [List.length_append, List.length_append, List.length_singleton]; omega) (by decide), ?_⟩
      have o4 := o3.trans o4
      have c4 : CanAt C_Canon (upd (upd H3 u2 (.tup [V.str (Str.ofString "less"), .int ((2 * sumL s.ls - 2 * s.e.length : Nat) : Int), .int (s.e.length : Int)])) ds (.lst (ts3.map V.ref ++ [V.ref u2]))) x dk dl ds _ := c4
      have o4 : OffS (cx4 x dk dl ds) H (upd (upd H3 u2 (.tup [V.str (Str.ofString "less"), .int ((2 * sumL s.ls - 2 * s.e.length : Nat) : Int), .int (s.e.length : Int)])) ds (.lst (ts3.map V.ref ++ [V.ref u2]))) := o4
      generalize upd (upd H3 u2 (.tup [V.str (Str.ofString "less"), .int ((2 * sumL s.ls - 2 * s.e.length : Nat) : Int), .int (s.e.length : Int)])) ds (.lst (ts3.map V.ref ++ [V.ref u2])) = H3b at c4 o4 ⊢
      obtain ⟨dx, ga4⟩ := c4.ob
      refine ⟨_, rfl, x, C_Canon, dx, _, _, rfl, ga4, T.o_Canon.cls, T.y_Canon_own_leaves, rfl, .inl ⟨rfl, _, SqL.of c4.lv⟩, dl, (M ++ [s.e]).map sT, sT s.e, rfl, rfl, c4.lv, (by rw [List.map_append, List.length_append]; simp), ?_⟩
      have c4 := c4.putL M
      have o4 := o4.upd (b := dl) (o := .lst (M.map sT)) (by simp)
      rw [show ((M ++ [s.e]).map sT).dropLast = M.map sT by rw [List.map_append]; simp]
      have c4 : CanAt C_Canon (upd H3b dl (.lst (M.map sT))) x dk dl ds _ := c4
      generalize upd H3b dl (.lst (M.map sT)) = H4 at c4 o4 ⊢
      have mM0 : ∀ q ∈ M, q ∈ s.ls := fun q hq => mM q (List.mem_append_left _ hq)
      -- the place is known
      obtain ⟨dx, ga⟩ := c4.ob
      refine ⟨_, rfl, x, C_Canon, dx, _, _, rfl, ga, T.o_Canon.cls, T.y_Canon_own_known, rfl, _, rfl, dk, _, rfl, DPut.k (k := kT P) c4.kn (lt_size (by rw [len_kvT]; exact hk) (by decide)), ?_⟩
      rw [put_T]
      have c5 := c4.putK (addK s.ks P)
      have o5 := o4.upd (b := dk) (o := .dK (kvT (addK s.ks P))) (by simp)
      have c5 : CanAt C_Canon (upd H4 dk (.dK (kvT (addK s.ks P)))) x dk dl ds _ := c5
      generalize upd H4 dk (.dK (kvT (addK s.ks P))) = H5 at c5 o5 ⊢
      obtain ⟨dx, ga⟩ := c5.ob
      refine ⟨_, rfl, x, C_Canon, dx, _, _, rfl, ga, T.o_Canon.cls, T.y_Canon_own_leaves, rfl, .inl ⟨rfl, _, SqL.of c5.lv⟩, _, rfl, dl, _, _, rfl, rfl, c5.lv, lt_size (by rw [List.length_map]; exact zM) (by decide), ?_⟩
      have c6 := c5.putL (M ++ [P])
      rw [List.map_append] at c6
      have o6 := o5.upd (b := dl) (o := .lst (M.map sT ++ [V.str (S P)])) (by simp)
      have c6 : CanAt C_Canon (upd H5 dl (.lst (M.map sT ++ [V.str (S P)]))) x dk dl ds _ := c6
      generalize upd H5 dl (.lst (M.map sT ++ [V.str (S P)])) = H6 at c6 o6 ⊢
      obtain ⟨dx, ga⟩ := c6.ob
      refine ⟨_, rfl, _, rfl, x, C_Canon, dx, _, rfl, ga, T.o_Canon.cls, T.y_Canon_own_end, (by show 4 < 1000; decide), ?_⟩
      have c7 := c6.putE ga P
      have o7 := o6.upd (b := x) (o := .ins C_Canon dx (cnF P dk dl ds)) (by simp)
      have c7 : CanAt C_Canon (upd H6 x (.ins C_Canon dx (putF (Str.ofString "own_end") (V.str (S P)) (cnF s.e dk dl ds)))) x dk dl ds _ := c7
      have o7 : OffS (cx4 x dk dl ds) H (upd H6 x (.ins C_Canon dx (putF (Str.ofString "own_end") (V.str (S P)) (cnF s.e dk dl ds)))) := o7
      generalize upd H6 x (.ins C_Canon dx (putF (Str.ofString "own_end") (V.str (S P)) (cnF s.e dk dl ds))) = H7 at c7 o7 ⊢
      obtain ⟨dx, ga⟩ := c7.ob
      have mP : ∀ q ∈ M ++ [P], Row q ∧ q.length ≤ 900 := fun q hq => by
        rcases List.mem_append.mp hq with h | h
        · have h' := mM0 q h
          exact ⟨hrow q h', Nat.le_trans (hw q h') (by decide)⟩
        · rw [List.mem_singleton.mp h]
          exact ⟨rp, by omega⟩
      refine ⟨_, rfl, x, _, _, rfl, ga, rfl, x, dk, dl, ds, _, M.reverse, P, rfl, c7, (by rw [List.reverse_reverse]), fun q hq => (mP q hq).1, ?_, fun q hq => (mP q hq).2, ?_, fun H8 o8 c8 => k H8 (o7.trans o8) (c8.to ?_)⟩
      · show (M ++ [P]).length ≤ 900
        rw [List.length_append, List.length_singleton]
        omega
      · show (((s.ss ++ toES s.ls s.e) ++ [_]) ++ [_]).length ≤ 90000
        simp only [List.length_append, List.length_singleton]
        omega
      · unfold growS
        simp only [if_pos he, ← eM, List.append_assoc]
    · rw [decide_eq_false he]
      have zM : s.ls.length ≤ 900 := by omega
      refine iteF ⟨_, rfl, x, _, _, rfl, ga, rfl, _, rfl, x, C_Canon, dx, _, _, rfl, ga, T.o_Canon.cls, T.y_Canon_own_leaves, rfl, dl, _, rfl, .inl (SqL.of hc.lv), x, dk, dl, ds, s, (s.ls.map sT).length, rfl, hc, by omega, fun q hq => Nat.le_trans (hw q hq) (by decide), by rw [List.length_map]; exact Nat.le_refl _, fun H2 s2 => ?_⟩
      have e2 : sumL (s.ls.take (s.ls.map sT).length) = sumL s.ls := by rw [List.length_map, List.take_length]
      rw [e2]
      have c2 := hc.same s2
      have o2 : OffS (cx4 x dk dl ds) H H2 := OffS.of s2
      obtain ⟨dx, ga2⟩ := c2.ob
      obtain ⟨xs, gxs⟩ := c2.lstS
      refine ⟨_, rfl, x, C_Canon, dx, _, _, rfl, ga2, T.o_Canon.cls, T.y_Canon_own_steps, rfl, .inl ⟨rfl, _, SqL.of gxs⟩, _, rfl, _, rfl, _, rfl, sz_of' (by rw [len_S]; omega), (by show 3 ≤ sizeLine; decide), fun u hu => ?_⟩
      rw [len_S]
      obtain ⟨ts, zt, gt, c3, o3⟩ := c2.addS hu (.more (2 * sumL s.ls) P.length)
      refine ⟨ds, _, _, rfl, rfl, gt, lt_size (by rw [List.length_map, zt]; exact hs) (by decide), ?_⟩
      have o3 := o2.trans o3
      have c3 : CanAt C_Canon (upd (upd H2 u (.tup [V.str (Str.ofString "more"), .int ((2 * sumL s.ls : Nat) : Int), .int (P.length : Int)])) ds (.lst (ts.map V.ref ++ [V.ref u]))) x dk dl ds _ := c3
      have o3 : OffS (cx4 x dk dl ds) H (upd (upd H2 u (.tup [V.str (Str.ofString "more"), .int ((2 * sumL s.ls : Nat) : Int), .int (P.length : Int)])) ds (.lst (ts.map V.ref ++ [V.ref u]))) := o3
      generalize upd (upd H2 u (.tup [V.str (Str.ofString "more"), .int ((2 * sumL s.ls : Nat) : Int), .int (P.length : Int)])) ds (.lst (ts.map V.ref ++ [V.ref u])) = H4 at c3 o3 ⊢
      obtain ⟨dx, ga3⟩ := c3.ob
      refine ⟨_, rfl, _, rfl, x, C_Canon, dx, _, _, rfl, ga3, T.o_Canon.cls, T.y_Canon_own_leaves, rfl, dl, _, rfl, .inl (SqL.of c3.lv), rfl, flat_T _, _, rfl, ?_⟩
      rw [show (if false = true then !inV (V.str (S s.e)) (s.ls.map sT) else inV (V.str (S s.e)) (s.ls.map sT)) = decide (s.e ∈ s.ls) from in_texts _ _, decide_eq_false he]
      refine iteF ?_
      have c4 := c3
      have o4 := o3
      have mM0 : ∀ q ∈ s.ls, q ∈ s.ls := fun q hq => hq
      -- the place is known
      obtain ⟨dx, ga⟩ := c4.ob
      refine ⟨_, rfl, x, C_Canon, dx, _, _, rfl, ga, T.o_Canon.cls, T.y_Canon_own_known, rfl, _, rfl, dk, _, rfl, DPut.k (k := kT P) c4.kn (lt_size (by rw [len_kvT]; exact hk) (by decide)), ?_⟩
      rw [put_T]
      have c5 := c4.putK (addK s.ks P)
      have o5 := o4.upd (b := dk) (o := .dK (kvT (addK s.ks P))) (by simp)
      have c5 : CanAt C_Canon (upd H4 dk (.dK (kvT (addK s.ks P)))) x dk dl ds _ := c5
      generalize upd H4 dk (.dK (kvT (addK s.ks P))) = H5 at c5 o5 ⊢
      obtain ⟨dx, ga⟩ := c5.ob
      refine ⟨_, rfl, x, C_Canon, dx, _, _, rfl, ga, T.o_Canon.cls, T.y_Canon_own_leaves, rfl, .inl ⟨rfl, _, SqL.of c5.lv⟩, _, rfl, dl, _, _, rfl, rfl, c5.lv, lt_size (by rw [List.length_map]; exact zM) (by decide), ?_⟩
      have c6 := c5.putL (s.ls ++ [P])
      rw [List.map_append] at c6
      have o6 := o5.upd (b := dl) (o := .lst (s.ls.map sT ++ [V.str (S P)])) (by simp)
      have c6 : CanAt C_Canon (upd H5 dl (.lst (s.ls.map sT ++ [V.str (S P)]))) x dk dl ds _ := c6
      generalize upd H5 dl (.lst (s.ls.map sT ++ [V.str (S P)])) = H6 at c6 o6 ⊢
      obtain ⟨dx, ga⟩ := c6.ob
      refine ⟨_, rfl, _, rfl, x, C_Canon, dx, _, rfl, ga, T.o_Canon.cls, T.y_Canon_own_end, (by show 4 < 1000; decide), ?_⟩
      have c7 := c6.putE ga P
      have o7 := o6.upd (b := x) (o := .ins C_Canon dx (cnF P dk dl ds)) (by simp)
      have c7 : CanAt C_Canon (upd H6 x (.ins C_Canon dx (putF (Str.ofString "own_end") (V.str (S P)) (cnF s.e dk dl ds)))) x dk dl ds _ := c7
      have o7 : OffS (cx4 x dk dl ds) H (upd H6 x (.ins C_Canon dx (putF (Str.ofString "own_end") (V.str (S P)) (cnF s.e dk dl ds)))) := o7
      generalize upd H6 x (.ins C_Canon dx (putF (Str.ofString "own_end") (V.str (S P)) (cnF s.e dk dl ds))) = H7 at c7 o7 ⊢
      obtain ⟨dx, ga⟩ := c7.ob
      have mP : ∀ q ∈ s.ls ++ [P], Row q ∧ q.length ≤ 900 := fun q hq => by
        rcases List.mem_append.mp hq with h | h
        · have h' := mM0 q h
          exact ⟨hrow q h', Nat.le_trans (hw q h') (by decide)⟩
        · rw [List.mem_singleton.mp h]
          exact ⟨rp, by omega⟩
      refine ⟨_, rfl, x, _, _, rfl, ga, rfl, x, dk, dl, ds, _, s.ls.reverse, P, rfl, c7, (by rw [List.reverse_reverse]), fun q hq => (mP q hq).1, ?_, fun q hq => (mP q hq).2, ?_, fun H8 o8 c8 => k H8 (o7.trans o8) (c8.to ?_)⟩
      · show (s.ls ++ [P]).length ≤ 900
        rw [List.length_append, List.length_singleton]
        omega
      · show (s.ss ++ [_]).length ≤ 90000
        simp only [List.length_append, List.length_singleton]
        omega
      · rw [if_neg he]
        unfold growS
        rw [if_neg he]
        simp only [List.append_assoc]
theorem sc_Canon_go_on : FnScope ["self", "sign"] ["self", "sign"] (defScope s_Canon_go_on) := ⟨rfl, rfl, rfl, by decide +kernel, rfl, by decide +kernel, by decide +kernel⟩
theorem ok_Canon_go_on {f : Addr} {fd : FuncData} (F : Fun K "go_on" "Canon.go_on" s_Canon_go_on f fd) (T : Txt K mg w D_CONTRARY D_NUMBERS D_STEPS C_Canon C_NoRow C_NoStep C_Walk C_World) (kn_contrary_sign : KN P w K mg base CX0 1 ["sign"] (sp_contrary_sign) "contrary_sign" []) (kn_Canon_fall : KM P w K mg base CX0 4 ["self"] (sp_Canon_fall K C_Canon) C_Canon "fall" []) (kn_Canon_grow : KM P w K mg base CX0 4 ["self", "place"] (sp_Canon_grow K C_Canon) C_Canon "grow" []) : FnOk P w K mg base CX0 5 f fd ["self", "sign"] (sp_Canon_go_on K C_Canon) := by
  obtain ⟨f_contrary_sign, fd_contrary_sign, ds_contrary_sign, m_contrary_sign, k_contrary_sign, v_contrary_sign, b_contrary_sign, G_contrary_sign⟩ := kn_contrary_sign
  obtain ⟨f_Canon_fall, fd_Canon_fall, ds_Canon_fall, i_Canon_fall, t_Canon_fall, fn_Canon_fall, k_Canon_fall, v_Canon_fall, b_Canon_fall, G_Canon_fall⟩ := kn_Canon_fall
  obtain ⟨f_Canon_grow, fd_Canon_grow, ds_Canon_grow, i_Canon_grow, t_Canon_grow, fn_Canon_grow, k_Canon_grow, v_Canon_grow, b_Canon_grow, G_Canon_grow⟩ := kn_Canon_grow
  refine F.ok sc_Canon_go_on (fun vs H Q E h => ?_) (fun cdv A outer s H vs Q E hr h => ?_)
  · obtain ⟨x, dk, dl, ds, s, c, w, rfl, _⟩ := h
    all_goals rfl
  · obtain ⟨x, dk, dl, ds, s, c, w, rfl, hc, hc2, ci, cb, rw_, zw, k⟩ := h
    refine ⟨_, (pss_one (ps_if (pt_val (pe_m1 PySem.F.slot_str_endswith PySem.F.type_str_endswith mt_endswith (pe_fld (pv 0) rfl) (pe_call G_contrary_sign (hr.mono (by decide)) rfl m_contrary_sign k_contrary_sign b_contrary_sign v_contrary_sign pass0 (pa_cons (pv 1) pa_nil)))) (pss_one (ps_expr (pe_meth0 (pv 0) T.o_Canon.cls ⟨i_Canon_fall, fn_Canon_fall, k_Canon_fall⟩ G_Canon_fall (hr.mono (by decide)) b_Canon_fall v_Canon_fall pass0))) (pss_one (ps_if (pt_cmp (pc_din (hu_of hr) (pe_op op_add_str (pe_fld (pv 0) rfl) (pv 1)) (pe_fld (pv 0) rfl))) (pss_one (ps_fldaug (pv 0) (pv 1) in_addS)) (pss_one (ps_expr (pe_meth (pv 0) T.o_Canon.cls ⟨i_Canon_grow, fn_Canon_grow, k_Canon_grow⟩ G_Canon_grow (hr.mono (by decide)) b_Canon_grow v_Canon_grow pass0 (pa_cons (pe_op op_add_str (pe_fld (pv 0) rfl) (pv 1)) pa_nil)))))))), ?_⟩
    obtain ⟨h1, h2, h3, h4, h5, h6, h7, h8⟩ := canon_small rw_ ci cb (by omega)
    obtain ⟨dx, ga⟩ := hc.ob
    refine ⟨_, rfl, x, C_Canon, dx, _, _, rfl, ga, T.o_Canon.cls, T.y_Canon_own_end, rfl, ⟨_, rfl⟩, _, rfl, c, rfl, hc2, fun H1 s1 => ⟨_, _, rfl, rfl, _, rfl, ?_⟩⟩
    rw [ends_last]
    have c1 := hc.same s1
    have o1 : OffS (cx4 x dk dl ds) H H1 := OffS.of s1
    obtain ⟨dx, ga1⟩ := c1.ob
    by_cases g1 : s.e.getLast? = some (con c)
    · rw [decide_eq_true g1]
      have ne : s.e ≠ [] := fun h => by rw [h] at g1; cases g1
      exact iteT ⟨_, rfl, x, _, _, rfl, ga1, rfl, x, dk, dl, ds, s, rfl, c1, h1, h2, h3, h4, h5, ne, leafOf_mem rw_ ci.leaf h8 ne, h7, fun H2 o2 c2 => k H2 (o1.trans o2) (c2.to (by unfold goOn; rw [if_pos g1]))⟩
    rw [decide_eq_false g1]
    refine iteF ⟨_, rfl, x, C_Canon, dx, _, _, rfl, ga1, T.o_Canon.cls, T.y_Canon_own_end, rfl, _, rfl, _, _, rfl, rfl, sz_of' (by rw [len_S, len_S, List.length_singleton]; omega), ?_⟩
    rw [add_S]
    refine ⟨_, rfl, x, C_Canon, dx, _, _, rfl, ga1, T.o_Canon.cls, T.y_Canon_own_known, rfl, dk, _, rfl, DGet.k (k := kT (s.e ++ [c])) c1.kn, _, rfl, ?_⟩
    rw [val_T]
    by_cases g2 : s.e ++ [c] ∈ s.ks
    · rw [if_pos g2]
      refine iteT ⟨_, rfl, x, C_Canon, dx, _, _, rfl, ga1, T.o_Canon.cls, T.y_Canon_own_end, rfl, _, rfl, _, _, rfl, rfl, sz_of' (by rw [len_S, len_S, List.length_singleton]; omega), dx, _, ga1, (by show 4 < 1000; decide), ?_⟩
      rw [add_S]
      exact k _ (o1.upd (by simp)) ((c1.putE ga1 (s.e ++ [c])).to (by unfold goOn; rw [if_neg g1, if_pos g2]))
    · rw [if_neg g2]
      refine iteF ⟨_, rfl, x, _, _, rfl, ga1, rfl, _, rfl, x, C_Canon, dx, _, _, rfl, ga1, T.o_Canon.cls, T.y_Canon_own_end, rfl, _, rfl, _, _, rfl, rfl, sz_of' (by rw [len_S, len_S, List.length_singleton]; omega), ?_⟩
      rw [add_S]
      have rp : Row (s.e ++ [c]) := row_app ((WalkM.tree_gone rw_).pr _ h8).1 fun d hd => by rw [List.mem_singleton.mp hd]; exact hc2
      exact ⟨x, dk, dl, ds, s, c, rfl, c1, h1, h2, h3, h4, h5, h6, rp, h7, fun H2 o2 c2 => k H2 (o1.trans o2) (c2.to (by unfold goOn; rw [if_neg g1, if_neg g2, addK, if_neg g2]))⟩
theorem sc_canon_steps : FnScope ["row", "canon", "sign"] ["row"] (defScope s_canon_steps) := ⟨rfl, rfl, rfl, by decide +kernel, rfl, by decide +kernel, by decide +kernel⟩
theorem ok_canon_steps {f : Addr} {fd : FuncData} (F : Fun K "canon_steps" "canon_steps" s_canon_steps f fd) (T : Txt K mg w D_CONTRARY D_NUMBERS D_STEPS C_Canon C_NoRow C_NoStep C_Walk C_World) (kn_Canon___init__ : KM P w K mg base CX0 1 ["self"] (sp_Canon___init__ C_Canon) C_Canon "__init__" []) (kn_Canon_go_on : KM P w K mg base CX0 5 ["self", "sign"] (sp_Canon_go_on K C_Canon) C_Canon "go_on" []) : FnOk P w K mg base CX0 6 f fd ["row"] (sp_canon_steps K C_Canon) := by
  obtain ⟨f_Canon___init__, fd_Canon___init__, ds_Canon___init__, i_Canon___init__, t_Canon___init__, fn_Canon___init__, k_Canon___init__, v_Canon___init__, b_Canon___init__, G_Canon___init__⟩ := kn_Canon___init__
  obtain ⟨f_Canon_go_on, fd_Canon_go_on, ds_Canon_go_on, i_Canon_go_on, t_Canon_go_on, fn_Canon_go_on, k_Canon_go_on, v_Canon_go_on, b_Canon_go_on, G_Canon_go_on⟩ := kn_Canon_go_on
  refine F.ok sc_canon_steps (fun vs H Q E h => ?_) (fun cdv A outer s H vs Q E hr h => ?_)
  · obtain ⟨l, rfl, _⟩ := h
    all_goals rfl
  · obtain ⟨l, rfl, hl, zl, k⟩ := h
    refine ⟨_, (pss_cons (ps_set (i := 1) sc_canon_steps.nd rfl (Or.inl rfl) (pe_make0 ⟨T.o_Canon.made, i_Canon___init__, fn_Canon___init__, T.o_Canon.kC⟩ G_Canon___init__ (hr.mono (by decide)) rfl T.o_Canon.gC b_Canon___init__ v_Canon___init__ pass0))
    (pss_cons (ps_for PassesOwn.never rfl (pi_str (pv 0)) (pg_name (i := 2) sc_canon_steps.nd rfl (Or.inl rfl)) (pss_one (ps_expr (pe_meth (pv 1) T.o_Canon.cls ⟨i_Canon_go_on, fn_Canon_go_on, k_Canon_go_on⟩ G_Canon_go_on (hr.mono (by decide)) b_Canon_go_on v_Canon_go_on pass0 (pa_cons (pv 2) pa_nil)))))
    (pss_one (ps_ret (pe_fld (pv 1) rfl))))), ?_⟩
    refine fun x dx hx hdx nx => ?_
    refine ⟨x, dx, rfl, upd_same, fun dk dl ds H1 o1 nk nl ns c1 => ⟨rfl, ?_⟩⟩
    have s0 : Same H (upd (upd H dx (.own x)) x (.ins C_Canon dx [])) := fun b o hb => by rw [upd_ne (ne_of_none hb hx), upd_ne (ne_of_none hb hdx)]; exact hb
    have s1 : Same H H1 := fun b o hb => o1 b o (ne_of_none hb hx) (s0 _ _ hb)
    have fr : ∀ b ∈ cx4 x dk dl ds, H b = none := fun b hb => by
      simp only [List.mem_cons, List.not_mem_nil, or_false] at hb
      rcases hb with rfl | rfl | rfl | rfl
      · exact hx
      · exact Same.free s0 nk
      · exact Same.free s0 nl
      · exact Same.free s0 ns
    refine ⟨_, rfl, _, rfl, for_it walk_str (fun i σ H' => ∃ x2, σ = [some (.str (S l)), some (.ref x), x2] ∧ OffS (cx4 x dk dl ds) H1 H' ∧ CanAt C_Canon H' x dk dl ds (canon (l.take i))) ⟨_, rfl, OffS.refl _ _, c1⟩ (fun _ _ _ _ _ => trivial) ?_ ?_⟩
    · rintro i v σ H3 H4 hi ⟨x2, rfl, o3, c3⟩ ⟨rfl, c, hc, rfl⟩
      have hc' : l[i]? = some c := by simpa using hc
      have il := (List.getElem?_eq_some_iff.mp hc').1
      have rt : Row (l.take i) := fun d hd => hl d (List.mem_of_mem_take hd)
      have zt : (l.take i).length = i := by rw [List.length_take]; omega
      obtain ⟨ci, cb, _⟩ := canon_all (l.take i) rt (by omega)
      obtain ⟨dx3, ga3⟩ := c3.ob
      refine ⟨_, rfl, x, _, _, rfl, ga3, rfl, _, rfl, x, dk, dl, ds, _, c, l.take i, rfl, c3, hl c (List.mem_of_getElem? hc'), ci, cb, rt, by omega, fun H5 o5 c5 => ⟨_, rfl, o3.trans o5, ?_⟩⟩
      rw [take_oneS hc', canon_snoc]
      exact c5
    rintro σ H3 ⟨x2, rfl, o3, c3⟩
    rw [show (S l).cps.size = l.length by simp, List.take_length] at c3
    obtain ⟨dx3, ga3⟩ := c3.ob
    obtain ⟨ts, gs, tl⟩ := c3.st
    exact ⟨_, rfl, x, C_Canon, dx3, _, _, rfl, ga3, T.o_Canon.cls, T.y_Canon_own_steps, rfl, k ds ts H3 (same_offs s1 o3 fr) (fr ds (by simp)) gs tl⟩
theorem sc_back_step : FnScope ["step", "word", "at", "many", "more"] ["step"] (defScope s_back_step) := ⟨rfl, rfl, rfl, by decide +kernel, rfl, by decide +kernel, by decide +kernel⟩
theorem ok_back_step {f : Addr} {fd : FuncData} (F : Fun K "back_step" "back_step" s_back_step f fd) (T : Txt K mg w D_CONTRARY D_NUMBERS D_STEPS C_Canon C_NoRow C_NoStep C_Walk C_World) : FnOk P w K mg base CX0 1 f fd ["step"] (sp_back_step K) := by
  refine F.ok sc_back_step (fun vs H Q E h => ?_) (fun cdv A outer s H vs Q E hr h => ?_)
  · obtain ⟨p, st, rfl, _⟩ := h
    all_goals rfl
  · obtain ⟨p, st, rfl, hp, k⟩ := h
    refine ⟨_, (pss_cons (ps_if (pt_cmpR op_eq (pe_ix (ix_tupK (K := K)) (pv 0) pe_int (fun _ _ => rfl)) pe_str (nomark _)) (pss_cons (ps_asg (pv 0) (pg_tup rfl (pgs_cons (pg_name (i := 1) sc_back_step.nd rfl (Or.inl rfl)) (pgs_cons (pg_name (i := 2) sc_back_step.nd rfl (Or.inl rfl)) (pgs_cons (pg_name (i := 3) sc_back_step.nd rfl (Or.inl rfl)) (pgs_cons (pg_name (i := 4) sc_back_step.nd rfl (Or.inl rfl)) pgs_nil))))))
    (pss_one (ps_ret (pe_tup (pa_cons (pv 1) (pa_cons (pv 2) (pa_cons (pv 4) (pa_cons (pv 3) pa_nil)))))))) pss_nil)
    (pss_one (ps_ret (pe_op (op_catTK (K := K)) (pe_tup (pa_cons (pe_ix (ix_k (K := K) (w := w) T.q_CONTRARY) (pe_glob (v := .ref D_CONTRARY) rfl T.q_CONTRARY.mg rfl) (pe_ix (ix_tupK (K := K)) (pv 0) pe_int (fun _ _ => rfl)) (fun _ _ => rfl)) pa_nil)) (pe_slice (sl_tupK (K := K)) (pv 0) (po_some pe_int) po_none))))), ?_⟩
    cases st with
    | past a m j =>
      have hp : H p = some (.tup [.str (Str.ofString "past"), .int (a : Int), .int (m : Int), .int (j : Int)]) := hp
      refine ⟨_, rfl, p, _, _, _, rfl, rfl, SqT.of hp, atI0, rfl, _, rfl, ?_⟩
      rw [decide_eq_true rfl]
      refine iteT ⟨_, rfl, p, [_, _, _, _], rfl, SqT.of hp, rfl, _, _, rfl, _, _, rfl, _, _, rfl, _, _, rfl, rfl, _, rfl, _, rfl, _, rfl, _, rfl, (by show 4 ≤ sizeLine; decide), fun q hq => ?_⟩
      exact k q _ (Same.new hq) hq upd_same
    | less a m =>
      have hp : H p = some (.tup [.str (Str.ofString "less"), .int (a : Int), .int (m : Int)]) := hp
      obtain ⟨tk, hk⟩ := T.q_CONTRARY_less
      refine ⟨_, rfl, p, _, _, _, rfl, rfl, SqT.of hp, atI0, rfl, _, rfl, ?_⟩
      rw [decide_eq_false (fun h => by injection h with h; revert h; decide)]
      refine iteF ⟨_, rfl, p, _, _, _, rfl, rfl, SqT.of hp, atI0, _, _, .str (Str.ofString "more"), rfl, rfl, hk, ⟨_, rfl⟩, (by show 1 ≤ sizeLine; decide), fun B hB => ?_⟩
      have sB := Same.new (o := .tup [V.str (Str.ofString "more")]) hB
      have gB : (upd H B (.tup [V.str (Str.ofString "more")])) B = _ := upd_same
      generalize upd H B (.tup [V.str (Str.ofString "more")]) = H2 at sB gB ⊢
      refine ⟨_, rfl, 1, rfl, p, _, rfl, SqT.of (sB _ _ hp), (fun h => absurd h.1 (by show ¬ (HT.sIx 3 0 (some 1) = 0); decide)), fun C hC => ?_⟩
      have sC := Same.new (o := .tup (cutV [.str (Str.ofString "less"), .int (a : Int), .int (m : Int)] (some 1) none)) hC
      refine ⟨B, C, _, _, rfl, rfl, SqT.of (sC _ _ gB), SqT.of upd_same, (by simp), (by show 1 + 2 ≤ sizeLine; decide), (fun h => nomatch h), fun _ q hq => ?_⟩
      exact k q _ (Same.trans sB (Same.trans sC (Same.new hq))) (Same.free (Same.trans sB sC) hq) upd_same
    | more a m =>
      have hp : H p = some (.tup [.str (Str.ofString "more"), .int (a : Int), .int (m : Int)]) := hp
      obtain ⟨tk, hk⟩ := T.q_CONTRARY_more
      refine ⟨_, rfl, p, _, _, _, rfl, rfl, SqT.of hp, atI0, rfl, _, rfl, ?_⟩
      rw [decide_eq_false (fun h => by injection h with h; revert h; decide)]
      refine iteF ⟨_, rfl, p, _, _, _, rfl, rfl, SqT.of hp, atI0, _, _, .str (Str.ofString "less"), rfl, rfl, hk, ⟨_, rfl⟩, (by show 1 ≤ sizeLine; decide), fun B hB => ?_⟩
      have sB := Same.new (o := .tup [V.str (Str.ofString "less")]) hB
      have gB : (upd H B (.tup [V.str (Str.ofString "less")])) B = _ := upd_same
      generalize upd H B (.tup [V.str (Str.ofString "less")]) = H2 at sB gB ⊢
      refine ⟨_, rfl, 1, rfl, p, _, rfl, SqT.of (sB _ _ hp), (fun h => absurd h.1 (by show ¬ (HT.sIx 3 0 (some 1) = 0); decide)), fun C hC => ?_⟩
      have sC := Same.new (o := .tup (cutV [.str (Str.ofString "more"), .int (a : Int), .int (m : Int)] (some 1) none)) hC
      refine ⟨B, C, _, _, rfl, rfl, SqT.of (sC _ _ gB), SqT.of upd_same, (by simp), (by show 1 + 2 ≤ sizeLine; decide), (fun h => nomatch h), fun _ q hq => ?_⟩
      exact k q _ (Same.trans sB (Same.trans sC (Same.new hq))) (Same.free (Same.trans sB sC) hq) upd_same
theorem sc_chain : FnScope ["one", "other", "step"] ["one", "other"] (defScope s_chain) := ⟨rfl, rfl, rfl, by decide +kernel, rfl, by decide +kernel, by decide +kernel⟩
theorem ok_chain {f : Addr} {fd : FuncData} (F : Fun K "chain" "chain" s_chain f fd) (T : Txt K mg w D_CONTRARY D_NUMBERS D_STEPS C_Canon C_NoRow C_NoStep C_Walk C_World) (kn_same : KN P w K mg base CX0 8 ["one", "other"] (sp_same K C_Walk) "same" []) (kn_canon_steps : KN P w K mg base CX0 6 ["row"] (sp_canon_steps K C_Canon) "canon_steps" []) (kn_back_step : KN P w K mg base CX0 1 ["step"] (sp_back_step K) "back_step" []) : FnOk P w K mg base CX0 9 f fd ["one", "other"] (sp_chain K C_Canon C_Walk) := by
  obtain ⟨f_same, fd_same, ds_same, m_same, k_same, v_same, b_same, G_same⟩ := kn_same
  obtain ⟨f_canon_steps, fd_canon_steps, ds_canon_steps, m_canon_steps, k_canon_steps, v_canon_steps, b_canon_steps, G_canon_steps⟩ := kn_canon_steps
  obtain ⟨f_back_step, fd_back_step, ds_back_step, m_back_step, k_back_step, v_back_step, b_back_step, G_back_step⟩ := kn_back_step
  refine F.ok sc_chain (fun vs H Q E h => ?_) (fun cdv A outer s H vs Q E hr h => ?_)
  · obtain ⟨l, m, rfl, _⟩ := h
    all_goals rfl
  · obtain ⟨l, m, rfl, hl, hm, k⟩ := h
    refine ⟨_, (pss_cons (ps_if (pt_not (pt_val (pe_call G_same (hr.mono (by decide)) rfl m_same k_same b_same v_same pass0 (pa_cons (pv 0) (pa_cons (pv 1) pa_nil))))) (pss_one (ps_ret pe_non)) pss_nil)
    (pss_one (ps_ret (pe_op op_cat (pe_call G_canon_steps (hr.mono (by decide)) rfl m_canon_steps k_canon_steps b_canon_steps v_canon_steps pass0 (pa_cons (pv 0) pa_nil)) (pe_lc (own := [("step", 2)]) (g := gName 2) (tt := tYes) rfl sc_chain.nd (pi_list (pe_revL (pe_call G_canon_steps (hr.mono (by decide)) rfl m_canon_steps k_canon_steps b_canon_steps v_canon_steps pass0 (pa_cons (pv 1) pa_nil)))) (blkOk_by (own := [("step", 2)]) (N := ["one", "other", "step"]) (sc := defScope s_chain) (by decide +kernel)) (fun _ _ _ _ _ => (pg_name (i := 2) sc_chain.nd rfl (Or.inl rfl))) (fun _ _ _ _ _ => pts_nil) (fun _ _ _ _ _ => (pe_call G_back_step (hr.mono (by decide)) rfl m_back_step k_back_step b_back_step v_back_step pass0 (pa_cons (pv 2) pa_nil)))))))), ?_⟩
    obtain ⟨k1, k2⟩ := k
    obtain ⟨zl, rl⟩ := isRow_iff.mp hl
    obtain ⟨zm, rm⟩ := isRow_iff.mp hm
    refine ⟨_, rfl, _, rfl, l, m, rfl, hl, hm, fun H1 s1 => ⟨_, rfl, ?_⟩⟩
    cases hs : sameR l m with
    | false => exact iteT (k1 hs H1 s1)
    | true =>
      refine iteF ⟨_, rfl, l, rfl, rl, zl, fun a as H2 s2 na ga tla => ?_⟩
      refine ⟨_, rfl, m, rfl, rm, zm, fun b bs H3 s3 nb gb tlb => ⟨b, _, rfl, SqL.of gb, fun r hr => ?_⟩⟩
      have s4 := Same.new (o := .lst (bs.map V.ref).reverse) hr
      have gr : (upd H3 r (.lst (bs.map V.ref).reverse)) r = some (.lst (bs.map V.ref).reverse) := upd_same
      have tlb := tlb.mono s4
      generalize upd H3 r (.lst (bs.map V.ref).reverse) = H4 at s4 gr tlb ⊢
      obtain ⟨_, bm, _⟩ := canon_all m rm zm
      obtain ⟨_, bl, _⟩ := canon_all l rl zl
      have zb : bs.length ≤ 3660 := by
        rw [tlb.len]
        have := bm.many
        omega
      have za : as.length ≤ 3660 := by
        rw [tla.len]
        have := bl.many
        omega
      have tr := TL.rev tlb
      rw [← List.map_reverse] at gr
      refine ⟨r, rfl, ⟨_, SqL.of gr⟩, fun D hD => ?_⟩
      refine lc_list (K := K) (a := r) (xs := bs.reverse.map V.ref) (fun i H' => ∃ us : List Addr, H' D = some (.lst (us.map V.ref)) ∧ TL H' StepD.vals us (((canon m).ss.reverse.take i).map StepD.undo) ∧ Same H4 H' ∧ i ≤ bs.length) ⟨[], upd_same, TL.nil, Same.new hD, Nat.zero_le _⟩ (fun _ H' _ ⟨_, _, _, s, _⟩ => SqL.of (s _ _ gr)) ?_ ?_
      · rintro i v H5 hv ⟨us, gD, tu, s5, hi⟩
        rw [List.getElem?_map] at hv
        obtain ⟨p, hp, rfl⟩ := Option.map_eq_some_iff.mp hv
        have il : i < bs.length := by
          have := (List.getElem?_eq_some_iff.mp hp).1
          rwa [List.length_reverse] at this
        obtain ⟨st, hst, gp⟩ := (tr.mono s5).get i p hp
        refine ⟨rfl, _, rfl, p, st, rfl, gp, fun q H6 s6 nq gq => ⟨_, s6 _ _ gD, ?_, us ++ [q], ?_, ?_, fun b o hb => ?_, il⟩⟩
        · rw [List.length_map, tu.len, List.length_map, List.length_take]
          exact lt_size (by omega : _ ≤ 3660) (by decide)
        · rw [upd_same, List.map_append]
          rfl
        · rw [take_oneS hst, List.map_append]
          exact TL.add (s6 _ _ gD) (tu.mono s6) gq
        · rw [upd_ne (ne_of_none hb hD)]
          exact s6 _ _ (s5 _ _ hb)
      rintro H5 ⟨us, gD, tu, s5, _⟩
      have eT : (canon m).ss.reverse.take (bs.reverse.map V.ref).length = (canon m).ss.reverse := by
        rw [List.length_map, List.length_reverse, tlb.len, ← List.length_reverse, List.take_length]
      rw [eT] at tu
      have s25 := Same.trans s3 (Same.trans s4 s5)
      refine ⟨a, D, _, _, rfl, rfl, s25 _ _ ga, gD, ?_, fun q hq => ?_⟩
      · rw [List.length_map, List.length_map, tu.len, List.length_map, List.length_reverse, ← tlb.len]
        exact Nat.le_of_lt (lt_size (by omega : _ ≤ 7320) (by decide))
      have sq := Same.new (o := .lst (as.map V.ref ++ us.map V.ref)) hq
      refine k2 hs q (as ++ us) _ (Same.trans s1 (Same.trans s2 (Same.trans s25 sq))) (Same.free (Same.trans s1 (Same.trans s2 s25)) hq) ?_ (TL.cat (tla.mono (Same.trans s25 sq)) (tu.mono sq))
      rw [upd_same, List.map_append]
theorem sc_Walk_places : FnScope ["self"] ["self"] (defScope s_Walk_places) := ⟨rfl, rfl, rfl, by decide +kernel, rfl, by decide +kernel, by decide +kernel⟩
theorem ok_Walk_places {f : Addr} {fd : FuncData} (F : Fun K "places" "Walk.places" s_Walk_places f fd) (T : Txt K mg w D_CONTRARY D_NUMBERS D_STEPS C_Canon C_NoRow C_NoStep C_Walk C_World) : FnOk P w K mg base CX0 1 f fd ["self"] (sp_Walk_places C_Walk) := by
  refine F.ok sc_Walk_places (fun vs H Q E h => ?_) (fun cdv A outer s H vs Q E hr h => ?_)
  · obtain ⟨a, q, ps, e, rfl, _⟩ := h
    all_goals rfl
  · obtain ⟨a, q, ps, e, rfl, hw, k⟩ := h
    refine ⟨_, (pss_one (ps_ret (pe_callTy (call_listK (K := K)) (by rfl) T.b_list (by decide +kernel) (pa_cons (pe_fld (pv 0) rfl) pa_nil)))), ?_⟩
    obtain ⟨⟨dx, ga⟩, gq⟩ := hw
    refine ⟨_, rfl, a, C_Walk, dx, _, _, rfl, ga, T.o_Walk.cls, T.y_Walk_own_places, rfl, q, _, rfl, .inl (SqL.of gq), fun l hl => ?_⟩
    exact k l _ (Same.new hl) hl upd_same
theorem sc_all_within : FnScope ["one", "other", "places", "place"] ["one", "other"] (defScope s_all_within) := ⟨rfl, rfl, rfl, by decide +kernel, rfl, by decide +kernel, by decide +kernel⟩
theorem ok_all_within {f : Addr} {fd : FuncData} (F : Fun K "all_within" "all_within" s_all_within f fd) (T : Txt K mg w D_CONTRARY D_NUMBERS D_STEPS C_Canon C_NoRow C_NoStep C_Walk C_World) (kn_Walk_places : KM P w K mg base CX0 1 ["self"] (sp_Walk_places C_Walk) C_Walk "places" []) : FnOk P w K mg base CX0 2 f fd ["one", "other"] (sp_all_within K C_Walk) := by
  obtain ⟨f_Walk_places, fd_Walk_places, ds_Walk_places, i_Walk_places, t_Walk_places, fn_Walk_places, k_Walk_places, v_Walk_places, b_Walk_places, G_Walk_places⟩ := kn_Walk_places
  refine F.ok sc_all_within (fun vs H Q E h => ?_) (fun cdv A outer s H vs Q E hr h => ?_)
  · obtain ⟨a, q, b, r, ps, us, e, f, rfl, _⟩ := h
    all_goals rfl
  · obtain ⟨a, q, b, r, ps, us, e, f, rfl, hw, hv, hz, k⟩ := h
    refine ⟨_, (pss_cons (ps_set (i := 2) sc_all_within.nd rfl (Or.inr rfl) (pe_meth0 (pv 1) T.o_Walk.cls ⟨i_Walk_places, fn_Walk_places, k_Walk_places⟩ G_Walk_places (hr.mono (by decide)) b_Walk_places v_Walk_places pass0))
    (pss_one (ps_ret (pe_callB (cr_allK (K := K) rfl) (by rfl) T.b_all (by decide +kernel) (pa_cons (pe_lc (own := [("place", 3)]) (g := gName 3) (tt := tYes) rfl sc_all_within.nd (pi_list (pe_meth0 (pv 0) T.o_Walk.cls ⟨i_Walk_places, fn_Walk_places, k_Walk_places⟩ G_Walk_places (hr.mono (by decide)) b_Walk_places v_Walk_places pass0)) (blkOk_by (own := [("place", 3)]) (N := ["one", "other", "places", "place"]) (sc := defScope s_all_within) (by decide +kernel)) (fun _ _ _ _ _ => (pg_name (i := 3) sc_all_within.nd rfl (Or.inl rfl))) (fun _ _ _ _ _ => pts_nil) (fun _ _ _ _ _ => (pe_cmpR (op_inK (K := K)) (pv 3) (pv 2) (by rfl)))) pa_nil))))), ?_⟩
    refine ⟨_, rfl, b, _, _, rfl, hv.1.choose_spec, rfl, b, r, us, f, rfl, hv, fun t H1 s1 nt gt => ?_⟩
    have hw1 := hw.same s1
    refine ⟨_, rfl, a, _, _, rfl, hw1.1.choose_spec, rfl, a, q, ps, e, rfl, hw1, fun t2 H2 s2 nt2 gt2 => ⟨t2, rfl, ⟨_, SqL.of gt2⟩, fun D hD => ?_⟩⟩
    have gt := s2 _ _ gt
    refine lc_list (K := K) (a := t2) (xs := ps.map sT) (fun i H' => H' D = some (.lst ((ps.take i).map fun p => V.bl (decide (p ∈ us)))) ∧ Same H2 H') ⟨upd_same, Same.new hD⟩ (fun i H' _ ⟨_, s⟩ => s.seq (SqL.of gt2)) ?_ ?_
    · rintro i y H4 hy ⟨hd, s4⟩
      rw [List.getElem?_map] at hy
      obtain ⟨p, hp, rfl⟩ := Option.map_eq_some_iff.mp hy
      have hl := (List.getElem?_eq_some_iff.mp hp).1
      have ez := hw1.2
      refine ⟨rfl, _, rfl, _, rfl, t, _, rfl, .inl (SqL.of (s4 _ _ gt)), rfl, flat_T us, _, hd, ?_, ?_, fun b o hb => ?_⟩
      · rw [List.length_map, List.length_take]
        exact Nat.lt_of_le_of_lt (by omega : _ ≤ 61) (by decide)
      · have ev : V.bl (if false = true then !inV (sT p) (us.map sT) else inV (sT p) (us.map sT)) = .bl (decide (p ∈ us)) := by rw [if_neg (by decide), in_texts]
        rw [upd_same, ev, List.take_add_one, hp, List.map_append]
        rfl
      · rw [upd_ne (ne_of_none hb hD)]
        exact s4 _ _ hb
    rintro H3 ⟨hd, s3⟩
    rw [List.length_map, List.take_length] at hd
    refine ⟨_, ps.map fun p => decide (p ∈ us), rfl, SqL.of (by rw [List.map_map]; exact hd), ?_⟩
    have z := k H3 (Same.trans s1 (Same.trans s2 s3))
    rw [List.all_map]
    exact z
theorem sc_is_whole : FnScope ["thing"] ["thing"] (defScope s_is_whole) := ⟨rfl, rfl, rfl, by decide +kernel, rfl, by decide +kernel, by decide +kernel⟩
theorem ok_is_whole {f : Addr} {fd : FuncData} (F : Fun K "is_whole" "is_whole" s_is_whole f fd) (T : Txt K mg w D_CONTRARY D_NUMBERS D_STEPS C_Canon C_NoRow C_NoStep C_Walk C_World) : FnOk P w K mg base CX0 1 f fd ["thing"] (sp_is_whole) := by
  refine F.ok sc_is_whole (fun vs H Q E h => ?_) (fun cdv A outer s H vs Q E hr h => ?_)
  · obtain ⟨x, r, rfl, _⟩ := h
    all_goals rfl
  · obtain ⟨x, r, rfl, hx, k⟩ := h
    refine ⟨_, (pss_one (ps_ret (pe_and (pe_callB (call_isiK1 (K := K)) (by rfl) T.b_isinstance (by decide +kernel) (pa_cons (pv 0) (pa_cons (pe_bltn (v := .ty "int") (by rfl) T.b_int (by decide +kernel) rfl) pa_nil))) (pe_one (pe_not (pe_callB (call_isiK1 (K := K)) (by rfl) T.b_isinstance (by decide +kernel) (pa_cons (pv 0) (pa_cons (pe_bltn (v := .ty "bool") (by rfl) T.b_bool (by decide +kernel) rfl) pa_nil)))))))), ?_⟩
    rcases hx with ⟨i, rfl, rfl⟩ | ⟨hx, rfl⟩
    · refine Evl.s_ret (Evl.ev_andV (a := true) (b := true) (Evl.ev_isi (Evl.ev_var rfl) Evl.ev_c (.ty "int") (fun _ _ => .base (.int _)) (kit_ty (r := true) (by decide +kernel)))
        (fun _ => Evl.ev_notV (a := false) (Evl.ev_isi (Evl.ev_var rfl) Evl.ev_c (.ty "bool") (fun _ _ => .base (.int _)) (kit_ty (r := false) (by decide +kernel))))) fun H1 e => k H1 e
    · obtain ⟨t, ht, hk | ⟨hk, hk2⟩⟩ := hx.ty (K := K)
      · exact ⟨_, rfl, x, _, _, _, false, rfl, .ty "int", ht, kit_ty hk, false, rfl, k H (Same.refl H)⟩
      · exact ⟨_, rfl, x, _, _, _, true, rfl, .ty "int", ht, kit_ty hk, true, rfl, ⟨_, rfl, x, _, _, _, true, rfl, .ty "bool", ht, kit_ty hk2, true, rfl, k H (Same.refl H)⟩⟩
theorem sc_World___init__ : FnScope ["self", "things"] ["self", "things"] (defScope s_World___init__) := ⟨rfl, rfl, rfl, by decide +kernel, rfl, by decide +kernel, by decide +kernel⟩
theorem ok_World___init__ {f : Addr} {fd : FuncData} (F : FunD K "__init__" "World.__init__" (defArgs s_World___init__) (defBody s_World___init__) (defScope s_World___init__) [.int 0] [] f fd) (T : Txt K mg w D_CONTRARY D_NUMBERS D_STEPS C_Canon C_NoRow C_NoStep C_Walk C_World) (kn_is_whole : KN P w K mg base CX0 1 ["thing"] (sp_is_whole) "is_whole" []) : FnOk P w K mg base CX0 2 f fd ["self", "things"] (sp_World___init__ C_World) := by
  obtain ⟨f_is_whole, fd_is_whole, ds_is_whole, m_is_whole, k_is_whole, v_is_whole, b_is_whole, G_is_whole⟩ := kn_is_whole
  refine F.ok0 sc_World___init__ (fun vs H Q E h => ?_) (fun cdv A outer s H vs Q E hr h => ?_)
  · obtain ⟨a, dx, n, rfl, _⟩ := h
    all_goals rfl
  · obtain ⟨a, dx, n, rfl, ha, hn, k⟩ := h
    refine ⟨_, (pss_cons (ps_if (PW.pt (pw_or (pt_not (pt_val (pe_call G_is_whole (hr.mono (by decide)) rfl m_is_whole k_is_whole b_is_whole v_is_whole pass0 (pa_cons (pv 1) pa_nil)))) (pw_or1 (pt_not (pt_chain op_le op_le pe_int (pv 1) (pe_globC T.g_MOST_THINGS)))))) (pss_one ps_never) pss_nil)
    (pss_cons (ps_fld (pv 0) (pv 1) rfl)
    (pss_one (ps_fld (pv 0) pe_dnewT rfl)))), ?_⟩
    refine ⟨_, rfl, _, true, rfl, .inl ⟨(n : Int), rfl, rfl⟩, fun H1 s1 => ⟨_, rfl, iteF ?_⟩⟩
    refine ⟨_, rfl, _, _, rfl, rfl, _, rfl, ?_⟩
    rw [decide_eq_true (by omega : (0 : Int) ≤ (n : Int))]
    refine iteT ⟨_, _, rfl, rfl, _, rfl, ?_⟩
    rw [decide_eq_true (by omega : (n : Int) ≤ 61)]
    refine iteF ?_
    refine ⟨_, rfl, _, rfl, a, C_World, dx, [], rfl, s1 _ _ ha, T.o_World.cls, T.y_World_own_many, by decide, ?_⟩
    intro dw hdw
    have na : dw ≠ a := fun e => by
      rw [e, upd_same] at hdw
      cases hdw
    refine ⟨_, rfl, a, C_World, dx, [(Str.ofString "own_many", .int (n : Int))], rfl, (by rw [upd_ne na.symm]; exact upd_same), T.o_World.cls, T.y_World_own_ways, by show 1 < 1000; decide, ?_⟩
    have h1 : H1 dw = none := by rw [upd_ne na] at hdw; exact hdw
    refine k dw _ (Off.upd fun b o hb h => ?_) (Same.free s1 h1) ⟨⟨dx, upd_same⟩, (by rw [upd_ne na]; exact upd_same)⟩
    have h2 := s1 _ _ h
    rw [upd_ne (ne_of_none h2 h1), upd_ne hb]
    exact h2
theorem sc_World_look_at_deed : FnScope ["self", "deed"] ["self", "deed"] (defScope s_World_look_at_deed) := ⟨rfl, rfl, rfl, by decide +kernel, rfl, by decide +kernel, by decide +kernel⟩
theorem ok_World_look_at_deed {f : Addr} {fd : FuncData} (F : Fun K "look_at_deed" "World.look_at_deed" s_World_look_at_deed f fd) (T : Txt K mg w D_CONTRARY D_NUMBERS D_STEPS C_Canon C_NoRow C_NoStep C_Walk C_World) : FnOk P w K mg base CX0 1 f fd ["self", "deed"] (sp_World_look_at_deed C_World) := by
  refine F.ok sc_World_look_at_deed (fun vs H Q E h => ?_) (fun cdv A outer s H vs Q E hr h => ?_)
  · obtain ⟨a, c, rfl, _⟩ := h
    all_goals rfl
  · obtain ⟨a, c, rfl, hc, k⟩ := h
    refine ⟨_, (pss_one (ps_if (PW.pt (pw_or (pt_not (pt_val (pe_callB (call_isiK1 (K := K)) (by rfl) T.b_isinstance (by decide +kernel) (pa_cons (pv 1) (pa_cons (pe_bltn (v := .ty "str") (by rfl) T.b_str (by decide +kernel) rfl) pa_nil))))) (pw_or (pt_cmpR op_ne (pe_callB call_len_str (by rfl) T.b_len (by decide +kernel) (pa_cons (pv 1) pa_nil)) pe_int (nomark _)) (pw_or1 (pt_cmpR op_notIn_sign (pv 1) (pe_globC T.g_DEEDS) rfl))))) (pss_one ps_never) pss_nil)), ?_⟩
    refine ⟨_, rfl, .str (S [c]), _, _, _, true, rfl, .ty "str", .base (.str _), kit_ty (by decide +kernel), _, rfl, iteF ?_⟩
    refine ⟨_, rfl, S [c], rfl, (by show 1 ≤ sizeLine; decide), rfl, _, rfl, ?_⟩
    have e1 : (!decide (V.int ((S [c]).length : Int) = V.int 1)) = false := by
      have : ((S [c]).length : Int) = 1 := rfl
      rw [this]
      rfl
    rw [e1]
    refine iteF ⟨_, rfl, c, _, rfl, rfl, _, rfl, ?_⟩
    rw [decide_eq_true (deed_in c hc.1 hc.2)]
    exact iteF (k H (Same.refl H))
theorem sc_World_look_at_thing : FnScope ["self", "thing"] ["self", "thing"] (defScope s_World_look_at_thing) := ⟨rfl, rfl, rfl, by decide +kernel, rfl, by decide +kernel, by decide +kernel⟩
theorem ok_World_look_at_thing {f : Addr} {fd : FuncData} (F : Fun K "look_at_thing" "World.look_at_thing" s_World_look_at_thing f fd) (T : Txt K mg w D_CONTRARY D_NUMBERS D_STEPS C_Canon C_NoRow C_NoStep C_Walk C_World) (kn_is_whole : KN P w K mg base CX0 1 ["thing"] (sp_is_whole) "is_whole" []) : FnOk P w K mg base CX0 2 f fd ["self", "thing"] (sp_World_look_at_thing C_World) := by
  obtain ⟨f_is_whole, fd_is_whole, ds_is_whole, m_is_whole, k_is_whole, v_is_whole, b_is_whole, G_is_whole⟩ := kn_is_whole
  refine F.ok sc_World_look_at_thing (fun vs H Q E h => ?_) (fun cdv A outer s H vs Q E hr h => ?_)
  · obtain ⟨a, dw, n, kvs, i, rfl, _⟩ := h
    all_goals rfl
  · obtain ⟨a, dw, n, kvs, i, rfl, hw, h0, h1, k⟩ := h
    refine ⟨_, (pss_one (ps_if (PW.pt (pw_or (pt_not (pt_val (pe_call G_is_whole (hr.mono (by decide)) rfl m_is_whole k_is_whole b_is_whole v_is_whole pass0 (pa_cons (pv 1) pa_nil)))) (pw_or1 (pt_not (pt_chain op_le op_lt pe_int (pv 1) (pe_fld (pv 0) rfl)))))) (pss_one ps_never) pss_nil)), ?_⟩
    refine ⟨_, rfl, _, true, rfl, .inl ⟨i, rfl, rfl⟩, fun H1 s1 => ⟨_, rfl, iteF ?_⟩⟩
    obtain ⟨⟨dx, ga⟩, _⟩ := hw.same s1
    refine ⟨_, rfl, _, _, rfl, rfl, _, rfl, ?_⟩
    rw [decide_eq_true h0]
    refine iteT ⟨_, rfl, a, C_World, dx, _, _, rfl, ga, T.o_World.cls, T.y_World_own_many, rfl, _, _, rfl, rfl, _, rfl, ?_⟩
    rw [decide_eq_true h1]
    exact iteF (k H1 s1)
theorem sc_World_lay : FnScope ["self", "deed", "one", "other", "back"] ["self", "deed", "one", "other"] (defScope s_World_lay) := ⟨rfl, rfl, rfl, by decide +kernel, rfl, by decide +kernel, by decide +kernel⟩
theorem ok_World_lay {f : Addr} {fd : FuncData} (F : Fun K "lay" "World.lay" s_World_lay f fd) (T : Txt K mg w D_CONTRARY D_NUMBERS D_STEPS C_Canon C_NoRow C_NoStep C_Walk C_World) (kn_World_look_at_deed : KM P w K mg base CX0 1 ["self", "deed"] (sp_World_look_at_deed C_World) C_World "look_at_deed" []) (kn_World_look_at_thing : KM P w K mg base CX0 2 ["self", "thing"] (sp_World_look_at_thing C_World) C_World "look_at_thing" []) : FnOk P w K mg base CX0 3 f fd ["self", "deed", "one", "other"] (sp_World_lay C_World) := by
  obtain ⟨f_World_look_at_deed, fd_World_look_at_deed, ds_World_look_at_deed, i_World_look_at_deed, t_World_look_at_deed, fn_World_look_at_deed, k_World_look_at_deed, v_World_look_at_deed, b_World_look_at_deed, G_World_look_at_deed⟩ := kn_World_look_at_deed
  obtain ⟨f_World_look_at_thing, fd_World_look_at_thing, ds_World_look_at_thing, i_World_look_at_thing, t_World_look_at_thing, fn_World_look_at_thing, k_World_look_at_thing, v_World_look_at_thing, b_World_look_at_thing, G_World_look_at_thing⟩ := kn_World_look_at_thing
  refine F.ok sc_World_lay (fun vs H Q E h => ?_) (fun cdv A outer s H vs Q E hr h => ?_)
  · obtain ⟨a, dw, n, kvs, c, i, j, rfl, _⟩ := h
    all_goals rfl
  · obtain ⟨a, dw, n, kvs, c, i, j, rfl, hw, hc, hi, hj, h1, h2, hz, k⟩ := h
    refine ⟨_, (pss_cons (ps_expr (pe_meth (pv 0) T.o_World.cls ⟨i_World_look_at_deed, fn_World_look_at_deed, k_World_look_at_deed⟩ G_World_look_at_deed (hr.mono (by decide)) b_World_look_at_deed v_World_look_at_deed pass0 (pa_cons (pv 1) pa_nil)))
    (pss_cons (ps_expr (pe_meth (pv 0) T.o_World.cls ⟨i_World_look_at_thing, fn_World_look_at_thing, k_World_look_at_thing⟩ G_World_look_at_thing (hr.mono (by decide)) b_World_look_at_thing v_World_look_at_thing pass0 (pa_cons (pv 2) pa_nil)))
    (pss_cons (ps_expr (pe_meth (pv 0) T.o_World.cls ⟨i_World_look_at_thing, fn_World_look_at_thing, k_World_look_at_thing⟩ G_World_look_at_thing (hr.mono (by decide)) b_World_look_at_thing v_World_look_at_thing pass0 (pa_cons (pv 3) pa_nil)))
    (pss_cons (ps_set (i := 4) sc_World_lay.nd rfl (Or.inl rfl) (pe_upper (pv 1)))
    (pss_cons (ps_if (pt_cmp (pc_din (hu_of hr) (pe_tup (pa_cons (pv 1) (pa_cons (pv 2) pa_nil))) (pe_fld (pv 0) rfl))) (pss_one ps_never) pss_nil)
    (pss_cons (ps_if (pt_cmp (pc_din (hu_of hr) (pe_tup (pa_cons (pv 4) (pa_cons (pv 3) pa_nil))) (pe_fld (pv 0) rfl))) (pss_one ps_never) pss_nil)
    (pss_cons (ps_dput (hu_of hr) (pe_fld (pv 0) rfl) (pe_tup (pa_cons (pv 1) (pa_cons (pv 2) pa_nil))) (pv 3) rfl)
    (pss_one (ps_dput (hu_of hr) (pe_fld (pv 0) rfl) (pe_tup (pa_cons (pv 4) (pa_cons (pv 3) pa_nil))) (pv 2) rfl))))))))), ?_⟩
    refine ⟨_, rfl, a, _, _, rfl, hw.1.choose_spec, rfl, _, rfl, a, c, rfl, hc, fun H1 s1 => ?_⟩
    have hw1 := hw.same s1
    refine ⟨_, rfl, a, _, _, rfl, hw1.1.choose_spec, rfl, _, rfl, a, dw, n, kvs, (i : Int), rfl, hw1, by omega, by omega, fun H2 s2 => ?_⟩
    have hw2 := hw1.same s2
    refine ⟨_, rfl, a, _, _, rfl, hw2.1.choose_spec, rfl, _, rfl, a, dw, n, kvs, (j : Int), rfl, hw2, by omega, by omega, fun H3 s3 => ?_⟩
    have hw3 := hw2.same s3
    have ne := hw3.ne
    obtain ⟨⟨dx, ga⟩, gw⟩ := hw3
    refine ⟨_, rfl, ⟨_, rfl⟩, _, rfl, rfl, one_le, ?_⟩
    rw [up1 c hc.1, deed_up c hc.1 hc.2]
    refine ⟨_, rfl, _, rfl, by show 2 ≤ sizeLine; decide, fun T1 hT1 => ?_⟩
    have q1 := Same.new (o := .tup [.str (S [c]), .int (i : Int)]) hT1
    refine ⟨_, rfl, a, C_World, dx, _, _, rfl, q1 _ _ ga, T.o_World.cls, T.y_World_own_ways, rfl, _, _, rfl, DGet.t (k := ky c i) (q1 _ _ gw) upd_same, _, rfl, ?_⟩
    rw [h1]
    refine iteF ?_
    refine ⟨_, rfl, _, rfl, by show 2 ≤ sizeLine; decide, fun T2 hT2 => ?_⟩
    have q2 := Same.trans q1 (Same.new (o := .tup [.str (S [con c]), .int (j : Int)]) hT2)
    refine ⟨_, rfl, a, C_World, dx, _, _, rfl, q2 _ _ ga, T.o_World.cls, T.y_World_own_ways, rfl, _, _, rfl, DGet.t (k := ky (con c) j) (q2 _ _ gw) upd_same, _, rfl, ?_⟩
    rw [h2]
    refine iteF ?_
    have q2d := q2 _ _ gw
    have q2a := q2 _ _ ga
    generalize upd (upd H3 T1 (.tup [.str (S [c]), .int (i : Int)])) T2 (.tup [.str (S [con c]), .int (j : Int)]) = H4 at q2 q2d q2a ⊢
    unfold tNext
    dsimp only
    refine ⟨_, rfl, _, rfl, a, C_World, dx, _, _, rfl, q2a, T.o_World.cls, T.y_World_own_ways, rfl, _, rfl, _, rfl, by show 2 ≤ sizeLine; decide, fun T3 hT3 => ?_⟩
    have q3 := Same.new (o := .tup [.str (S [c]), .int (i : Int)]) hT3
    refine ⟨dw, _, rfl, DPut.t (k := ky c i) (q3 _ _ q2d) upd_same (Nat.lt_of_le_of_lt hz (by decide)), ?_⟩
    have ga5 : (upd (upd H4 T3 (.tup [.str (S [c]), .int (i : Int)])) dw (.dT (putK kvs (ky c i) (.int (j : Int))))) a = some (.ins C_World dx (wfs n dw)) := by rw [upd_ne ne]; exact q3 _ _ q2a
    refine ⟨_, rfl, _, rfl, a, C_World, dx, _, _, rfl, ga5, T.o_World.cls, T.y_World_own_ways, rfl, _, rfl, _, rfl, by show 2 ≤ sizeLine; decide, fun T4 hT4 => ?_⟩
    have nT4 : dw ≠ T4 := ne_of_none upd_same hT4
    have hl : (putK kvs (ky c i) (V.int (j : Int))).length ≤ 10001 := by
      rw [putK_new _ h1, List.length_append]
      show kvs.length + 1 ≤ 10001
      omega
    refine ⟨dw, _, rfl, DPut.t (k := ky (con c) j) (by rw [upd_ne nT4]; exact upd_same) upd_same (Nat.lt_of_le_of_lt hl (by decide)), ?_⟩
    refine k _ (fun b o hb h => ?_) upd_same
    have z0 := q2 _ _ (s3 _ _ (s2 _ _ (s1 _ _ h)))
    have z1 := q3 _ _ z0
    rw [upd_ne hb]
    have z2 : (upd (upd H4 T3 (.tup [.str (S [c]), .int (i : Int)])) dw (.dT (putK kvs (ky c i) (.int (j : Int))))) b = some o := by rw [upd_ne hb]; exact z1
    rw [upd_ne (ne_of_none z2 hT4)]
    exact z2
theorem sc_Walk_world : FnScope ["self", "found", "number", "place", "ahead", "sign"] ["self"] (defScope s_Walk_world) := ⟨rfl, rfl, rfl, by decide +kernel, rfl, by decide +kernel, by decide +kernel⟩
theorem ok_Walk_world {f : Addr} {fd : FuncData} (F : Fun K "world" "Walk.world" s_Walk_world f fd) (T : Txt K mg w D_CONTRARY D_NUMBERS D_STEPS C_Canon C_NoRow C_NoStep C_Walk C_World) (kn_World___init__ : KM P w K mg base CX0 2 ["self", "things"] (sp_World___init__ C_World) C_World "__init__" []) (kn_World_lay : KM P w K mg base CX0 3 ["self", "deed", "one", "other"] (sp_World_lay C_World) C_World "lay" []) : FnOk P w K mg base CX0 4 f fd ["self"] (sp_Walk_world K C_Walk C_World) := by
  obtain ⟨f_World___init__, fd_World___init__, ds_World___init__, i_World___init__, t_World___init__, fn_World___init__, k_World___init__, v_World___init__, b_World___init__, G_World___init__⟩ := kn_World___init__
  obtain ⟨f_World_lay, fd_World_lay, ds_World_lay, i_World_lay, t_World_lay, fn_World_lay, k_World_lay, v_World_lay, b_World_lay, G_World_lay⟩ := kn_World_lay
  refine F.ok sc_Walk_world (fun vs H Q E h => ?_) (fun cdv A outer s H vs Q E hr h => ?_)
  · obtain ⟨a, q, ps, e, rfl, _⟩ := h
    all_goals rfl
  · obtain ⟨a, q, ps, e, rfl, hw, ho, k⟩ := h
    refine ⟨_, (pss_cons (ps_set (i := 1) sc_Walk_world.nd rfl (Or.inl rfl) (pe_make ⟨T.o_World.made, i_World___init__, fn_World___init__, T.o_World.kC⟩ G_World___init__ (hr.mono (by decide)) rfl T.o_World.gC b_World___init__ v_World___init__ pass0 (pa_cons (pe_callB (call_lenK (K := K)) (by rfl) T.b_len (by decide +kernel) (pa_cons (pe_fld (pv 0) rfl) pa_nil)) pa_nil)))
    (pss_cons (ps_for PassesOwn.never rfl (pi_enum (by rfl) T.b_enumerate (pa_cons (pe_fld (pv 0) rfl) pa_nil)) (pg_tup rfl (pgs_cons (pg_name (i := 2) sc_Walk_world.nd rfl (Or.inl rfl)) (pgs_cons (pg_name (i := 3) sc_Walk_world.nd rfl (Or.inl rfl)) pgs_nil))) (pss_one (ps_if (pt_cmpR op_ne (pv 3) pe_str (nomark _)) (pss_cons (ps_set (i := 4) sc_Walk_world.nd rfl (Or.inl rfl) (pe_bm PySem.F.plainAttrs_list PySem.F.slot_list_index PySem.F.type_list_index mt_index (pe_fld (pv 0) rfl) (pa_cons (pe_slice sl_str (pv 3) po_none (po_some (pe_un un_neg pe_int))) pa_nil)))
    (pss_cons (ps_set (i := 5) sc_Walk_world.nd rfl (Or.inl rfl) (pe_ix ix_str (pv 3) (pe_un un_neg pe_int) (fun _ _ => rfl)))
    (pss_one (ps_if (pt_val (pe_m0 PySem.F.slot_str_islower PySem.F.type_str_islower mt_islower (pv 5))) (pss_one (ps_expr (pe_meth (pv 1) T.o_World.cls ⟨i_World_lay, fn_World_lay, k_World_lay⟩ G_World_lay (hr.mono (by decide)) b_World_lay v_World_lay pass0 (pa_cons (pv 5) (pa_cons (pv 4) (pa_cons (pv 2) pa_nil)))))) (pss_one (ps_expr (pe_meth (pv 1) T.o_World.cls ⟨i_World_lay, fn_World_lay, k_World_lay⟩ G_World_lay (hr.mono (by decide)) b_World_lay v_World_lay pass0 (pa_cons (pe_lower (pv 5)) (pa_cons (pv 2) (pa_cons (pv 4) pa_nil)))))))))) pss_nil)))
    (pss_one (ps_ret (pv 1))))), ?_⟩
    obtain ⟨⟨dx, ga⟩, gq⟩ := id hw
    have n1 := ho.t.n1
    refine ⟨_, rfl, a, C_Walk, dx, _, _, rfl, ga, T.o_Walk.cls, T.y_Walk_own_places, rfl, q, _, rfl, .inl (SqL.of gq), ?_⟩
    refine fun b dx2 nb ndx2 nxb => ⟨b, dx2, ps.length, by rw [List.length_map]; rfl, upd_same, by omega, fun dw H2 off2 ndw hw2 => ⟨rfl, ?_⟩⟩
    have mid : ∀ c o, H c = some o → (upd (upd H dx2 (.own b)) b (.ins C_World dx2 [])) c = some o := fun c o h => by
      rw [upd_ne (ne_of_none h nb), upd_ne (ne_of_none h ndx2)]
      exact h
    have s2 : Same H H2 := fun c o h => off2 c o (ne_of_none h nb) (mid c o h)
    have ndwH : H dw = none := by
      cases q : H dw with
      | none => rfl
      | some o => rw [mid _ _ q] at ndw; cases ndw
    have nbd := hw2.ne
    have nqd : q ≠ dw := ne_of_none gq ndwH
    have nad : a ≠ dw := ne_of_none ga ndwH
    have gq2 := s2 _ _ gq
    have ga2 := s2 _ _ ga
    have lt : (ps.map sT).length = ps.length := List.length_map ..
    refine ⟨_, rfl, a, C_Walk, dx, _, _, rfl, ga2, T.o_Walk.cls, T.y_Walk_own_places, rfl, q, _, rfl, SqL.of gq2, for_it walk_enum (fun i σ H' => ∃ (kvs : Kvs) (x2 x3 x4 x5 : Option V), σ = [some (.ref a), some (.ref b), x2, x3, x4, x5] ∧ WAt C_World H' b dw ps.length kvs ∧ Ways kvs ps.length ∧ HalfW ps i kvs ∧ kvs.length ≤ 2 * i ∧ Off dw H2 H')
      ⟨[], _, _, _, _, rfl, hw2, Ways.nil, half_nil, by simp, Off.refl _ _⟩ (fun _ _ _ _ ⟨_, _, _, _, _, _, _, _, _, _, o⟩ => SqL.of (o _ _ nqd gq2)) ?_ ?_⟩
    · rintro i v σ H3 H4 hi ⟨kvs, x2, x3, x4, x5, rfl, ws, hk, hh, hz, o3⟩ ⟨t, u, w, rfl, nt, rfl, hu, hw⟩
      have hw : (ps.map sT)[i]? = some w := hw
      rw [List.getElem?_map] at hw
      obtain ⟨p, hp, rfl⟩ := Option.map_eq_some_iff.mp hw
      injection hu with hu
      subst hu
      have pm := List.mem_of_getElem? hp
      have il := (List.getElem?_eq_some_iff.mp hp).1
      have s4 := Same.new (o := .tup [.int (i : Nat), sT p]) nt
      have ws := ws.same s4
      have o4 := o3.trans (off_of (p := dw) s4)
      refine ⟨t, [_, _], rfl, SqT.of upd_same, rfl, _, _, rfl, _, _, rfl, rfl, ?_⟩
      generalize upd H3 t (.tup [.int (i : Nat), sT p]) = H4 at *
      refine ⟨_, rfl, rfl, _, rfl, ?_⟩
      by_cases e : p = []
      · subst e
        exact iteF ⟨kvs, _, _, _, _, rfl, ws, hk, half_skip ho.t.t hh hp, by omega, o4⟩
      have ne : decide (sT p = V.str (Str.ofString "")) = false := decide_eq_false fun h => e (sT_inj (l := p) (m := []) h)
      rw [ne]
      obtain ⟨m, c, rfl⟩ := exists_snoc e
      have zp := ho.t.z _ pm
      have hc : c ∈ sgns := (ho.t.t.pr _ pm).1 c (by simp)
      have hm : m ∈ ps := by
        have := ho.t.t.cl _ pm e
        simpa using this
      obtain ⟨j, hj⟩ := List.getElem?_of_mem hm
      have jl := (List.getElem?_eq_some_iff.mp hj).1
      refine iteT ⟨_, rfl, a, C_Walk, dx, _, _, rfl, o4 _ _ nad ga2, T.o_Walk.cls, T.y_Walk_own_places, rfl, .inl ⟨rfl, _, SqL.of (o4 _ _ nqd gq2)⟩, _, rfl, _, rfl, _, rfl, _, rfl, sz_of' (by rw [len_S]; omega), ?_⟩
      rw [cut_last]
      refine ⟨q, ps.map sT, sT m, j, sT m, rfl, rfl, SqL.of (o4 _ _ nqd gq2), rfl, flat_T ps, by rw [List.getElem?_map, hj]; rfl, by rw [eqV_T]; exact decide_eq_true rfl, fun m' z' h1 h2 => ?_, ?_⟩
      · rw [List.getElem?_map] at h2
        obtain ⟨p', hp', rfl⟩ := Option.map_eq_some_iff.mp h2
        rw [eqV_T]
        refine decide_eq_false fun e => ?_
        subst e
        have := at_inj ho.t.t.nd hp' hj
        omega
      refine ⟨_, rfl, _, rfl, _, _, c, rfl, rfl, sz_of' (by rw [len_S]; omega), at_last, ?_⟩
      obtain ⟨f1, f2⟩ := half_free ho.t.t hh hk hp hj
      have cc := RowM.con_mem hc
      refine ⟨_, rfl, ⟨_, rfl⟩, _, rfl, rfl, trivial, _, rfl, ?_⟩
      have ei : Txt.islower (⟨#[c]⟩ : Str) = decide (97 ≤ c) := islo1 c hc
      rw [ei]
      by_cases h97 : 97 ≤ c
      · rw [decide_eq_true h97]
        refine iteT ⟨_, rfl, b, _, _, rfl, ws.1.choose_spec, rfl, _, rfl, _, rfl, _, rfl, b, dw, ps.length, kvs, c, j, i, rfl, ws, ⟨hc, h97⟩, jl, il, f1, f2, by omega, fun H5 o5 g5 => ?_⟩
        have z1 := putK_le kvs (ky c (j : Int)) (.int (i : Int))
        have z2 := putK_le (putK kvs (ky c (j : Int)) (.int (i : Int))) (ky (con c) (i : Int)) (.int (j : Int))
        refine ⟨_, _, _, _, _, rfl, ⟨⟨ws.1.choose, o5 _ _ nbd ws.1.choose_spec⟩, g5⟩, hk.lay hc jl il f1 f2, half_step ho.t.t hh hk hp hj fun k => ?_, by omega, o4.trans o5⟩
        rw [valV_put, valV_put]
      · rw [decide_eq_false h97]
        have f1' : valV kvs (ky (con (con c)) (j : Int)) = none := by rw [RowM.con_con hc]; exact f1
        have el : Txt.lower (⟨#[c]⟩ : Str) = S [con c] := by rw [show Txt.lower (⟨#[c]⟩ : Str) = S [lo c] from low1 c hc, lo_up h97]
        refine iteF ⟨_, rfl, b, _, _, rfl, ws.1.choose_spec, rfl, _, rfl, ⟨_, rfl⟩, _, rfl, rfl, one_le, ?_⟩
        rw [el]
        refine ⟨_, rfl, _, rfl, b, dw, ps.length, kvs, con c, i, j, rfl, ws, ⟨cc, con_up hc h97⟩, il, jl, f2, f1', by omega, fun H5 o5 g5 => ?_⟩
        have z1 := putK_le kvs (ky (con c) (i : Int)) (.int (j : Int))
        have z2 := putK_le (putK kvs (ky (con c) (i : Int)) (.int (j : Int))) (ky (con (con c)) (j : Int)) (.int (i : Int))
        refine ⟨_, _, _, _, _, rfl, ⟨⟨ws.1.choose, o5 _ _ nbd ws.1.choose_spec⟩, g5⟩, hk.lay cc il jl f2 f1', half_step ho.t.t hh hk hp hj fun k => ?_, by omega, o4.trans o5⟩
        rw [valV_put, valV_put, RowM.con_con hc]
        by_cases q1 : k = ky c (j : Int)
        · rw [if_pos q1, if_neg (fun e => ?_), if_pos q1]
          rw [q1] at e
          exact RowM.con_ne hc (ky_inj e).1.symm
        · rw [if_neg q1, if_neg q1]
    rintro σ H3 ⟨kvs, x2, x3, x4, x5, rfl, ws, hk, hh, hz, o3⟩
    rw [lt] at hh hz
    exact ⟨_, rfl, k b dw kvs H3 (fun c o h => o3 c o (ne_of_none h ndwH) (s2 _ _ h)) nb ndwH ws hk (half_all hh) (by omega)⟩
theorem sc_unlike : FnScope ["one", "other", "first", "second"] ["one", "other"] (defScope s_unlike) := ⟨rfl, rfl, rfl, by decide +kernel, rfl, by decide +kernel, by decide +kernel⟩
theorem ok_unlike {f : Addr} {fd : FuncData} (F : Fun K "unlike" "unlike" s_unlike f fd) (T : Txt K mg w D_CONTRARY D_NUMBERS D_STEPS C_Canon C_NoRow C_NoStep C_Walk C_World) (kn_same : KN P w K mg base CX0 8 ["one", "other"] (sp_same K C_Walk) "same" []) (kn_walk_of : KN P w K mg base CX0 7 ["row"] (sp_walk_of C_Walk) "walk_of" []) (kn_all_within : KN P w K mg base CX0 2 ["one", "other"] (sp_all_within K C_Walk) "all_within" []) (kn_Walk_world : KM P w K mg base CX0 4 ["self"] (sp_Walk_world K C_Walk C_World) C_Walk "world" []) : FnOk P w K mg base CX0 9 f fd ["one", "other"] (sp_unlike K C_Walk C_World) := by
  obtain ⟨f_same, fd_same, ds_same, m_same, k_same, v_same, b_same, G_same⟩ := kn_same
  obtain ⟨f_walk_of, fd_walk_of, ds_walk_of, m_walk_of, k_walk_of, v_walk_of, b_walk_of, G_walk_of⟩ := kn_walk_of
  obtain ⟨f_all_within, fd_all_within, ds_all_within, m_all_within, k_all_within, v_all_within, b_all_within, G_all_within⟩ := kn_all_within
  obtain ⟨f_Walk_world, fd_Walk_world, ds_Walk_world, i_Walk_world, t_Walk_world, fn_Walk_world, k_Walk_world, v_Walk_world, b_Walk_world, G_Walk_world⟩ := kn_Walk_world
  refine F.ok sc_unlike (fun vs H Q E h => ?_) (fun cdv A outer s H vs Q E hr h => ?_)
  · obtain ⟨l, m, rfl, _⟩ := h
    all_goals rfl
  · obtain ⟨l, m, rfl, hl, hm, k⟩ := h
    refine ⟨_, (pss_cons (ps_if (pt_val (pe_call G_same (hr.mono (by decide)) rfl m_same k_same b_same v_same pass0 (pa_cons (pv 0) (pa_cons (pv 1) pa_nil)))) (pss_one (ps_ret pe_non)) pss_nil)
    (pss_cons (ps_par (i := 2) (j := 3) (by rfl) sc_unlike.nd rfl rfl (by decide) rfl rfl (pa_cons (pe_call G_walk_of (hr.mono (by decide)) rfl m_walk_of k_walk_of b_walk_of v_walk_of pass0 (pa_cons (pv 0) pa_nil)) (pa_cons (pe_call G_walk_of (hr.mono (by decide)) rfl m_walk_of k_walk_of b_walk_of v_walk_of pass0 (pa_cons (pv 1) pa_nil)) pa_nil)) (by rfl))
    (pss_cons (ps_if (pt_not (pt_val (pe_call G_all_within (hr.mono (by decide)) rfl m_all_within k_all_within b_all_within v_all_within pass0 (pa_cons (pv 2) (pa_cons (pv 3) pa_nil))))) (pss_one (ps_ret (pe_tup (pa_cons (pe_meth0 (pv 3) T.o_Walk.cls ⟨i_Walk_world, fn_Walk_world, k_Walk_world⟩ G_Walk_world (hr.mono (by decide)) b_Walk_world v_Walk_world pass0) (pa_cons pe_int pa_nil))))) pss_nil)
    (pss_one (ps_ret (pe_tup (pa_cons (pe_meth0 (pv 2) T.o_Walk.cls ⟨i_Walk_world, fn_Walk_world, k_Walk_world⟩ G_Walk_world (hr.mono (by decide)) b_Walk_world v_Walk_world pass0) (pa_cons pe_int pa_nil)))))))), ?_⟩
    obtain ⟨k1, k2⟩ := k
    obtain ⟨zl, rl⟩ := isRow_iff.mp hl
    obtain ⟨zm, rm⟩ := isRow_iff.mp hm
    refine ⟨_, rfl, _, rfl, l, m, rfl, hl, hm, fun H1 s1 => ⟨_, rfl, ?_⟩⟩
    cases hs : sameR l m with
    | true => exact iteT (k1 hs H1 s1)
    | false =>
      refine iteF ?_
      try unfold tNext
      try dsimp only
      have k2 := k2 hs
      refine ⟨_, rfl, l, rfl, hl, fun a q H2 s2 na nq w1 => ⟨_, rfl, m, rfl, hm, fun b r H3 s3 nb nr w2 => ?_⟩⟩
      have w1 := w1.same s3
      refine ⟨_, _, rfl, _, rfl, _, rfl, a, q, b, r, _, _, _, _, rfl, w1, w2, by rw [WalkM.srt_length]; exact (treeS_gone rl zl).n1, fun H4 s4 => ?_⟩
      have w1 := w1.same s4
      have w2 := w2.same s4
      have sA := Same.trans s1 (Same.trans s2 (Same.trans s3 s4))
      rw [within_srt]
      refine ⟨_, rfl, ?_⟩
      have tl : Ord (srt (gone l)) := ord_srt (treeS_gone rl zl)
      have tm : Ord (srt (gone m)) := ord_srt (treeS_gone rm zm)
      cases hwi : within l m with
      | false =>
        refine iteT ⟨_, rfl, b, _, _, rfl, w2.1.choose_spec, rfl, b, r, _, _, rfl, w2, tm, fun bw dw kvs H5 s5 nbw ndw ws hk htw hz => ⟨by show 2 ≤ sizeLine; decide, fun t ht => ?_⟩⟩
        rw [WalkM.srt_length] at ws hk
        have q6 := Same.new (o := .tup [.ref bw, .int 0]) ht
        exact k2 t bw dw m kvs _ (Same.trans sA (Same.trans s5 q6)) (Same.free sA (Same.free s5 ht)) (Same.free sA nbw) (Same.free sA ndw) upd_same (.inl ⟨rfl, hwi⟩) (ws.same q6) hk htw hz
      | true =>
        refine iteF ?_
        try unfold tNext
        try dsimp only
        refine ⟨_, rfl, a, _, _, rfl, w1.1.choose_spec, rfl, a, q, _, _, rfl, w1, tl, fun bw dw kvs H5 s5 nbw ndw ws hk htw hz => ⟨by show 2 ≤ sizeLine; decide, fun t ht => ?_⟩⟩
        rw [WalkM.srt_length] at ws hk
        have q6 := Same.new (o := .tup [.ref bw, .int 0]) ht
        exact k2 t bw dw l kvs _ (Same.trans sA (Same.trans s5 q6)) (Same.free sA (Same.free s5 ht)) (Same.free sA nbw) (Same.free sA ndw) upd_same (.inr ⟨rfl, hwi⟩) (ws.same q6) hk htw hz
theorem sc_World___len__ : FnScope ["self"] ["self"] (defScope s_World___len__) := ⟨rfl, rfl, rfl, by decide +kernel, rfl, by decide +kernel, by decide +kernel⟩
theorem ok_World___len__ {f : Addr} {fd : FuncData} (F : Fun K "__len__" "World.__len__" s_World___len__ f fd) (T : Txt K mg w D_CONTRARY D_NUMBERS D_STEPS C_Canon C_NoRow C_NoStep C_Walk C_World) : FnOk P w K mg base CX0 1 f fd ["self"] (sp_World___len__ C_World) := by
  refine F.ok sc_World___len__ (fun vs H Q E h => ?_) (fun cdv A outer s H vs Q E hr h => ?_)
  · obtain ⟨a, dw, n, kvs, rfl, _⟩ := h
    all_goals rfl
  · obtain ⟨a, dw, n, kvs, rfl, hw, hn, k⟩ := h
    refine ⟨_, (pss_one (ps_ret (pe_lenR (by rfl) T.b_len (by rfl) T.b_range (pe_fld (pv 0) rfl)))), ?_⟩
    obtain ⟨⟨dx, ga⟩, gw⟩ := hw
    exact ⟨_, rfl, a, C_World, dx, _, _, rfl, ga, T.o_World.cls, T.y_World_own_many, rfl, n, rfl, by omega, by omega, k H (Same.refl H)⟩
theorem sc_World_led_on : FnScope ["self", "text", "thing", "here", "sign"] ["self", "text", "thing"] (defScope s_World_led_on) := ⟨rfl, rfl, rfl, by decide +kernel, rfl, by decide +kernel, by decide +kernel⟩
theorem ok_World_led_on {f : Addr} {fd : FuncData} (F : Fun K "led_on" "World.led_on" s_World_led_on f fd) (T : Txt K mg w D_CONTRARY D_NUMBERS D_STEPS C_Canon C_NoRow C_NoStep C_Walk C_World) : FnOk P w K mg base CX0 1 f fd ["self", "text", "thing"] (sp_World_led_on C_World) := by
  refine F.ok sc_World_led_on (fun vs H Q E h => ?_) (fun cdv A outer s H vs Q E hr h => ?_)
  · obtain ⟨a, dw, n, kvs, l, t, rfl, _⟩ := h
    all_goals rfl
  · obtain ⟨a, dw, n, kvs, l, t, rfl, hw, hk, hz, k⟩ := h
    refine ⟨_, (pss_cons (ps_set (i := 3) sc_World_led_on.nd rfl (Or.inl rfl) (pv 2))
    (pss_cons (ps_for PassesOwn.never rfl (pi_str (pv 1)) (pg_name (i := 4) sc_World_led_on.nd rfl (Or.inl rfl)) (pss_cons (ps_if (pt_cmp (pc_dnotin (hu_of hr) (pe_tup (pa_cons (pv 4) (pa_cons (pv 3) pa_nil))) (pe_fld (pv 0) rfl))) (pss_one (ps_ret pe_non)) pss_nil)
    (pss_one (ps_set (i := 3) sc_World_led_on.nd rfl (Or.inl rfl) (pe_dget (hu_of hr) (pe_fld (pv 0) rfl) (pe_tup (pa_cons (pv 4) (pa_cons (pv 3) pa_nil))) (fun _ _ => rfl))))))
    (pss_one (ps_ret (pv 3))))), ?_⟩
    refine ⟨_, rfl, _, rfl, _, rfl, for_it walk_str (fun i σ H' => ∃ (x : Option V) (h : Int), σ = [some (.ref a), some (.str (S l)), some (.int t), some (.int h), x] ∧ ledW kvs (l.take i) (some t) = some h ∧ Same H H') ⟨_, t, rfl, rfl, Same.refl H⟩ (fun _ _ _ _ _ => trivial) ?_ ?_⟩
    · rintro i v σ H3 H4 hi ⟨x, h, rfl, eh, s3⟩ ⟨rfl, c, hc, rfl⟩
      have hc' : l[i]? = some c := by simpa using hc
      have et : l.take (i + 1) = l.take i ++ [c] := by rw [List.take_add_one, hc']; rfl
      have el : l = l.take (i + 1) ++ l.drop (i + 1) := (List.take_append_drop _ _).symm
      have es : ledW kvs (l.take (i + 1)) (some t) = stepW kvs (some h) c := by rw [et, ledW_app, eh]; rfl
      have hw3 := hw.same s3
      obtain ⟨⟨dx, ga⟩, gw⟩ := hw3
      have e0 : stepW kvs (some h) c = match valV kvs (ky c h) with
        | some (.int j) => some j
        | _ => none := rfl
      refine ⟨_, rfl, _, rfl, by show 2 ≤ sizeLine; decide, fun T1 hT1 => ?_⟩
      have q1 := Same.new (o := .tup [.str (S [c]), .int h]) hT1
      refine ⟨_, rfl, a, C_World, dx, _, _, rfl, q1 _ _ ga, T.o_World.cls, T.y_World_own_ways, rfl, _, _, rfl, DGet.t (k := ky c h) (q1 _ _ gw) upd_same, _, rfl, ?_⟩
      cases e : valV kvs (ky c h) with
      | none =>
        rw [e] at e0
        refine iteT ?_
        have z := k _ (Same.trans s3 q1)
        rw [el, ledW_app, es, e0, ledW_none] at z
        exact z
      | some v =>
        obtain ⟨_, _, j, _, _, rfl, _, _⟩ := hk.val _ _ e
        rw [e] at e0
        refine iteF ?_
        unfold tNext
        dsimp only
        refine ⟨_, rfl, a, C_World, dx, _, _, rfl, q1 _ _ ga, T.o_World.cls, T.y_World_own_ways, rfl, _, rfl, _, rfl, by show 2 ≤ sizeLine; decide, fun T2 hT2 => ?_⟩
        have q2 := Same.trans q1 (Same.new (o := .tup [.str (S [c]), .int h]) hT2)
        exact ⟨_, .int (j : Int), rfl, e ▸ DGet.t (k := ky c h) (q2 _ _ gw) upd_same, _, j, rfl, by rw [es, e0], Same.trans s3 q2⟩
    rintro σ H3 ⟨x, h, rfl, eh, s3⟩
    have et : l.take (S l).cps.size = l := by
      have : (S l).cps.size = l.length := len_S l
      rw [this, List.take_length]
    rw [et] at eh
    have z := k H3 s3
    rw [eh] at z
    exact ⟨_, rfl, z⟩
theorem sc_World_led : FnScope ["self", "row", "thing"] ["self", "row", "thing"] (defScope s_World_led) := ⟨rfl, rfl, rfl, by decide +kernel, rfl, by decide +kernel, by decide +kernel⟩
theorem ok_World_led {f : Addr} {fd : FuncData} (F : Fun K "led" "World.led" s_World_led f fd) (T : Txt K mg w D_CONTRARY D_NUMBERS D_STEPS C_Canon C_NoRow C_NoStep C_Walk C_World) (kn_look_at_row : KN P w K mg base CX0 3 ["thing"] (sp_look_at_row) "look_at_row" []) (kn_World_look_at_thing : KM P w K mg base CX0 2 ["self", "thing"] (sp_World_look_at_thing C_World) C_World "look_at_thing" []) (kn_World_led_on : KM P w K mg base CX0 1 ["self", "text", "thing"] (sp_World_led_on C_World) C_World "led_on" []) : FnOk P w K mg base CX0 4 f fd ["self", "row", "thing"] (sp_World_led C_World) := by
  obtain ⟨f_look_at_row, fd_look_at_row, ds_look_at_row, m_look_at_row, k_look_at_row, v_look_at_row, b_look_at_row, G_look_at_row⟩ := kn_look_at_row
  obtain ⟨f_World_look_at_thing, fd_World_look_at_thing, ds_World_look_at_thing, i_World_look_at_thing, t_World_look_at_thing, fn_World_look_at_thing, k_World_look_at_thing, v_World_look_at_thing, b_World_look_at_thing, G_World_look_at_thing⟩ := kn_World_look_at_thing
  obtain ⟨f_World_led_on, fd_World_led_on, ds_World_led_on, i_World_led_on, t_World_led_on, fn_World_led_on, k_World_led_on, v_World_led_on, b_World_led_on, G_World_led_on⟩ := kn_World_led_on
  refine F.ok sc_World_led (fun vs H Q E h => ?_) (fun cdv A outer s H vs Q E hr h => ?_)
  · obtain ⟨a, dw, n, kvs, l, t, rfl, _⟩ := h
    all_goals rfl
  · obtain ⟨a, dw, n, kvs, l, t, rfl, hw, hk, hl, h0, h1, k⟩ := h
    refine ⟨_, (pss_cons (ps_expr (pe_call G_look_at_row (hr.mono (by decide)) rfl m_look_at_row k_look_at_row b_look_at_row v_look_at_row pass0 (pa_cons (pv 1) pa_nil)))
    (pss_cons (ps_expr (pe_meth (pv 0) T.o_World.cls ⟨i_World_look_at_thing, fn_World_look_at_thing, k_World_look_at_thing⟩ G_World_look_at_thing (hr.mono (by decide)) b_World_look_at_thing v_World_look_at_thing pass0 (pa_cons (pv 2) pa_nil)))
    (pss_one (ps_ret (pe_meth (pv 0) T.o_World.cls ⟨i_World_led_on, fn_World_led_on, k_World_led_on⟩ G_World_led_on (hr.mono (by decide)) b_World_led_on v_World_led_on pass0 (pa_cons (pv 1) (pa_cons (pv 2) pa_nil))))))), ?_⟩
    obtain ⟨zl, rl⟩ := isRow_iff.mp hl
    refine ⟨_, rfl, l, rfl, hl, fun H1 s1 => ?_⟩
    have hw1 := hw.same s1
    refine ⟨_, rfl, a, _, _, rfl, hw1.1.choose_spec, rfl, _, rfl, a, dw, n, kvs, t, rfl, hw1, h0, h1, fun H2 s2 => ?_⟩
    have hw2 := hw1.same s2
    exact ⟨_, rfl, a, _, _, rfl, hw2.1.choose_spec, rfl, _, rfl, _, rfl, a, dw, n, kvs, l, t, rfl, hw2, hk, by omega, fun H3 s3 => k H3 (Same.trans s1 (Same.trans s2 s3))⟩
theorem sc_tells_unlike : FnScope ["one", "other", "thing", "world", "begin"] ["one", "other", "thing"] (defScope s_tells_unlike) := ⟨rfl, rfl, rfl, by decide +kernel, rfl, by decide +kernel, by decide +kernel⟩
theorem ok_tells_unlike {f : Addr} {fd : FuncData} (F : Fun K "tells_unlike" "tells_unlike" s_tells_unlike f fd) (T : Txt K mg w D_CONTRARY D_NUMBERS D_STEPS C_Canon C_NoRow C_NoStep C_Walk C_World) (kn_look_at_row : KN P w K mg base CX0 3 ["thing"] (sp_look_at_row) "look_at_row" []) (kn_is_whole : KN P w K mg base CX0 1 ["thing"] (sp_is_whole) "is_whole" []) (kn_World___len__ : KM P w K mg base CX0 1 ["self"] (sp_World___len__ C_World) C_World "__len__" []) (kn_World_led : KM P w K mg base CX0 4 ["self", "row", "thing"] (sp_World_led C_World) C_World "led" []) : FnOk P w K mg base CX0 5 f fd ["one", "other", "thing"] (sp_tells_unlike K C_World) := by
  obtain ⟨f_look_at_row, fd_look_at_row, ds_look_at_row, m_look_at_row, k_look_at_row, v_look_at_row, b_look_at_row, G_look_at_row⟩ := kn_look_at_row
  obtain ⟨f_is_whole, fd_is_whole, ds_is_whole, m_is_whole, k_is_whole, v_is_whole, b_is_whole, G_is_whole⟩ := kn_is_whole
  obtain ⟨f_World___len__, fd_World___len__, ds_World___len__, i_World___len__, t_World___len__, fn_World___len__, k_World___len__, v_World___len__, b_World___len__, G_World___len__⟩ := kn_World___len__
  obtain ⟨f_World_led, fd_World_led, ds_World_led, i_World_led, t_World_led, fn_World_led, k_World_led, v_World_led, b_World_led, G_World_led⟩ := kn_World_led
  refine F.ok sc_tells_unlike (fun vs H Q E h => ?_) (fun cdv A outer s H vs Q E hr h => ?_)
  · obtain ⟨l, m, t, a, dw, n, kvs, i, rfl, _⟩ := h
    all_goals rfl
  · obtain ⟨l, m, t, a, dw, n, kvs, i, rfl, hl, hm, ht, hw, hk, hn, h0, h1, k⟩ := h
    refine ⟨_, (pss_cons (ps_expr (pe_call G_look_at_row (hr.mono (by decide)) rfl m_look_at_row k_look_at_row b_look_at_row v_look_at_row pass0 (pa_cons (pv 0) pa_nil)))
    (pss_cons (ps_expr (pe_call G_look_at_row (hr.mono (by decide)) rfl m_look_at_row k_look_at_row b_look_at_row v_look_at_row pass0 (pa_cons (pv 1) pa_nil)))
    (pss_cons (ps_if (PW.pt (pw_or (pt_not (pt_val (pe_callB (call_isiK1 (K := K)) (by rfl) T.b_isinstance (by decide +kernel) (pa_cons (pv 2) (pa_cons (pe_bltn (v := .ty "tuple") (by rfl) T.b_tuple (by decide +kernel) rfl) pa_nil))))) (pw_or (pt_cmpR op_ne (pe_callB (call_lenK (K := K)) (by rfl) T.b_len (by decide +kernel) (pa_cons (pv 2) pa_nil)) pe_int (nomark _)) (pw_or1 (pt_not (pt_val (pe_callB (call_isiK1 (K := K)) (by rfl) T.b_isinstance (by decide +kernel) (pa_cons (pe_ix (ix_tupK (K := K)) (pv 2) pe_int (fun _ _ => rfl)) (pa_cons (pe_glob (v := .ref C_World) rfl T.o_World.gC rfl) pa_nil))))))))) (pss_one (ps_ret pe_bl)) pss_nil)
    (pss_cons (ps_asg (pv 2) (pg_tup rfl (pgs_cons (pg_name (i := 3) sc_tells_unlike.nd rfl (Or.inl rfl)) (pgs_cons (pg_name (i := 4) sc_tells_unlike.nd rfl (Or.inl rfl)) pgs_nil))))
    (pss_cons (ps_if (PW.pt (pw_or (pt_not (pt_val (pe_call G_is_whole (hr.mono (by decide)) rfl m_is_whole k_is_whole b_is_whole v_is_whole pass0 (pa_cons (pv 4) pa_nil)))) (pw_or1 (pt_not (pt_chain op_le op_lt pe_int (pv 4) (pe_callB (call_lenO i_World___len__ fn_World___len__ G_World___len__ (hr.mono (by decide)) b_World___len__ v_World___len__ pass0) (by rfl) T.b_len (by decide +kernel) (pa_cons (pv 3) pa_nil))))))) (pss_one (ps_ret pe_bl)) pss_nil)
    (pss_one (ps_ret (pe_cmpR (op_neDK (K := K) hr.units) (pe_meth (pv 3) T.o_World.cls ⟨i_World_led, fn_World_led, k_World_led⟩ G_World_led (hr.mono (by decide)) b_World_led v_World_led pass0 (pa_cons (pv 0) (pa_cons (pv 4) pa_nil))) (pe_meth (pv 3) T.o_World.cls ⟨i_World_led, fn_World_led, k_World_led⟩ G_World_led (hr.mono (by decide)) b_World_led v_World_led pass0 (pa_cons (pv 1) (pa_cons (pv 4) pa_nil))) (nomark _))))))))), ?_⟩
    have gt := ht
    refine ⟨_, rfl, l, rfl, hl, fun H1 s1 => ⟨_, rfl, m, rfl, hm, fun H2 s2 => ?_⟩⟩
    have gt := s2 _ _ (s1 _ _ ht)
    have hw := (hw.same s1).same s2
    obtain ⟨⟨dx, ga⟩, gw⟩ := id hw
    have s12 := Same.trans s1 s2
    refine ⟨_, rfl, .ref t, _, _, _, true, rfl, .ty "tuple", .base (.tup gt), kit_ty (by decide +kernel), _, rfl, iteF ?_⟩
    refine ⟨_, rfl, t, _, rfl, .inr (SqT.of gt), rfl, _, rfl, ?_⟩
    refine iteF ?_
    refine ⟨_, rfl, t, [.ref a, .int i], 0, .ref a, rfl, rfl, SqT.of gt, atI0, _, _, _, _, true, rfl, .own C_World, .base (.ins ga T.o_World.cls T.u1 T.w2 T.w3 T.u4), kit_self, _, rfl, iteF ?_⟩
    try unfold tNext
    try dsimp only
    refine ⟨_, rfl, t, [_, _], rfl, SqT.of gt, rfl, _, _, rfl, _, _, rfl, rfl, ?_⟩
    refine ⟨_, rfl, _, true, rfl, .inl ⟨i, rfl, rfl⟩, fun H3 s3 => ⟨_, rfl, iteF ?_⟩⟩
    have hw := hw.same s3
    obtain ⟨⟨dx, ga⟩, gw⟩ := id hw
    refine ⟨_, rfl, _, _, rfl, rfl, _, rfl, ?_⟩
    rw [decide_eq_true h0]
    refine iteT ⟨_, rfl, a, _, _, rfl, ga, a, dw, n, kvs, rfl, hw, hn, fun H4 s4 => ⟨_, rfl, Nat.lt_of_le_of_lt hn (by decide), _, _, rfl, rfl, _, rfl, ?_⟩⟩
    rw [decide_eq_true h1]
    refine iteF ?_
    try unfold tNext
    try dsimp only
    have hw := hw.same s4
    have ga := s4 _ _ ga
    refine ⟨_, rfl, a, _, _, rfl, ga, rfl, _, rfl, _, rfl, a, dw, n, kvs, l, i, rfl, hw, hk, hl, h0, h1, fun H5 s5 => ?_⟩
    have hw := hw.same s5
    refine ⟨_, rfl, a, _, _, rfl, s5 _ _ ga, rfl, _, rfl, _, rfl, a, dw, n, kvs, m, i, rfl, hw, hk, hm, h0, h1, fun H6 s6 => ?_⟩
    refine ⟨_, _, dp_oW _, dp_oW _, shaped_oW _, shaped_oW _, ?_⟩
    rw [eqv_oW]
    exact k H6 (Same.trans s12 (Same.trans s3 (Same.trans s4 (Same.trans s5 s6))))
theorem sc_is_long_row : FnScope ["thing"] ["thing"] (defScope s_is_long_row) := ⟨rfl, rfl, rfl, by decide +kernel, rfl, by decide +kernel, by decide +kernel⟩
theorem ok_is_long_row {f : Addr} {fd : FuncData} (F : Fun K "is_long_row" "is_long_row" s_is_long_row f fd) (T : Txt K mg w D_CONTRARY D_NUMBERS D_STEPS C_Canon C_NoRow C_NoStep C_Walk C_World) (kn_is_row_within : KN P w K mg base CX0 1 ["thing", "most"] (sp_is_row_within) "is_row_within" []) : FnOk P w K mg base CX0 2 f fd ["thing"] (sp_is_long_row) := by
  obtain ⟨f_is_row_within, fd_is_row_within, ds_is_row_within, m_is_row_within, k_is_row_within, v_is_row_within, b_is_row_within, G_is_row_within⟩ := kn_is_row_within
  refine F.ok sc_is_long_row (fun vs H Q E h => ?_) (fun cdv A outer s H vs Q E hr h => ?_)
  · obtain ⟨x, r, rfl, _⟩ := h
    all_goals rfl
  · obtain ⟨x, r, rfl, hx, k⟩ := h
    refine ⟨_, (pss_one (ps_ret (pe_call G_is_row_within (hr.mono (by decide)) rfl m_is_row_within k_is_row_within b_is_row_within v_is_row_within pass0 (pa_cons (pv 0) (pa_cons (pe_globC T.g_MOST_LONG) pa_nil))))), ?_⟩
    exact ⟨_, rfl, x, 4000, r, rfl, hx, fun H1 s1 => k H1 s1⟩
theorem sc_look_at_long_row : FnScope ["thing"] ["thing"] (defScope s_look_at_long_row) := ⟨rfl, rfl, rfl, by decide +kernel, rfl, by decide +kernel, by decide +kernel⟩
theorem ok_look_at_long_row {f : Addr} {fd : FuncData} (F : Fun K "look_at_long_row" "look_at_long_row" s_look_at_long_row f fd) (T : Txt K mg w D_CONTRARY D_NUMBERS D_STEPS C_Canon C_NoRow C_NoStep C_Walk C_World) (kn_is_long_row : KN P w K mg base CX0 2 ["thing"] (sp_is_long_row) "is_long_row" []) : FnOk P w K mg base (L2.CX P w) 3 f fd ["thing"] (sp_look_at_long_row C_NoRow) := by
  obtain ⟨f_is_long_row, fd_is_long_row, ds_is_long_row, m_is_long_row, k_is_long_row, v_is_long_row, b_is_long_row, G_is_long_row⟩ := kn_is_long_row
  refine F.okX sc_look_at_long_row (fun vs H Q E h => ?_) (fun cdv A outer s H vs Q E hr h => ?_)
  · obtain ⟨x, r, rfl, _⟩ := h
    all_goals rfl
  · obtain ⟨x, r, rfl, hx, k⟩ := h
    refine ⟨_, (pss_one (ps_if (pt_not (pt_val (pe_call G_is_long_row (hr.mono (by decide)) rfl m_is_long_row k_is_long_row b_is_long_row v_is_long_row pass0 (pa_cons (pv 0) pa_nil)))) (pss_one (ps_raise rfl (takes_of rfl rfl rfl rfl) (pmk_own PySem.F.excBase_ValueError T.x_NoRow.xC T.x_NoRow.gC T.x_NoRow.kC (raises_own T.x_NoRow.bC T.x_NoRow.tC) rfl))) pss_nil)), ?_⟩
    obtain ⟨k1, k2⟩ := k
    refine ⟨_, rfl, x, r, rfl, hx, fun H1 e => ⟨_, rfl, ?_⟩⟩
    cases r with
    | true => exact iteF (k1 rfl H1 e)
    | false => exact iteT (k2 rfl H1 e)
theorem sc_part_of : FnScope ["text", "at", "many", "found"] ["text", "at", "many"] (defScope s_part_of) := ⟨rfl, rfl, rfl, by decide +kernel, rfl, by decide +kernel, by decide +kernel⟩
theorem ok_part_of {f : Addr} {fd : FuncData} (F : Fun K "part_of" "part_of" s_part_of f fd) (T : Txt K mg w D_CONTRARY D_NUMBERS D_STEPS C_Canon C_NoRow C_NoStep C_Walk C_World) : FnOk P w K mg base CX0 1 f fd ["text", "at", "many"] (sp_part_of) := by
  refine F.ok sc_part_of (fun vs H Q E h => ?_) (fun cdv A outer s H vs Q E hr h => ?_)
  · obtain ⟨t, a, m, rfl, _⟩ := h
    all_goals rfl
  · obtain ⟨t, a, m, rfl, hz, k⟩ := h
    refine ⟨_, (pss_cons (ps_set (i := 3) sc_part_of.nd rfl (Or.inl rfl) (pe_slice sl_str (pv 0) (po_some (pv 1)) (po_some (pe_op op_add (pv 1) (pv 2)))))
    (pss_cons (ps_if (pt_cmpR op_ne (pe_callB call_len_str (by rfl) T.b_len (by decide +kernel) (pa_cons (pv 3) pa_nil)) (pv 2) (nomark _)) (pss_one (ps_ret pe_non)) pss_nil)
    (pss_one (ps_ret (pv 3))))), ?_⟩
    have e1 : (a : Int) + (m : Int) = ((a + m : Nat) : Int) := by omega
    refine ⟨_, rfl, _, rfl, _, rfl, _, rfl, _, rfl, _, _, rfl, rfl, _, rfl, _, rfl, sz_of' (by rw [len_S]; omega), ?_⟩
    rw [e1, cut_mid (by omega), Nat.add_sub_cancel_left]
    obtain ⟨p, ep⟩ : ∃ p, p = (t.drop a).take m := ⟨_, rfl⟩
    unfold partR at k
    rw [← ep] at k ⊢
    have zp : p.length ≤ 40000 := by rw [ep, List.length_take, List.length_drop]; omega
    refine ⟨_, rfl, _, rfl, sz_of' (by rw [len_S]; omega), _, rfl, rfl, _, rfl, ?_⟩
    rw [len_S, show decide (V.int (p.length : Int) = V.int (m : Int)) = decide (p.length = m) from decide_eq_decide.mpr ⟨fun h => by injection h with h; omega, fun h => by rw [h]⟩]
    by_cases z : p.length = m
    · rw [if_pos z] at k
      rw [decide_eq_true z]
      exact iteF ⟨_, rfl, k H (Same.refl H)⟩
    · rw [if_neg z] at k
      rw [decide_eq_false z]
      exact iteT (k H (Same.refl H))
theorem sc_turned : FnScope ["text", "sign"] ["text"] (defScope s_turned) := ⟨rfl, rfl, rfl, by decide +kernel, rfl, by decide +kernel, by decide +kernel⟩
theorem ok_turned {f : Addr} {fd : FuncData} (F : Fun K "turned" "turned" s_turned f fd) (T : Txt K mg w D_CONTRARY D_NUMBERS D_STEPS C_Canon C_NoRow C_NoStep C_Walk C_World) (kn_contrary_sign : KN P w K mg base CX0 1 ["sign"] (sp_contrary_sign) "contrary_sign" []) : FnOk P w K mg base CX0 2 f fd ["text"] (sp_turned) := by
  obtain ⟨f_contrary_sign, fd_contrary_sign, ds_contrary_sign, m_contrary_sign, k_contrary_sign, v_contrary_sign, b_contrary_sign, G_contrary_sign⟩ := kn_contrary_sign
  refine F.ok sc_turned (fun vs H Q E h => ?_) (fun cdv A outer s H vs Q E hr h => ?_)
  · obtain ⟨l, rfl, _⟩ := h
    all_goals rfl
  · obtain ⟨l, rfl, hl, hz, k⟩ := h
    refine ⟨_, (pss_one (ps_ret (pe_m1 PySem.F.slot_str_join PySem.F.type_str_join (mt_joinK (K := K)) pe_str (pe_lc (own := [("sign", 1)]) (g := gName 1) (tt := tYes) rfl sc_turned.nd (pi_str (pe_revS (pv 0))) (blkOk_by (own := [("sign", 1)]) (N := ["text", "sign"]) (sc := defScope s_turned) (by decide +kernel)) (fun _ _ _ _ _ => (pg_name (i := 1) sc_turned.nd rfl (Or.inl rfl))) (fun _ _ _ _ _ => pts_nil) (fun _ _ _ _ _ => (pe_call G_contrary_sign (hr.mono (by decide)) rfl m_contrary_sign k_contrary_sign b_contrary_sign v_contrary_sign pass0 (pa_cons (pv 1) pa_nil))))))), ?_⟩
    refine Evl.s_ret (Evl.ev_is (ev_joinMap con Evl.ev_c (by decide) (Evl.ev_revS (Evl.ev_var rfl) (by rw [len_S]; omega)) (by show (S l.reverse).length ≤ _; rw [len_S, List.length_reverse]; omega) (fun _ => rfl) (fun c H1 e hc => ?_)) rfl) fun H1 e => k H1 e
    have hc : c ∈ sgns := hl c (List.mem_reverse.mp hc)
    exact Evl.ev_call (Evl.ea_cons (Evl.ev_var rfl) Evl.ea_nil) fun H1 e Q q E => ⟨c, rfl, hc, q⟩
theorem sc_less_of : FnScope ["text", "at", "many", "part"] ["text", "at", "many"] (defScope s_less_of) := ⟨rfl, rfl, rfl, by decide +kernel, rfl, by decide +kernel, by decide +kernel⟩
theorem ok_less_of {f : Addr} {fd : FuncData} (F : Fun K "less_of" "less_of" s_less_of f fd) (T : Txt K mg w D_CONTRARY D_NUMBERS D_STEPS C_Canon C_NoRow C_NoStep C_Walk C_World) (kn_part_of : KN P w K mg base CX0 1 ["text", "at", "many"] (sp_part_of) "part_of" []) (kn_turned : KN P w K mg base CX0 2 ["text"] (sp_turned) "turned" []) : FnOk P w K mg base CX0 3 f fd ["text", "at", "many"] (sp_less_of) := by
  obtain ⟨f_part_of, fd_part_of, ds_part_of, m_part_of, k_part_of, v_part_of, b_part_of, G_part_of⟩ := kn_part_of
  obtain ⟨f_turned, fd_turned, ds_turned, m_turned, k_turned, v_turned, b_turned, G_turned⟩ := kn_turned
  refine F.ok sc_less_of (fun vs H Q E h => ?_) (fun cdv A outer s H vs Q E hr h => ?_)
  · obtain ⟨t, a, m, rfl, _⟩ := h
    all_goals rfl
  · obtain ⟨t, a, m, rfl, hl, hz, hm, hm2, k⟩ := h
    refine ⟨_, (pss_cons (ps_set (i := 3) sc_less_of.nd rfl (Or.inl rfl) (pe_call G_part_of (hr.mono (by decide)) rfl m_part_of k_part_of b_part_of v_part_of pass0 (pa_cons (pv 0) (pa_cons (pv 1) (pa_cons (pv 2) pa_nil)))))
    (pss_cons (ps_if (PW.pt (pw_or (pt_cmpR op_isN (pv 3) pe_non (nomark _)) (pw_or1 (pt_not (pt_val (pe_bm PySem.F.plainAttrs_str PySem.F.slot_str_startswith PySem.F.type_str_startswith mt_startswith3 (pv 0) (pa_cons (pe_op op_add_str (pe_call G_turned (hr.mono (by decide)) rfl m_turned k_turned b_turned v_turned pass0 (pa_cons (pv 3) pa_nil)) (pv 3)) (pa_cons (pe_op op_add (pv 1) (pv 2)) pa_nil)))))))) (pss_one (ps_ret pe_non)) pss_nil)
    (pss_one (ps_ret (pe_op op_add_str (pe_slice sl_str (pv 0) po_none (po_some (pe_op op_add (pv 1) (pv 2)))) (pe_slice sl_str (pv 0) (po_some (pe_op op_add (pv 1) (pe_op op_mul pe_int (pv 2)))) po_none)))))), ?_⟩
    have e1 : (a : Int) + (m : Int) = ((a + m : Nat) : Int) := by omega
    have e3 : (a : Int) + 3 * (m : Int) = ((a + 3 * m : Nat) : Int) := by omega
    have zt : (S t).length ≤ sizeLine := sz_of' (by rw [len_S]; omega)
    refine ⟨_, rfl, _, rfl, _, rfl, t, a, m, rfl, by omega, fun H1 s1 => ?_⟩
    unfold lessR at k
    cases hp : partR t a m with
    | none =>
      rw [hp] at k
      exact ⟨_, rfl, rfl, _, rfl, iteT (k H1 s1)⟩
    | some p =>
      rw [hp] at k
      obtain ⟨zp, _⟩ := partR_some hp
      have rp := row_part hl hp
      have room := part_room hp hm
      have el : (RowM.turn p ++ p).length = 2 * m := by rw [List.length_append, RowM.turn_length]; omega
      refine ⟨_, rfl, rfl, _, rfl, iteF ?_⟩
      refine ⟨_, rfl, rfl, _, rfl, p, rfl, rp, by omega, fun H2 s2 => ⟨_, rfl, _, _, rfl, rfl, sz_of' (by rw [len_S, len_S, RowM.turn_length]; omega), _, rfl, _, rfl, _, _, rfl, rfl, _, _, _, rfl, rfl, _, rfl, ?_⟩⟩
      rw [add_S, e1, starts3_S room, el]
      have s12 := Same.trans s1 s2
      have k : ∀ H' : Hp, Same H H' → Q (optS (if (t.drop (a + m)).take (2 * m) = RowM.turn p ++ p then some (t.take (a + m) ++ t.drop (a + 3 * m)) else none)) H' := k
      by_cases z : (t.drop (a + m)).take (2 * m) = RowM.turn p ++ p
      · rw [if_pos z] at k
        rw [decide_eq_true z]
        refine iteF ⟨_, rfl, _, rfl, _, rfl, _, _, rfl, rfl, _, rfl, _, rfl, zt, _, rfl, _, rfl, _, rfl, _, _, rfl, rfl, .inl ⟨by decide, by decide⟩, _, _, rfl, rfl, _, rfl, _, rfl, zt, _, _, rfl, rfl, sz_of' (by rw [e1, e3, cut_toG, cut_from, len_S, len_S, List.length_take, List.length_drop]; omega), ?_⟩
        rw [e1, e3, cut_toG, cut_from, add_S]
        exact k H2 s12
      · rw [if_neg z] at k
        rw [decide_eq_false z]
        exact iteT (k H2 s12)
theorem sc_more_of : FnScope ["text", "at", "many", "part"] ["text", "at", "many"] (defScope s_more_of) := ⟨rfl, rfl, rfl, by decide +kernel, rfl, by decide +kernel, by decide +kernel⟩
theorem ok_more_of {f : Addr} {fd : FuncData} (F : Fun K "more_of" "more_of" s_more_of f fd) (T : Txt K mg w D_CONTRARY D_NUMBERS D_STEPS C_Canon C_NoRow C_NoStep C_Walk C_World) (kn_part_of : KN P w K mg base CX0 1 ["text", "at", "many"] (sp_part_of) "part_of" []) (kn_turned : KN P w K mg base CX0 2 ["text"] (sp_turned) "turned" []) : FnOk P w K mg base CX0 3 f fd ["text", "at", "many"] (sp_more_of) := by
  obtain ⟨f_part_of, fd_part_of, ds_part_of, m_part_of, k_part_of, v_part_of, b_part_of, G_part_of⟩ := kn_part_of
  obtain ⟨f_turned, fd_turned, ds_turned, m_turned, k_turned, v_turned, b_turned, G_turned⟩ := kn_turned
  refine F.ok sc_more_of (fun vs H Q E h => ?_) (fun cdv A outer s H vs Q E hr h => ?_)
  · obtain ⟨t, a, m, rfl, _⟩ := h
    all_goals rfl
  · obtain ⟨t, a, m, rfl, hl, hz, hm, hm2, k⟩ := h
    refine ⟨_, (pss_cons (ps_set (i := 3) sc_more_of.nd rfl (Or.inl rfl) (pe_call G_part_of (hr.mono (by decide)) rfl m_part_of k_part_of b_part_of v_part_of pass0 (pa_cons (pv 0) (pa_cons (pv 1) (pa_cons (pv 2) pa_nil)))))
    (pss_cons (ps_if (pt_cmpR op_isN (pv 3) pe_non (nomark _)) (pss_one (ps_ret pe_non)) pss_nil)
    (pss_one (ps_ret (pe_op op_add_str (pe_op op_add_str (pe_op op_add_str (pe_slice sl_str (pv 0) po_none (po_some (pe_op op_add (pv 1) (pv 2)))) (pe_call G_turned (hr.mono (by decide)) rfl m_turned k_turned b_turned v_turned pass0 (pa_cons (pv 3) pa_nil))) (pv 3)) (pe_slice sl_str (pv 0) (po_some (pe_op op_add (pv 1) (pv 2))) po_none)))))), ?_⟩
    have e1 : (a : Int) + (m : Int) = ((a + m : Nat) : Int) := by omega
    have e3 : (a : Int) + 3 * (m : Int) = ((a + 3 * m : Nat) : Int) := by omega
    have zt : (S t).length ≤ sizeLine := sz_of' (by rw [len_S]; omega)
    refine ⟨_, rfl, _, rfl, _, rfl, t, a, m, rfl, by omega, fun H1 s1 => ?_⟩
    unfold moreR at k
    cases hp : partR t a m with
    | none =>
      rw [hp] at k
      exact ⟨_, rfl, rfl, _, rfl, iteT (k H1 s1)⟩
    | some p =>
      rw [hp] at k
      obtain ⟨zp, _⟩ := partR_some hp
      have rp := row_part hl hp
      have room := part_room hp hm
      refine ⟨_, rfl, rfl, _, rfl, iteF ?_⟩
      refine ⟨_, rfl, _, rfl, _, rfl, _, _, rfl, rfl, _, rfl, _, rfl, zt, _, rfl, p, rfl, rp, by omega, fun H2 s2 => ⟨_, _, rfl, rfl, sz_of' (by rw [e1, cut_toG, len_S, len_S, RowM.turn_length, List.length_take]; omega), _, rfl, _, _, rfl, rfl, sz_of' (by rw [e1, cut_toG, add_S, len_S, len_S, List.length_append, RowM.turn_length, List.length_take]; omega), _, rfl, _, rfl, _, rfl, _, _, rfl, rfl, _, rfl, _, rfl, zt, _, _, rfl, rfl, sz_of' (by rw [e1, cut_toG, cut_from, add_S, add_S, len_S, len_S, List.length_append, List.length_append, RowM.turn_length, List.length_take, List.length_drop]; omega), ?_⟩⟩
      rw [e1, cut_toG, cut_from, add_S, add_S, add_S]
      exact k H2 (Same.trans s1 s2)
theorem sc_is_formed : FnScope ["step", "numbers", "number"] ["step"] (defScope s_is_formed) := ⟨rfl, rfl, rfl, by decide +kernel, rfl, by decide +kernel, by decide +kernel⟩
theorem ok_is_formed {f : Addr} {fd : FuncData} (F : Fun K "is_formed" "is_formed" s_is_formed f fd) (T : Txt K mg w D_CONTRARY D_NUMBERS D_STEPS C_Canon C_NoRow C_NoStep C_Walk C_World) (kn_is_whole : KN P w K mg base CX0 1 ["thing"] (sp_is_whole) "is_whole" []) : FnOk P w K mg base CX0 2 f fd ["step"] (sp_is_formed K) := by
  obtain ⟨f_is_whole, fd_is_whole, ds_is_whole, m_is_whole, k_is_whole, v_is_whole, b_is_whole, G_is_whole⟩ := kn_is_whole
  refine F.ok sc_is_formed (fun vs H Q E h => ?_) (fun cdv A outer s H vs Q E hr h => ?_)
  · obtain ⟨x, o, rfl, _⟩ := h
    all_goals rfl
  · obtain ⟨x, o, rfl, hx, k⟩ := h
    refine ⟨_, (pss_cons (ps_if (PW.pt (pw_or (pt_not (pt_val (pe_callB (call_isiK1 (K := K)) (by rfl) T.b_isinstance (by decide +kernel) (pa_cons (pv 0) (pa_cons (pe_bltn (v := .ty "tuple") (by rfl) T.b_tuple (by decide +kernel) rfl) pa_nil))))) (pw_or (pt_cmpR (op_eqDK (K := K) hr.units) (pv 0) (pe_tup pa_nil) (nomark _)) (pw_or (pt_not (pt_val (pe_callB (call_isiK1 (K := K)) (by rfl) T.b_isinstance (by decide +kernel) (pa_cons (pe_ix (ix_tupK (K := K)) (pv 0) pe_int (fun _ _ => rfl)) (pa_cons (pe_bltn (v := .ty "str") (by rfl) T.b_str (by decide +kernel) rfl) pa_nil))))) (pw_or1 (pt_cmpR (op_kNotIn (K := K) (w := w) T.q_NUMBERS) (pe_ix (ix_tupK (K := K)) (pv 0) pe_int (fun _ _ => rfl)) (pe_glob (v := .ref D_NUMBERS) rfl T.q_NUMBERS.mg rfl) (by rfl))))))) (pss_one (ps_ret pe_bl)) pss_nil)
    (pss_cons (ps_set (i := 1) sc_is_formed.nd rfl (Or.inl rfl) (pe_slice (sl_tupK (K := K)) (pv 0) (po_some pe_int) po_none))
    (pss_cons (ps_if (PW.pt (pw_or (pt_cmpR op_ne (pe_callB (call_lenK (K := K)) (by rfl) T.b_len (by decide +kernel) (pa_cons (pv 1) pa_nil)) (pe_ix (ix_k (K := K) (w := w) T.q_NUMBERS) (pe_glob (v := .ref D_NUMBERS) rfl T.q_NUMBERS.mg rfl) (pe_ix (ix_tupK (K := K)) (pv 0) pe_int (fun _ _ => rfl)) (fun _ _ => rfl)) (nomark _)) (pw_or1 (pt_not (pt_val (pe_callB (cr_allK (K := K) rfl) (by rfl) T.b_all (by decide +kernel) (pa_cons (pe_lc (own := [("number", 2)]) (g := gName 2) (tt := tYes) rfl sc_is_formed.nd (pi_tup (pv 1)) (blkOk_by (own := [("number", 2)]) (N := ["step", "numbers", "number"]) (sc := defScope s_is_formed) (by decide +kernel)) (fun _ _ _ _ _ => (pg_name (i := 2) sc_is_formed.nd rfl (Or.inl rfl))) (fun _ _ _ _ _ => pts_nil) (fun _ _ _ _ _ => (pe_call G_is_whole (hr.mono (by decide)) rfl m_is_whole k_is_whole b_is_whole v_is_whole pass0 (pa_cons (pv 2) pa_nil)))) pa_nil))))))) (pss_one (ps_ret pe_bl)) pss_nil)
    (pss_one (ps_ret (pe_and (pe_cmpR op_ge (pe_ix (ix_tupK (K := K)) (pv 1) pe_int (fun _ _ => rfl)) pe_int (nomark _)) (pe_one (pe_cmpR op_ge (pe_callB (cr_minT (K := K) rfl) (by rfl) T.b_min (by decide +kernel) (pa_cons (pe_slice (sl_tupK (K := K)) (pv 1) (po_some pe_int) po_none) pa_nil)) pe_int (nomark _))))))))), ?_⟩
    rcases hx with ⟨p, vs, rfl, hp, hc, hz, ho⟩ | ⟨hn, rfl⟩
    rotate_left
    · obtain ⟨t, ht, hk⟩ := hn.ty (K := K)
      exact ⟨_, rfl, x, _, _, _, false, rfl, .ty "tuple", ht, kit_ty hk, false, rfl, iteT (k H (Same.refl H))⟩
    subst ho
    refine ⟨_, rfl, _, _, _, _, true, rfl, .ty "tuple", .base (.tup hp), kit_ty (r := true) (by decide +kernel), true, rfl, iteF ?_⟩
    refine ⟨_, rfl, (by show 0 ≤ sizeLine; decide), fun e he => ?_⟩
    have s1 := Same.new (o := .tup []) he
    have ge := upd_same (H := H) (a := e) (o := HO.tup [])
    have hp1 := s1 _ _ hp
    generalize upd H e (.tup []) = H1 at s1 ge hp1 ⊢
    obtain ⟨ds, d1, d2, d3⟩ := cells_dp (K := K) (H := H1) (fun v hv => (hc v hv).same s1)
    refine ⟨.tuple ds, .tuple [], .tup (SqT.of hp1) d1, .tup (SqT.of ge) .nil, shaped_cells d2 d3, by decide, ?_⟩
    cases vs with
    | nil =>
      cases d1
      rw [show PyData.eqv (.tuple []) (.tuple []) = true by simp [PyData.eqv, PyData.eqvAll]]
      exact ⟨_, rfl, iteT (k H1 s1)⟩
    | cons v r =>
      cases d1 with
      | cons f1 f2 =>
      rename_i d dr
      rw [show PyData.eqv (.tuple (d :: dr)) (.tuple []) = false by simp [PyData.eqv, PyData.eqvAll]]
      refine ⟨_, rfl, iteF ?_⟩
      have cv := (hc v List.mem_cons_self).same s1
      obtain ⟨t, ht, hk⟩ := cv.ty (K := K)
      refine ⟨_, rfl, p, _, _, _, rfl, rfl, SqT.of hp1, atI0, v, _, _, _, isS v, rfl, .ty "str", ht, kit_ty hk, isS v, rfl, ?_⟩
      cases hs : isS v with
      | false =>
        rw [form_head hs] at k
        exact iteT (k H1 s1)
      | true =>
      obtain ⟨w, hw, rfl⟩ : ∃ w ∈ wordsS, v = .str w := by
        rcases cv with ⟨i, rfl⟩ | ⟨b, rfl⟩ | rfl | ⟨w, hw, rfl⟩ | ⟨q, rfl, _⟩
        · cases hs
        · cases hs
        · cases hs
        · exact ⟨w, hw, rfl⟩
        · cases hs
      have hN : (∃ (c : Nat) (t : Tok), PySem.W.nsIn K D_NUMBERS w = some (some (.int (c : Int) t)) ∧ ((w = Str.ofString "less" ∨ w = Str.ofString "more") ∧ c = 2 ∨ w = Str.ofString "past" ∧ c = 3)) ∨ (PySem.W.nsIn K D_NUMBERS w = some none ∧ w ≠ Str.ofString "less" ∧ w ≠ Str.ofString "more" ∧ w ≠ Str.ofString "past") := by
        obtain ⟨t1, n1⟩ := T.q_NUMBERS_less
        obtain ⟨t2, n2⟩ := T.q_NUMBERS_more
        obtain ⟨t3, n3⟩ := T.q_NUMBERS_past
        unfold wordsS at hw
        simp only [List.mem_cons, List.not_mem_nil, or_false] at hw
        rcases hw with rfl | rfl | rfl | rfl | rfl | rfl | rfl | rfl
        · exact .inl ⟨2, t1, n1, .inl ⟨.inl rfl, rfl⟩⟩
        · exact .inl ⟨2, t2, n2, .inl ⟨.inr rfl, rfl⟩⟩
        · exact .inl ⟨3, t3, n3, .inr ⟨rfl, rfl⟩⟩
        · exact .inr ⟨T.z0, by decide, by decide, by decide⟩
        · exact .inr ⟨T.z1, by decide, by decide, by decide⟩
        · exact .inr ⟨T.z2, by decide, by decide, by decide⟩
        · exact .inr ⟨T.z3, by decide, by decide, by decide⟩
        · exact .inr ⟨T.z4, by decide, by decide, by decide⟩
      rcases hN with ⟨c, t, hn, hwc⟩ | ⟨hn, hne⟩
      rotate_left
      · rw [form_word hne] at k
        exact iteF ⟨_, rfl, p, _, _, _, rfl, rfl, SqT.of hp1, atI0, rfl, _, _, _, rfl, rfl, hn, _, rfl, iteT (k H1 s1)⟩
      refine iteF ⟨_, rfl, p, _, _, _, rfl, rfl, SqT.of hp1, atI0, rfl, _, _, _, rfl, rfl, hn, _, rfl, iteF ?_⟩
      refine ⟨_, rfl, _, rfl, p, _, rfl, SqT.of hp1, not_whole1 _ _ _, fun n hn2 => ?_⟩
      rw [cut_tail]
      have s2 := Same.trans s1 (Same.new (o := .tup r) hn2)
      have gn := upd_same (H := H1) (a := n) (o := HO.tup r)
      have hp2 := Same.new (o := .tup r) hn2 _ _ hp1
      generalize upd H1 n (.tup r) = H2 at s2 gn hp2 ⊢
      refine ⟨_, rfl, n, _, rfl, .inr (SqT.of gn), _, rfl, p, _, _, _, rfl, rfl, SqT.of hp2, atI0, _, _, .int c, rfl, rfl, hn, ⟨_, rfl⟩, rfl, _, rfl, ?_⟩
      by_cases hl : r.length = c
      rotate_left
      · rw [decide_eq_false (fun z => hl (by injection z with z; omega))]
        have hno : formR (.str w :: r) = none := by
          rcases hwc with ⟨hw2, rfl⟩ | ⟨rfl, rfl⟩
          · exact form_two hl (by rcases hw2 with rfl | rfl <;> decide)
          · exact form_three hl
        rw [hno] at k
        exact iteT (k H2 s2)
      refine iteNS (by rw [hl]) ?_
      refine ⟨_, rfl, n, rfl, ⟨_, SqT.of gn⟩, fun D hD => ?_⟩
      have cr : ∀ v ∈ r, Cell H2 v := fun v hv => (hc v (List.mem_cons_of_mem _ hv)).same s2
      refine lc_tup (K := K) (a := n) (xs := r) (fun i H' => H' D = some (.lst (((r.take i).map isI).map V.bl)) ∧ Same H2 H' ∧ i ≤ r.length) ⟨upd_same, Same.new hD, Nat.zero_le _⟩ (fun _ H' _ ⟨_, s, _⟩ => SqT.of (s _ _ gn)) ?_ ?_
      · rintro i x H3 hx ⟨gD, s3, hi⟩
        have il := (List.getElem?_eq_some_iff.mp hx).1
        refine ⟨rfl, _, rfl, x, isI x, rfl, ((cr x (List.mem_of_getElem? hx)).same s3).whole, fun H4 s4 => ⟨_, s4 _ _ gD, ?_, ?_, fun b o hb => ?_, il⟩⟩
        · rw [List.length_map, List.length_map, List.length_take]
          have : r.length ≤ 8 := by
            rw [List.length_cons] at hz
            omega
          exact Nat.lt_of_le_of_lt (by omega : _ ≤ 8) (by decide)
        · rw [upd_same, take_oneS hx, List.map_append, List.map_append]
          rfl
        · rw [upd_ne (ne_of_none hb hD)]
          exact s4 _ _ (s3 _ _ hb)
      rintro H3 ⟨gD, s3, _⟩
      rw [List.take_length] at gD
      have gn3 := s3 _ _ gn
      have s13 := Same.trans s2 s3
      refine ⟨D, r.map isI, rfl, SqL.of gD, r.all isI, (by rw [List.all_map]; rfl), ?_⟩
      cases hall : r.all isI with
      | false =>
        rw [form_int hall] at k
        exact iteT (k H3 s13)
      | true =>
      refine iteF ?_
      obtain ⟨ns, rfl⟩ := ints_of hall
      rw [List.length_map] at hl
      rcases hwc with ⟨hw2, rfl⟩ | ⟨rfl, rfl⟩
      · obtain ⟨a, m, rfl⟩ := len2 hl
        have k : ∀ H' : Hp, Same H H' → Q (.bl (formR [.str w, .int a, .int m]).isSome) H' := k
        rw [form_2 hw2] at k
        refine ⟨_, rfl, n, _, _, _, rfl, rfl, SqT.of gn3, atI0, _, _, rfl, rfl, _, rfl, ?_⟩
        cases ha : decide ((0 : Int) ≤ a) with
        | false =>
          rw [ha] at k
          exact iteF (k H3 s13)
        | true =>
          rw [ha] at k
          refine iteT ⟨_, rfl, _, rfl, n, _, rfl, SqT.of gn3, not_whole1 _ _ _, fun u hu => ⟨u, [m], rfl, SqT.of upd_same, by show 0 < 1; decide, fun mm h1 h2 => ⟨_, _, rfl, rfl, ?_⟩⟩⟩
          obtain rfl : mm = m := by simpa using h1
          exact k _ (Same.trans s13 (Same.new hu))
      · obtain ⟨a, m, j, rfl⟩ := len3 hl
        have k : ∀ H' : Hp, Same H H' → Q (.bl (formR [.str (Str.ofString "past"), .int a, .int m, .int j]).isSome) H' := k
        rw [form_3] at k
        refine ⟨_, rfl, n, _, _, _, rfl, rfl, SqT.of gn3, atI0, _, _, rfl, rfl, _, rfl, ?_⟩
        cases ha : decide ((0 : Int) ≤ a) with
        | false =>
          rw [ha] at k
          exact iteF (k H3 s13)
        | true =>
          rw [ha] at k
          refine iteT ⟨_, rfl, _, rfl, n, _, rfl, SqT.of gn3, not_whole1 _ _ _, fun u hu => ⟨u, [m, j], rfl, SqT.of upd_same, by show 0 < 2; decide, fun mm h1 h2 => ⟨_, _, rfl, rfl, ?_⟩⟩⟩
          show Q (V.bl (decide ((1 : Int) ≤ mm))) _
          rw [dec_and2 h1 h2]
          exact k _ (Same.trans s13 (Same.new hu))
theorem sc_past_of : FnScope ["text", "at", "many", "more", "one", "other", "first", "second"] ["text", "at", "many", "more"] (defScope s_past_of) := ⟨rfl, rfl, rfl, by decide +kernel, rfl, by decide +kernel, by decide +kernel⟩
theorem ok_past_of {f : Addr} {fd : FuncData} (F : Fun K "past_of" "past_of" s_past_of f fd) (T : Txt K mg w D_CONTRARY D_NUMBERS D_STEPS C_Canon C_NoRow C_NoStep C_Walk C_World) (kn_part_of : KN P w K mg base CX0 1 ["text", "at", "many"] (sp_part_of) "part_of" []) (kn_turned : KN P w K mg base CX0 2 ["text"] (sp_turned) "turned" []) : FnOk P w K mg base CX0 3 f fd ["text", "at", "many", "more"] (sp_past_of) := by
  obtain ⟨f_part_of, fd_part_of, ds_part_of, m_part_of, k_part_of, v_part_of, b_part_of, G_part_of⟩ := kn_part_of
  obtain ⟨f_turned, fd_turned, ds_turned, m_turned, k_turned, v_turned, b_turned, G_turned⟩ := kn_turned
  refine F.ok sc_past_of (fun vs H Q E h => ?_) (fun cdv A outer s H vs Q E hr h => ?_)
  · obtain ⟨t, a, m, j, rfl, _⟩ := h
    all_goals rfl
  · obtain ⟨t, a, m, j, rfl, hl, hz, hm, hm2, hj, hj2, k⟩ := h
    refine ⟨_, (pss_cons (ps_set (i := 4) sc_past_of.nd rfl (Or.inl rfl) (pe_call G_part_of (hr.mono (by decide)) rfl m_part_of k_part_of b_part_of v_part_of pass0 (pa_cons (pv 0) (pa_cons (pv 1) (pa_cons (pv 2) pa_nil)))))
    (pss_cons (ps_set (i := 5) sc_past_of.nd rfl (Or.inl rfl) (pe_call G_part_of (hr.mono (by decide)) rfl m_part_of k_part_of b_part_of v_part_of pass0 (pa_cons (pv 0) (pa_cons (pe_op op_add (pv 1) (pe_op op_mul pe_int (pv 2))) (pa_cons (pv 3) pa_nil)))))
    (pss_cons (ps_if (PW.pt (pw_or (pt_cmpR op_isN (pv 4) pe_non (nomark _)) (pw_or1 (pt_cmpR op_isN (pv 5) pe_non (nomark _))))) (pss_one (ps_ret pe_non)) pss_nil)
    (pss_cons (ps_par (i := 6) (j := 7) (by rfl) sc_past_of.nd rfl rfl (by decide) rfl rfl (pa_cons (pe_op op_add_str (pv 4) (pe_call G_turned (hr.mono (by decide)) rfl m_turned k_turned b_turned v_turned pass0 (pa_cons (pv 4) pa_nil))) (pa_cons (pe_op op_add_str (pv 5) (pe_call G_turned (hr.mono (by decide)) rfl m_turned k_turned b_turned v_turned pass0 (pa_cons (pv 5) pa_nil))) pa_nil)) (by rfl))
    (pss_cons (ps_if (pt_not (pt_val (pe_bm PySem.F.plainAttrs_str PySem.F.slot_str_startswith PySem.F.type_str_startswith mt_startswith3 (pv 0) (pa_cons (pe_op op_add_str (pv 6) (pv 7)) (pa_cons (pv 1) pa_nil))))) (pss_one (ps_ret pe_non)) pss_nil)
    (pss_one (ps_ret (pe_op op_add_str (pe_op op_add_str (pe_op op_add_str (pe_slice sl_str (pv 0) po_none (po_some (pv 1))) (pv 7)) (pv 6)) (pe_slice sl_str (pv 0) (po_some (pe_op op_add (pe_op op_add (pv 1) (pe_callB call_len_str (by rfl) T.b_len (by decide +kernel) (pa_cons (pv 6) pa_nil))) (pe_callB call_len_str (by rfl) T.b_len (by decide +kernel) (pa_cons (pv 7) pa_nil)))) po_none))))))))), ?_⟩
    have e2 : (a : Int) + 2 * (m : Int) = ((a + 2 * m : Nat) : Int) := by omega
    have zt : (S t).length ≤ sizeLine := sz_of' (by rw [len_S]; omega)
    refine ⟨_, rfl, _, rfl, _, rfl, t, a, m, rfl, by omega, fun H1 s1 => ?_⟩
    refine ⟨_, rfl, _, rfl, _, rfl, _, _, rfl, rfl, .inl ⟨by decide, by decide⟩, _, _, rfl, rfl, _, rfl, t, a + 2 * m, j, (by show [V.str (S t), V.int ((a : Int) + 2 * (m : Int)), V.int (j : Int)] = _; rw [e2]), by omega, fun H2 s2 => ?_⟩
    have s12 := Same.trans s1 s2
    unfold pastR at k
    cases hp : partR t a m with
    | none =>
      rw [hp] at k
      exact ⟨_, rfl, rfl, _, rfl, iteT (k H2 s12)⟩
    | some p =>
      refine ⟨_, rfl, rfl, _, rfl, iteF ?_⟩
      cases hq : partR t (a + 2 * m) j with
      | none =>
        rw [hp] at k
        have k : ∀ H' : Hp, Same H H' → Q (optS ((partR t (a + 2 * m) j).bind _)) H' := k
        rw [hq] at k
        exact ⟨_, rfl, rfl, _, rfl, iteT (k H2 s12)⟩
      | some q =>
        refine ⟨_, rfl, rfl, _, rfl, iteF ?_⟩
        rw [hp] at k
        have k : ∀ H' : Hp, Same H H' → Q (optS ((partR t (a + 2 * m) j).bind _)) H' := k
        rw [hq] at k
        obtain ⟨zp, _⟩ := partR_some hp
        obtain ⟨zq, _⟩ := partR_some hq
        have rp := row_part hl hp
        have rq := row_part hl hq
        have room := part_room hp hm
        have room2 := part_room hq hj
        have lp : (p ++ RowM.turn p).length = 2 * m := by rw [List.length_append, RowM.turn_length]; omega
        have lq : (q ++ RowM.turn q).length = 2 * j := by rw [List.length_append, RowM.turn_length]; omega
        have el : (p ++ RowM.turn p ++ (q ++ RowM.turn q)).length = 2 * m + 2 * j := by rw [List.length_append, lp, lq]
        refine ⟨_, rfl, _, rfl, p, rfl, rp, by omega, fun H3 s3 => ⟨_, _, rfl, rfl, sz_of' (by rw [len_S, len_S, RowM.turn_length]; omega), _, rfl, _, rfl, q, rfl, rq, by omega, fun H4 s4 => ⟨_, _, rfl, rfl, sz_of' (by rw [len_S, len_S, RowM.turn_length]; omega), ?_⟩⟩⟩
        rw [add_S, add_S]
        have s14 := Same.trans s12 (Same.trans s3 s4)
        refine ⟨_, _, rfl, _, rfl, rfl, _, rfl, _, rfl, _, _, rfl, rfl, sz_of' (by rw [len_S, len_S, lp, lq]; omega), _, rfl, _, _, _, rfl, rfl, _, rfl, ?_⟩
        rw [add_S, starts3_S (by omega), el]
        have k : ∀ H' : Hp, Same H H' → Q (optS (if (t.drop a).take (2 * m + 2 * j) = p ++ RowM.turn p ++ (q ++ RowM.turn q) then some (t.take a ++ (q ++ RowM.turn q) ++ (p ++ RowM.turn p) ++ t.drop (a + 2 * m + 2 * j)) else none)) H' := k
        by_cases z : (t.drop a).take (2 * m + 2 * j) = p ++ RowM.turn p ++ (q ++ RowM.turn q)
        · rw [if_pos z] at k
          rw [decide_eq_true z]
          have zfp : (S (p ++ RowM.turn p)).length ≤ sizeLine := sz_of' (by rw [len_S, lp]; omega)
          have zfq : (S (q ++ RowM.turn q)).length ≤ sizeLine := sz_of' (by rw [len_S, lq]; omega)
          have e5 : (a : Int) + ((S (p ++ RowM.turn p)).length : Int) + ((S (q ++ RowM.turn q)).length : Int) = ((a + 2 * m + 2 * j : Nat) : Int) := by rw [len_S, len_S, lp, lq]; omega
          refine iteF ⟨_, rfl, _, rfl, _, rfl, _, rfl, zt, _, rfl, _, _, rfl, rfl, sz_of' (by rw [cut_toG, len_S, len_S, lq, List.length_take]; omega), _, rfl, _, _, rfl, rfl, sz_of' (by rw [cut_toG, add_S, len_S, len_S, List.length_append, lp, lq, List.length_take]; omega), _, rfl, _, rfl, _, rfl, _, rfl, zfp, _, _, rfl, rfl, _, rfl, _, rfl, zfq, _, _, rfl, rfl, _, rfl, _, rfl, zt, _, _, rfl, rfl, sz_of' (by rw [cut_toG, e5, cut_from, add_S, add_S, len_S, len_S, List.length_append, List.length_append, lp, lq, List.length_take, List.length_drop]; omega), ?_⟩
          rw [cut_toG, e5, cut_from, add_S, add_S, add_S]
          exact k H4 s14
        · rw [if_neg z] at k
          rw [decide_eq_false z]
          exact iteT (k H4 s14)
theorem sc_done : FnScope ["text", "step", "deed", "found"] ["text", "step"] (defScope s_done) := ⟨rfl, rfl, rfl, by decide +kernel, rfl, by decide +kernel, by decide +kernel⟩
theorem ok_done {f : Addr} {fd : FuncData} (F : Fun K "done" "done" s_done f fd) (T : Txt K mg w D_CONTRARY D_NUMBERS D_STEPS C_Canon C_NoRow C_NoStep C_Walk C_World) (kn_is_formed : KN P w K mg base CX0 2 ["step"] (sp_is_formed K) "is_formed" []) (kn_past_of : KN P w K mg base CX0 3 ["text", "at", "many", "more"] (sp_past_of) "past_of" []) (kn_less_of : KN P w K mg base CX0 3 ["text", "at", "many"] (sp_less_of) "less_of" []) (kn_more_of : KN P w K mg base CX0 3 ["text", "at", "many"] (sp_more_of) "more_of" []) : FnOk P w K mg base CX0 4 f fd ["text", "step"] (sp_done K) := by
  obtain ⟨f_is_formed, fd_is_formed, ds_is_formed, m_is_formed, k_is_formed, v_is_formed, b_is_formed, G_is_formed⟩ := kn_is_formed
  obtain ⟨f_past_of, fd_past_of, ds_past_of, m_past_of, k_past_of, v_past_of, b_past_of, G_past_of⟩ := kn_past_of
  obtain ⟨f_less_of, fd_less_of, ds_less_of, m_less_of, k_less_of, v_less_of, b_less_of, G_less_of⟩ := kn_less_of
  obtain ⟨f_more_of, fd_more_of, ds_more_of, m_more_of, k_more_of, v_more_of, b_more_of, G_more_of⟩ := kn_more_of
  refine F.ok sc_done (fun vs H Q E h => ?_) (fun cdv A outer s H vs Q E hr h => ?_)
  · obtain ⟨t, x, o, rfl, _⟩ := h
    all_goals rfl
  · obtain ⟨t, x, o, rfl, hl, hz, hx, k⟩ := h
    refine ⟨_, (pss_cons (ps_if (pt_not (pt_val (pe_call G_is_formed (hr.mono (by decide)) rfl m_is_formed k_is_formed b_is_formed v_is_formed pass0 (pa_cons (pv 1) pa_nil)))) (pss_one (ps_ret pe_non)) pss_nil)
    (pss_cons (ps_set (i := 2) sc_done.nd rfl (Or.inl rfl) (pe_ix (ix_k (K := K) (w := w) T.q_STEPS) (pe_glob (v := .ref D_STEPS) rfl T.q_STEPS.mg rfl) (pe_ix (ix_tupK (K := K)) (pv 1) pe_int (fun _ _ => rfl)) (fun _ _ => rfl)))
    (pss_cons (ps_if (pt_cmpR op_eq (pe_ix (ix_tupK (K := K)) (pv 1) pe_int (fun _ _ => rfl)) pe_str (nomark _)) (pss_one (ps_set (i := 3) sc_done.nd rfl (Or.inl rfl) (pe_callL (i := 2) G_past_of (hr.mono (by decide)) rfl (Or.inl rfl) k_past_of b_past_of v_past_of pass0 (pa_cons (pv 0) (pa_cons (pe_ix (ix_tupK (K := K)) (pv 1) pe_int (fun _ _ => rfl)) (pa_cons (pe_ix (ix_tupK (K := K)) (pv 1) pe_int (fun _ _ => rfl)) (pa_cons (pe_ix (ix_tupK (K := K)) (pv 1) pe_int (fun _ _ => rfl)) pa_nil))))))) (pss_one (ps_set (i := 3) sc_done.nd rfl (Or.inl rfl) (pe_call2 (i := 2) (k := 3) (G_less_of.mono (by decide)) (G_more_of.mono (by decide)) (hr.mono (by decide)) rfl (Or.inl rfl) k_less_of k_more_of b_less_of b_more_of v_less_of v_more_of pass0 (pa_cons (pv 0) (pa_cons (pe_ix (ix_tupK (K := K)) (pv 1) pe_int (fun _ _ => rfl)) (pa_cons (pe_ix (ix_tupK (K := K)) (pv 1) pe_int (fun _ _ => rfl)) pa_nil)))))))
    (pss_cons (ps_if (PW.pt (pw_or (pt_cmpR op_isN (pv 3) pe_non (nomark _)) (pw_or1 (pt_cmpR op_gt (pe_callB call_len_str (by rfl) T.b_len (by decide +kernel) (pa_cons (pv 3) pa_nil)) (pe_globC T.g_MOST_LONG) (nomark _))))) (pss_one (ps_ret pe_non)) pss_nil)
    (pss_one (ps_ret (pv 3))))))), ?_⟩
    refine ⟨_, rfl, x, o, rfl, hx, fun H1 s1 => ⟨_, rfl, ?_⟩⟩
    cases o with
    | none => exact iteT (k H1 s1)
    | some st =>
    refine iteF ?_
    obtain ⟨p, vs, rfl, hp, hc, hz2, ho⟩ | ⟨_, ho⟩ := hx
    rotate_left
    · cases ho
    obtain ⟨rfl, ok⟩ := form_vals hc ho.symm
    have ho := ok
    have hp1 := s1 _ _ hp
    have fin : ∀ H2 u, Same H H2 → doR t st = some u → (if decide ((4000 : Int) < (u.length : Int)) = true then Q .non H2 else Q (.str (S u)) H2) := fun H2 u s12 hr => by
      have k := k H2 s12
      rw [doX_some hr] at k
      by_cases z : u.length ≤ 4000
      · rw [if_pos z] at k
        rw [decide_eq_false (by omega)]
        exact iteF k
      · rw [if_neg z] at k
        rw [decide_eq_true (by omega)]
        exact iteT k
    have zl : ∀ u, doR t st = some u → u.length ≤ 12000 := fun u e => by
      have := doR_len3 ok e
      omega
    have no0 : ∀ H2, Same H H2 → doR t st = none → Q .non H2 := fun H2 s12 hr => by
      have k := k H2 s12
      rw [doX_none hr] at k
      exact k
    cases st with
    | less a m =>
      obtain ⟨f0, hm0, hk0⟩ := T.q_STEPS_less
      obtain rfl : f0 = f_less_of := by
        rw [m_less_of] at hm0
        injection hm0 with h
        injection h with h
        exact h.symm
      have hp1 : H1 p = some (.tup [.str (Str.ofString "less"), .int (a : Int), .int (m : Int)]) := hp1
      refine ⟨_, rfl, p, _, _, _, rfl, rfl, SqT.of hp1, atI0, _, _, .ref f0, rfl, rfl, hk0, rfl, ?_⟩
      refine ⟨_, rfl, p, _, _, _, rfl, rfl, SqT.of hp1, atI0, rfl, _, rfl, ?_⟩
      rw [show decide (V.str (Str.ofString "less") = V.str (Str.ofString "past")) = false by decide]
      refine iteF (.inl ⟨rfl, _, rfl, _, rfl, p, _, _, _, rfl, rfl, SqT.of hp1, (by rfl), _, rfl, p, _, _, _, rfl, rfl, SqT.of hp1, (by rfl), t, a, m, rfl, hl, by omega, ho.1, ho.2, fun H2 s2 => ?_⟩)
      have s12 := Same.trans s1 s2
      have zl : ∀ u, lessR t a m = some u → u.length ≤ 12000 := zl
      have fin : ∀ H2 u, Same H H2 → lessR t a m = some u → (if decide ((4000 : Int) < (u.length : Int)) = true then Q .non H2 else Q (.str (S u)) H2) := fin
      have no0 : ∀ H2, Same H H2 → lessR t a m = none → Q .non H2 := no0
      cases hr2 : lessR t a m with
      | none => exact ⟨_, rfl, rfl, _, rfl, iteT (no0 H2 s12 hr2)⟩
      | some u =>
        have zu := zl u hr2
        have fin := fin H2 u s12 hr2
        refine ⟨_, rfl, rfl, _, rfl, iteF ⟨_, rfl, _, rfl, sz_of' (by rw [len_S]; omega), _, _, rfl, rfl, _, rfl, ?_⟩⟩
        rw [len_S]
        cases hb : decide ((4000 : Int) < (u.length : Int)) with
        | true =>
          rw [hb] at fin
          exact iteT fin
        | false =>
          rw [hb] at fin
          exact iteF ⟨_, rfl, fin⟩
    | more a m =>
      obtain ⟨f0, hm0, hk0⟩ := T.q_STEPS_more
      obtain rfl : f0 = f_more_of := by
        rw [m_more_of] at hm0
        injection hm0 with h
        injection h with h
        exact h.symm
      have hp1 : H1 p = some (.tup [.str (Str.ofString "more"), .int (a : Int), .int (m : Int)]) := hp1
      refine ⟨_, rfl, p, _, _, _, rfl, rfl, SqT.of hp1, atI0, _, _, .ref f0, rfl, rfl, hk0, rfl, ?_⟩
      refine ⟨_, rfl, p, _, _, _, rfl, rfl, SqT.of hp1, atI0, rfl, _, rfl, ?_⟩
      rw [show decide (V.str (Str.ofString "more") = V.str (Str.ofString "past")) = false by decide]
      refine iteF (.inr ⟨rfl, _, rfl, _, rfl, p, _, _, _, rfl, rfl, SqT.of hp1, (by rfl), _, rfl, p, _, _, _, rfl, rfl, SqT.of hp1, (by rfl), t, a, m, rfl, hl, by omega, ho.1, ho.2, fun H2 s2 => ?_⟩)
      have s12 := Same.trans s1 s2
      have zl : ∀ u, moreR t a m = some u → u.length ≤ 12000 := zl
      have fin : ∀ H2 u, Same H H2 → moreR t a m = some u → (if decide ((4000 : Int) < (u.length : Int)) = true then Q .non H2 else Q (.str (S u)) H2) := fin
      have no0 : ∀ H2, Same H H2 → moreR t a m = none → Q .non H2 := no0
      cases hr2 : moreR t a m with
      | none => exact ⟨_, rfl, rfl, _, rfl, iteT (no0 H2 s12 hr2)⟩
      | some u =>
        have zu := zl u hr2
        have fin := fin H2 u s12 hr2
        refine ⟨_, rfl, rfl, _, rfl, iteF ⟨_, rfl, _, rfl, sz_of' (by rw [len_S]; omega), _, _, rfl, rfl, _, rfl, ?_⟩⟩
        rw [len_S]
        cases hb : decide ((4000 : Int) < (u.length : Int)) with
        | true =>
          rw [hb] at fin
          exact iteT fin
        | false =>
          rw [hb] at fin
          exact iteF ⟨_, rfl, fin⟩
    | past a m j =>
      obtain ⟨f0, hm0, hk0⟩ := T.q_STEPS_past
      obtain rfl : f0 = f_past_of := by
        rw [m_past_of] at hm0
        injection hm0 with h
        injection h with h
        exact h.symm
      have hp1 : H1 p = some (.tup [.str (Str.ofString "past"), .int (a : Int), .int (m : Int), .int (j : Int)]) := hp1
      refine ⟨_, rfl, p, _, _, _, rfl, rfl, SqT.of hp1, atI0, _, _, .ref f0, rfl, rfl, hk0, rfl, ?_⟩
      refine ⟨_, rfl, p, _, _, _, rfl, rfl, SqT.of hp1, atI0, rfl, _, rfl, ?_⟩
      rw [show decide (V.str (Str.ofString "past") = V.str (Str.ofString "past")) = true by decide]
      refine iteT ⟨rfl, _, rfl, _, rfl, p, _, _, _, rfl, rfl, SqT.of hp1, (by rfl), _, rfl, p, _, _, _, rfl, rfl, SqT.of hp1, (by rfl), _, rfl, p, _, _, _, rfl, rfl, SqT.of hp1, (by rfl), t, a, m, j, rfl, hl, by omega, ho.1.1, ho.1.2, ho.2.1, ho.2.2, fun H2 s2 => ?_⟩
      have s12 := Same.trans s1 s2
      have zl : ∀ u, pastR t a m j = some u → u.length ≤ 12000 := zl
      have fin : ∀ H2 u, Same H H2 → pastR t a m j = some u → (if decide ((4000 : Int) < (u.length : Int)) = true then Q .non H2 else Q (.str (S u)) H2) := fin
      have no0 : ∀ H2, Same H H2 → pastR t a m j = none → Q .non H2 := no0
      cases hr2 : pastR t a m j with
      | none => exact ⟨_, rfl, rfl, _, rfl, iteT (no0 H2 s12 hr2)⟩
      | some u =>
        have zu := zl u hr2
        have fin := fin H2 u s12 hr2
        refine ⟨_, rfl, rfl, _, rfl, iteF ⟨_, rfl, _, rfl, sz_of' (by rw [len_S]; omega), _, _, rfl, rfl, _, rfl, ?_⟩⟩
        rw [len_S]
        cases hb : decide ((4000 : Int) < (u.length : Int)) with
        | true =>
          rw [hb] at fin
          exact iteT fin
        | false =>
          rw [hb] at fin
          exact iteF ⟨_, rfl, fin⟩
theorem sc_NoStep___init__ : FnScope ["self", "number"] ["self", "number"] (defScope s_NoStep___init__) := ⟨rfl, rfl, rfl, by decide +kernel, rfl, by decide +kernel, by decide +kernel⟩
theorem ok_NoStep___init__ {f : Addr} {fd : FuncData} (F : Fun K "__init__" "NoStep.__init__" s_NoStep___init__ f fd) (T : Txt K mg w D_CONTRARY D_NUMBERS D_STEPS C_Canon C_NoRow C_NoStep C_Walk C_World) : FnOk P w K mg base CX0 1 f fd ["self", "number"] (sp_NoStep___init__ C_NoStep) := by
  refine F.ok sc_NoStep___init__ (fun vs H Q E h => ?_) (fun cdv A outer s H vs Q E hr h => ?_)
  · obtain ⟨a, v, rfl, _⟩ := h
    all_goals rfl
  · obtain ⟨a, v, rfl, ha, k⟩ := h
    refine ⟨_, (pss_cons (ps_expr (pe_xi (B := "LookupError") (ni := "LookupError.__new__") (ii := "LookupError.__init__") (bm := [.type "LookupError", .type "Exception", .type "BaseException", .type "object"]) rfl T.b_LookupError (by rfl) (by decide) (by decide) (by kernel_rfl) T.v_LookupError (pa_cons (pv 0) (pa_cons pe_str pa_nil))))
    (pss_one (ps_xs (B := "LookupError") (ni := "LookupError.__new__") (ii := "LookupError.__init__") (bm := [.type "LookupError", .type "Exception", .type "BaseException", .type "object"]) (pv 0) (pv 1)))), ?_⟩
    refine ⟨_, rfl, a, C_NoStep, [_], rfl, (by show 1 ≤ 1000; decide), T.x_NoStep.xi, ha, ?_⟩
    exact ⟨_, rfl, _, rfl, a, C_NoStep, rfl, T.x_NoStep.xi, taker_none T.y_NoStep_number, .inl ⟨ha, fun d hd ne => k d hd ne⟩⟩
theorem sc_led_on : FnScope ["row", "steps", "here", "number", "step", "found"] ["row", "steps"] (defScope s_led_on) := ⟨rfl, rfl, rfl, by decide +kernel, rfl, by decide +kernel, by decide +kernel⟩
theorem ok_led_on {f : Addr} {fd : FuncData} (F : Fun K "led_on" "led_on" s_led_on f fd) (T : Txt K mg w D_CONTRARY D_NUMBERS D_STEPS C_Canon C_NoRow C_NoStep C_Walk C_World) (kn_look_at_long_row : KN P w K mg base (L2.CX P w) 3 ["thing"] (sp_look_at_long_row C_NoRow) "look_at_long_row" []) (kn_done : KN P w K mg base CX0 4 ["text", "step"] (sp_done K) "done" []) (kn_NoStep___init__ : KM P w K mg base CX0 1 ["self", "number"] (sp_NoStep___init__ C_NoStep) C_NoStep "__init__" []) : FnOk P w K mg base (L2.CX P w) 5 f fd ["row", "steps"] (sp_led_on K C_NoStep C_NoRow) := by
  obtain ⟨f_look_at_long_row, fd_look_at_long_row, ds_look_at_long_row, m_look_at_long_row, k_look_at_long_row, v_look_at_long_row, b_look_at_long_row, G_look_at_long_row⟩ := kn_look_at_long_row
  obtain ⟨f_done, fd_done, ds_done, m_done, k_done, v_done, b_done, G_done⟩ := kn_done
  obtain ⟨f_NoStep___init__, fd_NoStep___init__, ds_NoStep___init__, i_NoStep___init__, t_NoStep___init__, fn_NoStep___init__, k_NoStep___init__, v_NoStep___init__, b_NoStep___init__, G_NoStep___init__⟩ := kn_NoStep___init__
  refine F.okX sc_led_on (fun vs H Q E h => ?_) (fun cdv A outer s H vs Q E hr h => ?_)
  · obtain ⟨y, r, q, xs, os, rfl, _⟩ := h
    all_goals rfl
  · obtain ⟨y, r, q, xs, os, rfl, hy, hq, hx, k⟩ := h
    refine ⟨_, (pss_cons (ps_expr (pe_call G_look_at_long_row (hr.mono (by decide)) rfl m_look_at_long_row k_look_at_long_row b_look_at_long_row v_look_at_long_row (passes_call (E := E) (takes_of rfl rfl rfl rfl) (fun _ _ _ _ h => h)) (pa_cons (pv 0) pa_nil)))
    (pss_cons (ps_set (i := 2) sc_led_on.nd rfl (Or.inl rfl) (pv 0))
    (pss_cons (ps_for (passes_of rfl) rfl (pi_enum (by rfl) T.b_enumerate (pa_cons (pv 1) pa_nil)) (pg_tup rfl (pgs_cons (pg_name (i := 3) sc_led_on.nd rfl (Or.inl rfl)) (pgs_cons (pg_name (i := 4) sc_led_on.nd rfl (Or.inl rfl)) pgs_nil))) (pss_cons (ps_set (i := 5) sc_led_on.nd rfl (Or.inl rfl) (pe_call G_done (hr.mono (by decide)) rfl m_done k_done b_done v_done pass0 (pa_cons (pv 2) (pa_cons (pv 4) pa_nil))))
    (pss_cons (ps_if (pt_cmpR op_isN (pv 5) pe_non (nomark _)) (pss_one (ps_raise rfl (takes_of rfl rfl rfl rfl) (pmk_xi T.x_NoStep.xi i_NoStep___init__ t_NoStep___init__ G_NoStep___init__ (hr.mono (by decide)) b_NoStep___init__ v_NoStep___init__ pass0 rfl T.x_NoStep.gC (pa_cons (pv 3) pa_nil)))) pss_nil)
    (pss_one (ps_set (i := 2) sc_led_on.nd rfl (Or.inl rfl) (pv 5))))))
    (pss_one (ps_ret (pv 2)))))), ?_⟩
    obtain ⟨k1, k2, k3⟩ := k
    refine ⟨_, rfl, y, r, rfl, hy, fun hr H1 s1 => ?_, fun hr H1 s1 => k3 hr H1 s1⟩
    subst hr
    obtain ⟨t, rfl, rt, zt⟩ := longW_true hy
    have hq1 := s1 _ _ hq
    have hx1 := hx.same s1
    refine ⟨_, rfl, ?_⟩
    refine ⟨_, rfl, q, _, rfl, SqL.of hq1, for_it walk_enum (fun i σ H' => ∃ (u : List Nat) (x3 x4 x5 : Option V), σ = [some (.str (S t)), some (.ref q), some (.str (S u)), x3, x4, x5] ∧ Same H1 H' ∧ doXL t (os.take i) = some u ∧ Row u ∧ u.length ≤ 4000) ⟨t, _, _, _, rfl, Same.refl _, rfl, rt, zt⟩ (fun _ _ _ _ ⟨_, _, _, _, _, s, _⟩ => SqL.of (s _ _ hq1)) ?_ ?_⟩
    rotate_left
    · rintro σ H2 ⟨u, x3, x4, x5, rfl, s2, e, _, _⟩
      rw [hx.len, List.take_length] at e
      exact ⟨_, rfl, k1 t u rfl rt zt e H2 (Same.trans s1 s2)⟩
    rintro i v σ H2 H3 hi ⟨u, x3, x4, x5, rfl, s2, e, ru, zu⟩ ⟨c, x, y, rfl, nc, rfl, ex, ey⟩
    injection ex with ex
    subst ex
    obtain ⟨o, ho, tg⟩ := hx1.get ey
    have sc := Same.new (o := .tup [.int (i : Nat), y]) nc
    refine ⟨c, [_, _], rfl, SqT.of upd_same, rfl, _, _, rfl, _, _, rfl, rfl, ?_⟩
    refine ⟨_, rfl, _, rfl, u, y, o, rfl, ru, zu, tg.same (Same.trans s2 sc), fun H4 s4 => ?_⟩
    have s5 := Same.trans s2 (Same.trans sc s4)
    cases hd : doX u o with
    | none =>
      refine ⟨_, rfl, rfl, _, rfl, iteT ?_⟩
      obtain ⟨b1, b2⟩ := doXL_bad e ho hd
      exact ⟨_, rfl, (by show 1 ≤ 1000; decide), fun x hx => ⟨x, .int (i : Nat), rfl, upd_same, fun d hd ne => madeF hx (fun d' H' s' h' => k2 t rfl rt zt b1 d' H' (Same.trans s1 (Same.trans s5 s')) (by rw [b2]; exact h')) d hd ne⟩⟩
    | some z =>
      obtain ⟨rz, zz⟩ := doX_row ru hd
      refine ⟨_, rfl, rfl, _, rfl, iteF ⟨_, rfl, z, _, _, _, rfl, s5, ?_, rz, zz⟩⟩
      rw [take_oneS ho, doXL_snoc, e]
      exact hd
theorem sc_is_chain : FnScope ["one", "other", "thing", "found"] ["one", "other", "thing"] (defScope s_is_chain) := ⟨rfl, rfl, rfl, by decide +kernel, rfl, by decide +kernel, by decide +kernel⟩
theorem ok_is_chain {f : Addr} {fd : FuncData} (F : Fun K "is_chain" "is_chain" s_is_chain f fd) (T : Txt K mg w D_CONTRARY D_NUMBERS D_STEPS C_Canon C_NoRow C_NoStep C_Walk C_World) (kn_look_at_row : KN P w K mg base CX0 3 ["thing"] (sp_look_at_row) "look_at_row" []) (kn_led_on : KN P w K mg base (L2.CX P w) 5 ["row", "steps"] (sp_led_on K C_NoStep C_NoRow) "led_on" []) : FnOk P w K mg base CX0 6 f fd ["one", "other", "thing"] (sp_is_chain K C_NoStep C_NoRow) := by
  obtain ⟨f_look_at_row, fd_look_at_row, ds_look_at_row, m_look_at_row, k_look_at_row, v_look_at_row, b_look_at_row, G_look_at_row⟩ := kn_look_at_row
  obtain ⟨f_led_on, fd_led_on, ds_led_on, m_led_on, k_led_on, v_led_on, b_led_on, G_led_on⟩ := kn_led_on
  refine F.ok sc_is_chain (fun vs H Q E h => ?_) (fun cdv A outer s H vs Q E hr h => ?_)
  · obtain ⟨l, m, q, xs, os, rfl, _⟩ := h
    all_goals rfl
  · obtain ⟨l, m, q, xs, os, rfl, hl, hm, hq, hx, k⟩ := h
    refine ⟨_, (pss_cons (ps_expr (pe_call G_look_at_row (hr.mono (by decide)) rfl m_look_at_row k_look_at_row b_look_at_row v_look_at_row pass0 (pa_cons (pv 0) pa_nil)))
    (pss_cons (ps_expr (pe_call G_look_at_row (hr.mono (by decide)) rfl m_look_at_row k_look_at_row b_look_at_row v_look_at_row pass0 (pa_cons (pv 1) pa_nil)))
    (pss_cons (ps_if (pt_not (pt_val (pe_callB (call_isiK1 (K := K)) (by rfl) T.b_isinstance (by decide +kernel) (pa_cons (pv 2) (pa_cons (pe_bltn (v := .ty "list") (by rfl) T.b_list (by decide +kernel) rfl) pa_nil))))) (pss_one (ps_ret pe_bl)) pss_nil)
    (pss_cons (ps_try_only rfl rfl ⟨rfl, by decide, Or.inl T.x_NoStep.gC⟩ takes0
    (fun W pn xe tk po => (pss_one (ps_set (i := 3) sc_is_chain.nd rfl (Or.inl rfl) (pe_callSD G_led_on (hr.mono (by decide)) rfl m_led_on k_led_on b_led_on v_led_on (fun σ => passAt tk σ) (by exact (pa_cons (pv 0) (pa_cons (pv 2) pa_nil)))))))
    (fun a oe cls d pn hz hf => (pss_one (ps_ret pe_bl))))
    (pss_one (ps_ret (pe_cmpR op_eq (pv 3) (pv 1) (nomark _)))))))), ?_⟩
    obtain ⟨zl, rl⟩ := isRow_iff.mp hl
    refine ⟨_, rfl, l, rfl, hl, fun H1 s1 => ⟨_, rfl, m, rfl, hm, fun H2 s2 => ?_⟩⟩
    have s12 := Same.trans s1 s2
    have hq2 := s12 _ _ hq
    refine ⟨_, rfl, _, _, _, _, true, rfl, .ty "list", .base (.lst hq2), kit_ty (r := true) (by decide +kernel), true, rfl, iteF ?_⟩
    have hw := long_true (H := H2) rl (by omega)
    rw [decide_eq_true (by omega : l.length ≤ 4000)] at hw
    refine ⟨_, rfl, _, rfl, .str (S l), true, q, xs, os, rfl, hw, hq2, hx.same s12, fun t u e rt zt hu H3 s3 => ?_, fun t e rt zt hn d H3 s3 hd => ⟨true, T.x_NoStep.te, fun _ a _ => ?_, fun q => nomatch q⟩, (fun hr => nomatch hr)⟩
    · obtain rfl := sT_of e
      refine ⟨_, rfl, _, rfl, rfl, ?_⟩
      have k := k H3 (Same.trans s12 s3)
      rw [hu] at k
      rw [show decide (V.str (S u) = V.str (S m)) = decide (some u = some m) from (dec_S u m).trans (decide_eq_decide.mpr ⟨fun h => by rw [h], fun h => by injection h⟩)]
      exact k
    · obtain rfl := sT_of e
      have k := k H3 (Same.trans s12 s3)
      rw [hn] at k
      exact k
theorem sc_law_back : FnScope ["_law_step"] ["_law_step"] (defScope s_law_back) := ⟨rfl, rfl, rfl, by decide +kernel, rfl, by decide +kernel, by decide +kernel⟩
theorem ok_law_back {f : Addr} {fd : FuncData} (F : Fun K "_law_back" "_law_back" s_law_back f fd) (T : Txt K mg w D_CONTRARY D_NUMBERS D_STEPS C_Canon C_NoRow C_NoStep C_Walk C_World) : FnOk P w K mg base CX0 1 f fd ["_law_step"] (sp_law_back K) := by
  refine F.ok sc_law_back (fun vs H Q E h => ?_) (fun cdv A outer s H vs Q E hr h => ?_)
  · obtain ⟨p, st, rfl, _⟩ := h
    all_goals rfl
  · obtain ⟨p, st, rfl, hp, k⟩ := h
    refine ⟨_, (pss_cons (ps_if (pt_cmpR op_eq (pe_ix (ix_tupK (K := K)) (pv 0) pe_int (fun _ _ => rfl)) pe_str (nomark _)) (pss_one (ps_ret (pe_tup (pa_cons pe_str (pa_cons (pe_ix (ix_tupK (K := K)) (pv 0) pe_int (fun _ _ => rfl)) (pa_cons (pe_ix (ix_tupK (K := K)) (pv 0) pe_int (fun _ _ => rfl)) (pa_cons (pe_ix (ix_tupK (K := K)) (pv 0) pe_int (fun _ _ => rfl)) pa_nil))))))) pss_nil)
    (pss_one (ps_ret (pe_lst (pa_cons (pe_ix (ix_listK (K := K)) (pe_lst (pa_cons pe_str (pa_cons pe_str pa_nil))) (pe_callTy call_int1 (by rfl) T.b_int (by decide +kernel) (pa_cons (pe_cmpR op_eq (pe_ix (ix_tupK (K := K)) (pv 0) pe_int (fun _ _ => rfl)) pe_str (nomark _)) pa_nil)) (fun _ _ => rfl)) (pa_cons (pe_ix (ix_tupK (K := K)) (pv 0) pe_int (fun _ _ => rfl)) (pa_cons (pe_ix (ix_tupK (K := K)) (pv 0) pe_int (fun _ _ => rfl)) pa_nil))))))), ?_⟩
    cases st with
    | past a m j =>
      have hp : H p = some (.tup [.str (Str.ofString "past"), .int (a : Int), .int (m : Int), .int (j : Int)]) := hp
      refine ⟨_, rfl, p, _, _, _, rfl, rfl, SqT.of hp, atI0, rfl, _, rfl, ?_⟩
      rw [decide_eq_true rfl]
      refine iteT ⟨_, rfl, p, _, _, _, rfl, rfl, SqT.of hp, atI1, _, rfl, p, _, _, _, rfl, rfl, SqT.of hp, atI_nat (j := 3) rfl, _, rfl, p, _, _, _, rfl, rfl, SqT.of hp, atI_nat (j := 2) rfl, (by show 4 ≤ sizeLine; decide), fun q hq => ?_⟩
      exact k q _ (Same.new hq) (.inl upd_same)
    | less a m =>
      have hp : H p = some (.tup [.str (Str.ofString "less"), .int (a : Int), .int (m : Int)]) := hp
      refine ⟨_, rfl, p, _, _, _, rfl, rfl, SqT.of hp, atI0, rfl, _, rfl, ?_⟩
      rw [decide_eq_false (fun h => by injection h with h; revert h; decide)]
      refine iteF ⟨(by show 2 ≤ sizeLine; decide), fun A hA => ?_⟩
      have sA := Same.new (o := .lst [V.str (Str.ofString "more"), V.str (Str.ofString "less")]) hA
      refine ⟨_, rfl, p, _, _, _, rfl, rfl, SqT.of (sA _ _ hp), atI0, rfl, .inr ⟨_, rfl, A, _, _, V.str (Str.ofString "more"), rfl, rfl, SqL.of upd_same, (by rfl), _, rfl, p, _, _, _, rfl, rfl, SqT.of (sA _ _ hp), atI1, _, rfl, p, _, _, _, rfl, rfl, SqT.of (sA _ _ hp), atI_nat (j := 2) rfl, (by show 3 ≤ sizeLine; decide), fun q hq => ?_⟩⟩
      exact k q _ (Same.trans sA (Same.new hq)) (.inr upd_same)
    | more a m =>
      have hp : H p = some (.tup [.str (Str.ofString "more"), .int (a : Int), .int (m : Int)]) := hp
      refine ⟨_, rfl, p, _, _, _, rfl, rfl, SqT.of hp, atI0, rfl, _, rfl, ?_⟩
      rw [decide_eq_false (fun h => by injection h with h; revert h; decide)]
      refine iteF ⟨(by show 2 ≤ sizeLine; decide), fun A hA => ?_⟩
      have sA := Same.new (o := .lst [V.str (Str.ofString "more"), V.str (Str.ofString "less")]) hA
      refine ⟨_, rfl, p, _, _, _, rfl, rfl, SqT.of (sA _ _ hp), atI0, rfl, .inr ⟨_, rfl, A, _, _, V.str (Str.ofString "less"), rfl, rfl, SqL.of upd_same, (by rfl), _, rfl, p, _, _, _, rfl, rfl, SqT.of (sA _ _ hp), atI1, _, rfl, p, _, _, _, rfl, rfl, SqT.of (sA _ _ hp), atI_nat (j := 2) rfl, (by show 3 ≤ sizeLine; decide), fun q hq => ?_⟩⟩
      exact k q _ (Same.trans sA (Same.new hq)) (.inr upd_same)
theorem sc_law : FnScope ["_law_script", "_law_k", "_law_pool_here", "_law_deeds", "_law_one", "_law_other_here", "_law_steps", "_law_world", "_law_at", "_law_back_here", "_law_turn", "_law_third", "_law_step"] ["_law_script"] (defScope s_law) := ⟨rfl, rfl, rfl, by decide +kernel, rfl, by decide +kernel, by decide +kernel⟩
theorem ok_law {f : Addr} {fd : FuncData} (F : Fun K "law" "law" s_law f fd) (T : Txt K mg w D_CONTRARY D_NUMBERS D_STEPS C_Canon C_NoRow C_NoStep C_Walk C_World) (kn_law_pool : KN P w K mg base CX0 1 ["_law_script", "_law_k"] (sp_law_pool K) "_law_pool" []) (kn_law_take : KN P w K mg base CX0 1 ["_law_pool_here", "_law_many"] (sp_law_take) "_law_take" []) (kn_law_row : KN P w K mg base CX0 2 ["_law_pool_here", "_law_most", "_law_deeds"] (sp_law_row) "_law_row" []) (kn_law_other : KN P w K mg base CX0 3 ["_law_pool_here", "_law_row_here", "_law_deeds"] (sp_law_other K) "_law_other" []) (kn_chain : KN P w K mg base CX0 9 ["one", "other"] (sp_chain K C_Canon C_Walk) "chain" []) (kn_unlike : KN P w K mg base CX0 9 ["one", "other"] (sp_unlike K C_Walk C_World) "unlike" []) (kn_same : KN P w K mg base CX0 8 ["one", "other"] (sp_same K C_Walk) "same" []) (kn_tells_unlike : KN P w K mg base CX0 5 ["one", "other", "thing"] (sp_tells_unlike K C_World) "tells_unlike" []) (kn_is_chain : KN P w K mg base CX0 6 ["one", "other", "thing"] (sp_is_chain K C_NoStep C_NoRow) "is_chain" []) (kn_led_on : KN P w K mg base (L2.CX P w) 5 ["row", "steps"] (sp_led_on K C_NoStep C_NoRow) "led_on" []) (kn_law_back : KN P w K mg base CX0 1 ["_law_step"] (sp_law_back K) "_law_back" []) : FnOk P w K mg base CX0 10 f fd ["_law_script"] (sp_law K) := by
  obtain ⟨f_law_pool, fd_law_pool, ds_law_pool, m_law_pool, k_law_pool, v_law_pool, b_law_pool, G_law_pool⟩ := kn_law_pool
  obtain ⟨f_law_take, fd_law_take, ds_law_take, m_law_take, k_law_take, v_law_take, b_law_take, G_law_take⟩ := kn_law_take
  obtain ⟨f_law_row, fd_law_row, ds_law_row, m_law_row, k_law_row, v_law_row, b_law_row, G_law_row⟩ := kn_law_row
  obtain ⟨f_law_other, fd_law_other, ds_law_other, m_law_other, k_law_other, v_law_other, b_law_other, G_law_other⟩ := kn_law_other
  obtain ⟨f_chain, fd_chain, ds_chain, m_chain, k_chain, v_chain, b_chain, G_chain⟩ := kn_chain
  obtain ⟨f_unlike, fd_unlike, ds_unlike, m_unlike, k_unlike, v_unlike, b_unlike, G_unlike⟩ := kn_unlike
  obtain ⟨f_same, fd_same, ds_same, m_same, k_same, v_same, b_same, G_same⟩ := kn_same
  obtain ⟨f_tells_unlike, fd_tells_unlike, ds_tells_unlike, m_tells_unlike, k_tells_unlike, v_tells_unlike, b_tells_unlike, G_tells_unlike⟩ := kn_tells_unlike
  obtain ⟨f_is_chain, fd_is_chain, ds_is_chain, m_is_chain, k_is_chain, v_is_chain, b_is_chain, G_is_chain⟩ := kn_is_chain
  obtain ⟨f_led_on, fd_led_on, ds_led_on, m_led_on, k_led_on, v_led_on, b_led_on, G_led_on⟩ := kn_led_on
  obtain ⟨f_law_back, fd_law_back, ds_law_back, m_law_back, k_law_back, v_law_back, b_law_back, G_law_back⟩ := kn_law_back
  refine F.ok sc_law (fun vs H Q E h => ?_) (fun cdv A outer s H vs Q E hr h => ?_)
  · obtain ⟨a, ns, rfl, _⟩ := h
    all_goals rfl
  · obtain ⟨a, ns, rfl, hS, hlen, k⟩ := h
    refine ⟨_, (pss_cons (ps_for PassesOwn.never rfl (pi_range1 (by rfl) T.b_range (pa_cons (pe_callB (call_max2 rfl) (by rfl) T.b_max (by decide +kernel) (pa_cons pe_int (pa_cons (pe_callB (call_min2 rfl) (by rfl) T.b_min (by decide +kernel) (pa_cons (pe_callB (call_lenK (K := K)) (by rfl) T.b_len (by decide +kernel) (pa_cons (pv 0) pa_nil)) (pa_cons pe_int pa_nil))) pa_nil))) pa_nil)) (pg_name (i := 1) sc_law.nd rfl (Or.inl rfl)) (pss_cons (ps_set (i := 2) sc_law.nd rfl (Or.inl rfl) (pe_call G_law_pool (hr.mono (by decide)) rfl m_law_pool k_law_pool b_law_pool v_law_pool pass0 (pa_cons (pv 0) (pa_cons (pv 1) pa_nil))))
    (pss_cons (ps_set (i := 3) sc_law.nd rfl (Or.inl rfl) (pe_op op_add pe_int (pe_call G_law_take (hr.mono (by decide)) rfl m_law_take k_law_take b_law_take v_law_take pass0 (pa_cons (pv 2) (pa_cons pe_int pa_nil)))))
    (pss_cons (ps_set (i := 4) sc_law.nd rfl (Or.inl rfl) (pe_call G_law_row (hr.mono (by decide)) rfl m_law_row k_law_row b_law_row v_law_row pass0 (pa_cons (pv 2) (pa_cons pe_int (pa_cons (pv 3) pa_nil)))))
    (pss_cons (ps_set (i := 5) sc_law.nd rfl (Or.inl rfl) (pe_call G_law_other (hr.mono (by decide)) rfl m_law_other k_law_other b_law_other v_law_other pass0 (pa_cons (pv 2) (pa_cons (pv 4) (pa_cons (pv 3) pa_nil)))))
    (pss_cons (ps_set (i := 6) sc_law.nd rfl (Or.inl rfl) (pe_call G_chain (hr.mono (by decide)) rfl m_chain k_chain b_chain v_chain pass0 (pa_cons (pv 4) (pa_cons (pv 5) pa_nil))))
    (pss_cons (ps_set (i := 7) sc_law.nd rfl (Or.inl rfl) (pe_call G_unlike (hr.mono (by decide)) rfl m_unlike k_unlike b_unlike v_unlike pass0 (pa_cons (pv 4) (pa_cons (pv 5) pa_nil))))
    (pss_cons (ps_if (PW.pt (pw_or (pt_cmpR op_eq (pe_cmpR op_isN (pv 6) pe_non (nomark _)) (pe_cmpR op_isN (pv 7) pe_non (nomark _)) (nomark _)) (pw_or1 (pt_cmpR op_ne (pe_call G_same (hr.mono (by decide)) rfl m_same k_same b_same v_same pass0 (pa_cons (pv 4) (pa_cons (pv 5) pa_nil))) (pe_cmpR op_isN (pv 7) pe_non (nomark _)) (nomark _))))) (pss_one (ps_ret pe_bl)) pss_nil)
    (pss_cons (ps_if (PW.pt (pw_and (pt_cmpR op_notN (pv 7) pe_non (nomark _)) (pw_and1 (pt_not (pt_val (pe_call G_tells_unlike (hr.mono (by decide)) rfl m_tells_unlike k_tells_unlike b_tells_unlike v_tells_unlike pass0 (pa_cons (pv 4) (pa_cons (pv 5) (pa_cons (pv 7) pa_nil))))))))) (pss_one (ps_ret pe_bl)) pss_nil)
    (pss_one (ps_if (pt_cmpR op_notN (pv 6) pe_non (nomark _)) (pss_cons (ps_set (i := 8) sc_law.nd rfl (Or.inl rfl) (pe_call G_law_take (hr.mono (by decide)) rfl m_law_take k_law_take b_law_take v_law_take pass0 (pa_cons (pv 2) (pa_cons (pe_op op_add (pe_callB (call_lenK (K := K)) (by rfl) T.b_len (by decide +kernel) (pa_cons (pv 6) pa_nil)) pe_int) pa_nil))))
    (pss_cons (ps_if (PW.pt (pw_or (pt_not (pt_val (pe_call G_is_chain (hr.mono (by decide)) rfl m_is_chain k_is_chain b_is_chain v_is_chain pass0 (pa_cons (pv 4) (pa_cons (pv 5) (pa_cons (pv 6) pa_nil)))))) (pw_or1 (pt_cmpR op_ne (pe_call G_led_on (hr.mono (by decide)) rfl m_led_on k_led_on b_led_on v_led_on passL (pa_cons (pe_call G_led_on (hr.mono (by decide)) rfl m_led_on k_led_on b_led_on v_led_on passL (pa_cons (pv 4) (pa_cons (pe_slice (sl_listK (K := K)) (pv 6) po_none (po_some (pv 8))) pa_nil))) (pa_cons (pe_slice (sl_listK (K := K)) (pv 6) (po_some (pv 8)) po_none) pa_nil))) (pv 5) (nomark _))))) (pss_one (ps_ret pe_bl)) pss_nil)
    (pss_cons (ps_setLc (i := 9) (own := [("_law_step", 12)]) (g := gName 12) (tt := tYes) rfl sc_law.nd rfl rfl (sw_true rfl rfl rfl (by decide +kernel)) (pi_list (pe_revL (pv 6))) (blkOk_by (own := [("_law_step", 12)]) (N := ["_law_script", "_law_k", "_law_pool_here", "_law_deeds", "_law_one", "_law_other_here", "_law_steps", "_law_world", "_law_at", "_law_back_here", "_law_turn", "_law_third", "_law_step"]) (sc := defScope s_law) (by decide +kernel)) (fun _ _ _ _ _ => (pg_name (i := 12) sc_law.nd rfl (Or.inl rfl))) (fun _ _ _ _ _ => pts_nil) (fun _ _ _ _ _ => (pe_callTy (call_tupleA (K := K)) (by rfl) T.b_tuple (by decide +kernel) (pa_cons (pe_call G_law_back (hr.mono (by decide)) rfl m_law_back k_law_back b_law_back v_law_back pass0 (pa_cons (pv 12) pa_nil)) pa_nil))))
    (pss_cons (ps_if (PW.pt (pw_or (pt_not (pt_val (pe_call G_is_chain (hr.mono (by decide)) rfl m_is_chain k_is_chain b_is_chain v_is_chain pass0 (pa_cons (pv 5) (pa_cons (pv 4) (pa_cons (pv 9) pa_nil)))))) (pw_or1 (pt_cmpR op_ne (pe_call G_led_on (hr.mono (by decide)) rfl m_led_on k_led_on b_led_on v_led_on passL (pa_cons (pv 5) (pa_cons (pv 9) pa_nil))) (pv 4) (nomark _))))) (pss_one (ps_ret pe_bl)) pss_nil)
    (pss_one (ps_for PassesOwn.never rfl (pi_range1 (by rfl) T.b_range (pa_cons pe_int pa_nil)) (pg_name (i := 10) sc_law.nd rfl (Or.inl rfl)) (pss_cons (ps_set (i := 11) sc_law.nd rfl (Or.inl rfl) (pe_call G_unlike (hr.mono (by decide)) rfl m_unlike k_unlike b_unlike v_unlike pass0 (pa_cons (pv 4) (pa_cons (pe_call G_law_other (hr.mono (by decide)) rfl m_law_other k_law_other b_law_other v_law_other pass0 (pa_cons (pv 2) (pa_cons (pv 4) (pa_cons (pv 3) pa_nil)))) pa_nil))))
    (pss_one (ps_if (PW.pt (pw_and (pt_cmpR op_notN (pv 11) pe_non (nomark _)) (pw_and1 (pt_val (pe_call G_tells_unlike (hr.mono (by decide)) rfl m_tells_unlike k_tells_unlike b_tells_unlike v_tells_unlike pass0 (pa_cons (pv 4) (pa_cons (pv 5) (pa_cons (pv 11) pa_nil)))))))) (pss_one (ps_ret pe_bl)) pss_nil))))))))) pss_nil)))))))))))
    (pss_one (ps_ret pe_bl))), ?_⟩
    have tn := turns_ok (ns.map V.int).length 8 (by decide)
    refine ⟨_, rfl, _, _, rfl, .inl hS, _, _, rfl, _, _, rfl, _, rfl, by omega, by omega, for_range (lo := 0) (n := _) (fun i σ H' => ∃ x1 x2 x3 x4 x5 x6 x7 x8 x9 x10 x11 x12, σ = [some (.ref a), x1, x2, x3, x4, x5, x6, x7, x8, x9, x10, x11, x12] ∧ Same H H')
      ⟨none, none, none, none, none, none, none, none, none, none, none, none, rfl, Same.refl H⟩ ?_ ?_⟩
    rotate_left
    · rintro σ H1 ⟨x1, x2, x3, x4, x5, x6, x7, x8, x9, x10, x11, x12, rfl, s1⟩
      exact k _
    rintro i σ H1 hi ⟨x1, x2, x3, x4, x5, x6, x7, x8, x9, x10, x11, x12, rfl, s1⟩
    refine ⟨_, rfl, _, rfl, a, ns, _, rfl, s1.seq hS, by omega, by omega, fun p H2 np s2 hp => ?_⟩
    have hpn : H p = none := Same.free s1 np
    have sH := Same.trans s1 s2
    refine ⟨_, rfl, p, 3, rfl, hp, by decide, by decide, fun dv H3 d0 d1 o3 p3 => ⟨_, _, rfl, rfl, ?_⟩⟩
    refine ⟨_, rfl, _, rfl, p, 16, 1 + dv, rfl, p3, by decide, by decide, by omega, by omega, fun l H4 rl zl _ o4 p4 => ?_⟩
    refine ⟨_, rfl, _, rfl, _, rfl, p, l, 1 + dv, rfl, p4, rl, by omega, by omega, by omega, fun m H5 rm zm o5 p5 => ?_⟩
    have sH := Off.same hpn (Off.same hpn (Off.same hpn sH o3) o4) o5
    have zl : l.length ≤ 60 := by omega
    have il := isRow_of rl zl
    have im := isRow_of rm zm
    cases a1 : sameR l m with
    | false =>
      refine ⟨_, rfl, _, rfl, l, m, rfl, il, im, fun _ H6 s6 => ?_, fun h => by rw [a1] at h; cases h⟩
      refine ⟨_, rfl, _, rfl, l, m, rfl, il, im, (fun h => by rw [a1] at h; cases h), fun _ t b dw x kvs H7 s7 nt nb ndw gt hx ws hk ht hz => ?_⟩
      have zx : (gone x).length ≤ 61 ∧ 0 < (gone x).length := by
        have h1 := WalkM.gone_length x
        have h2 := WalkM.gone_pos x
        rcases hx with ⟨rfl, _⟩ | ⟨rfl, _⟩ <;> omega
      have hd := unlike_led rl rm zl zm a1 hx ht
      refine ⟨_, rfl, rfl, _, rfl, rfl, rfl, _, rfl, iteF ⟨_, rfl, _, rfl, l, m, rfl, il, im, fun H8 s8 => ⟨_, rfl, rfl, rfl, _, rfl, ?_⟩⟩⟩
      rw [a1]
      refine iteF ⟨_, rfl, rfl, _, rfl, iteT ⟨_, rfl, _, rfl, _, rfl, l, m, t, b, dw, _, kvs, 0, rfl, il, im, s8 _ _ gt, ws.same s8, hk, by omega, by omega, by omega, fun H9 s9 => ⟨_, rfl, ?_⟩⟩⟩
      rw [decide_eq_false hd]
      exact iteF ⟨_, rfl, rfl, _, rfl, iteF ⟨_, _, _, _, _, _, _, _, _, _, _, _, rfl, Same.trans sH (Same.trans s6 (Same.trans s7 (Same.trans s8 s9)))⟩⟩
    | true =>
      refine ⟨_, rfl, _, rfl, l, m, rfl, il, im, (fun h => by rw [a1] at h; cases h), fun _ q ts H6 s6 nq gq tl => ?_⟩
      refine ⟨_, rfl, _, rfl, l, m, rfl, il, im, (fun _ H7 s7 => ?_), fun h => by rw [a1] at h; cases h⟩
      refine ⟨_, rfl, rfl, _, rfl, rfl, rfl, _, rfl, iteF ⟨_, rfl, _, rfl, l, m, rfl, il, im, fun H8 s8 => ⟨_, rfl, rfl, rfl, _, rfl, ?_⟩⟩⟩
      rw [a1]
      refine iteF ⟨_, rfl, rfl, _, rfl, iteF (iteF ⟨_, rfl, rfl, _, rfl, iteT ?_⟩)⟩
      have s68 := Same.trans s7 s8
      have p8 := (p5.same s6).same s68
      have nqp : q ≠ p := (p5.ne nq).symm
      have gq := s68 _ _ gq
      have tl := tl.mono s68
      have sH := Same.trans sH (Same.trans s6 s68)
      obtain ⟨hok, hlen⟩ := chain_ok rl rm zl zm
      have hrun := chain_run rl rm zl zm a1
      obtain ⟨ss, ess⟩ : ∃ ss, ss = chainS l m := ⟨_, rfl⟩
      rw [← ess] at tl hok hlen hrun
      have zts : ts.length ≤ 7320 := by rw [tl.len]; exact hlen
      clear ess s68
      -- a part of it, and the rest
      refine ⟨_, rfl, _, rfl, q, _, rfl, .inl (SqL.of gq), _, _, rfl, rfl, p, _, rfl, p8, ?_, ?_, fun v H9 v0 v1 o9 p9 => ?_⟩
      · rw [List.length_map]
        omega
      · rw [List.length_map]
        omega
      obtain ⟨at_, rfl⟩ : ∃ at_ : Nat, v = (at_ : Int) := ⟨v.toNat, by omega⟩
      have sH := Off.same hpn sH o9
      have gq := o9 _ _ nqp gq
      have tl := tl.off p8 o9
      refine ⟨_, rfl, _, rfl, _, rfl, l, m, q, _, ss.map some, rfl, il, im, gq, thgL_of tl hok, fun H10 s10 => ⟨_, rfl, ?_⟩⟩
      rw [decide_eq_true (show doXL l (ss.map some) = some m from hrun)]
      have gq := s10 _ _ gq
      have tl := tl.mono s10
      have sH := Same.trans sH s10
      have p10 := p9.same s10
      obtain ⟨u, hu1, hu2⟩ := run_cut hrun at_
      obtain ⟨ru, zu⟩ := run_row rl (by omega) hu1
      refine iteF ⟨_, rfl, _, rfl, _, rfl, _, rfl, q, _, rfl, SqL.of gq, fun A hA => ?_⟩
      rw [cut_pre, ← List.map_take]
      have sA := Same.new (o := .lst ((ts.take at_).map V.ref)) hA
      have gA : (upd H10 A (.lst ((ts.take at_).map V.ref))) A = some (.lst ((ts.take at_).map V.ref)) := upd_same
      generalize upd H10 A (.lst ((ts.take at_).map V.ref)) = H11 at sA gA ⊢
      refine ⟨.str (S l), true, A, _, (ss.take at_).map some, rfl, long_yes rl (by omega), gA, thgL_of ((tl.mono sA).takeN at_) (fun s hs => hok s (List.mem_of_mem_take hs)), (fun t2 u2 e _ _ hx H12 s12 => ?_), (fun t2 e _ _ hx _ _ _ _ => ?_), (fun h => nomatch h)⟩
      rotate_left
      · obtain rfl := sT_of e
        rw [show doXL l ((ss.take at_).map some) = some u from hu1] at hx
        cases hx
      obtain rfl := sT_of e
      rw [show doXL l ((ss.take at_).map some) = some u from hu1] at hx
      injection hx with hx
      subst hx
      have s1012 := Same.trans sA s12
      refine ⟨_, rfl, _, rfl, _, rfl, q, _, rfl, SqL.of (s1012 _ _ gq), fun B hB => ?_⟩
      rw [cut_suf, ← List.map_drop]
      have sB := Same.new (o := .lst ((ts.drop at_).map V.ref)) hB
      have gB : (upd H12 B (.lst ((ts.drop at_).map V.ref))) B = some (.lst ((ts.drop at_).map V.ref)) := upd_same
      generalize upd H12 B (.lst ((ts.drop at_).map V.ref)) = H13 at sB gB ⊢
      have s1013 := Same.trans s1012 sB
      refine ⟨.str (S u), true, B, _, (ss.drop at_).map some, rfl, long_yes ru zu, gB, thgL_of ((tl.mono s1013).dropN at_) (fun s hs => hok s (List.mem_of_mem_drop hs)), (fun t2 u2 e _ _ hx H14 s14 => ?_), (fun t2 e _ _ hx _ _ _ _ => ?_), (fun h => nomatch h)⟩
      rotate_left
      · obtain rfl := sT_of e
        rw [show doXL u ((ss.drop at_).map some) = some m from hu2] at hx
        cases hx
      obtain rfl := sT_of e
      rw [show doXL u ((ss.drop at_).map some) = some m from hu2] at hx
      injection hx with hx
      subst hx
      refine ⟨_, rfl, rfl, _, rfl, iteNS rfl ?_⟩
      have s1014 := Same.trans s1013 s14
      have gq := s1014 _ _ gq
      have tl := tl.mono s1014
      have sH := Same.trans sH s1014
      have p14 := p10.same s1014
      -- turned about
      have tr := TL.rev tl
      refine ⟨_, rfl, q, _, rfl, SqL.of gq, fun r hr => ?_⟩
      rw [← List.map_reverse]
      have sr := Same.new (o := .lst (ts.reverse.map V.ref)) hr
      have gr : (upd H14 r (.lst (ts.reverse.map V.ref))) r = some (.lst (ts.reverse.map V.ref)) := upd_same
      generalize upd H14 r (.lst (ts.reverse.map V.ref)) = H15 at sr gr ⊢
      have tr := tr.mono sr
      refine ⟨r, rfl, ⟨_, SqL.of gr⟩, fun D hD => ?_⟩
      refine lc_list (K := K) (a := r) (xs := ts.reverse.map V.ref) (fun i H' => ∃ us : List Addr, H' D = some (.lst (us.map V.ref)) ∧ TL H' StepD.vals us ((ss.reverse.take i).map StepD.undo) ∧ Same H15 H' ∧ i ≤ ts.length) ⟨[], upd_same, TL.nil, Same.new hD, Nat.zero_le _⟩ (fun _ H' _ ⟨_, _, _, s, _⟩ => SqL.of (s _ _ gr)) ?_ ?_
      · rintro j v H16 hv ⟨us, gD, tu, s16, hj⟩
        rw [List.getElem?_map] at hv
        obtain ⟨pp, hpp, rfl⟩ := Option.map_eq_some_iff.mp hv
        have jl : j < ts.length := by
          have := (List.getElem?_eq_some_iff.mp hpp).1
          rwa [List.length_reverse] at this
        obtain ⟨st, hst, gp⟩ := (tr.mono s16).get j pp hpp
        have put : ∀ (w : Addr) (H17 : Hp), Same H16 H17 → H17 w = some (.tup st.undo.vals) → ∃ acc, H17 D = some (.lst acc) ∧ acc.length < sizeLine ∧ ∃ us : List Addr, (upd H17 D (.lst (acc ++ [V.ref w]))) D = some (.lst (us.map V.ref)) ∧ TL (upd H17 D (.lst (acc ++ [V.ref w]))) StepD.vals us ((ss.reverse.take (j + 1)).map StepD.undo) ∧ Same H15 (upd H17 D (.lst (acc ++ [V.ref w]))) ∧ j + 1 ≤ ts.length := fun w H17 s17 gw => by
          refine ⟨_, s17 _ _ gD, ?_, us ++ [w], ?_, ?_, fun b o hb => ?_, jl⟩
          · rw [List.length_map, tu.len, List.length_map, List.length_take]
            exact lt_size (by omega : _ ≤ 7320) (by decide)
          · rw [upd_same, List.map_append]
            rfl
          · rw [take_oneS hst, List.map_append]
            exact TL.add (s17 _ _ gD) (tu.mono s17) gw
          · rw [upd_ne (ne_of_none hb hD)]
            exact s17 _ _ (s16 _ _ hb)
        refine ⟨rfl, _, rfl, pp, st, rfl, gp, fun w H17 s17 gw => ?_⟩
        rcases gw with gw | gw
        · exact .inr ⟨w, _, rfl, SqT.of gw, put w H17 s17 gw⟩
        · exact .inl ⟨w, _, rfl, SqL.of gw, fun z hz => put z _ (Same.trans s17 (Same.new hz)) upd_same⟩
      rintro H16 ⟨us, gD, tu, s16, _⟩
      have eT : ss.reverse.take (ts.reverse.map V.ref).length = ss.reverse := by
        rw [List.length_map, List.length_reverse, tl.len, ← List.length_reverse, List.take_length]
      rw [eT] at tu
      have hback := run_undo hrun hok (by omega)
      have bok : ∀ s ∈ ss.reverse.map StepD.undo, s.ok := fun s hs => by
        obtain ⟨s', h', rfl⟩ := List.mem_map.mp hs
        exact undo_ok' (hok s' (List.mem_reverse.mp h'))
      have s1416 := Same.trans sr s16
      have sH := Same.trans sH s1416
      have p16 := p14.same s1416
      refine ⟨_, rfl, _, rfl, _, rfl, m, l, D, _, _, rfl, im, il, gD, thgL_of tu bok, fun H17 s17 => ⟨_, rfl, ?_⟩⟩
      rw [decide_eq_true (show doXL m ((ss.reverse.map StepD.undo).map some) = some l from hback)]
      refine iteF ⟨_, rfl, _, rfl, .str (S m), true, D, _, _, rfl, long_yes rm (by omega), s17 _ _ gD, thgL_of (tu.mono s17) bok, (fun t2 u2 e _ _ hx H18 s18 => ?_), (fun t2 e _ _ hx _ _ _ _ => ?_), (fun h => nomatch h)⟩
      rotate_left
      · obtain rfl := sT_of e
        rw [show doXL m ((ss.reverse.map StepD.undo).map some) = some l from hback] at hx
        cases hx
      obtain rfl := sT_of e
      rw [show doXL m ((ss.reverse.map StepD.undo).map some) = some l from hback] at hx
      injection hx with hx
      subst hx
      refine ⟨_, rfl, rfl, _, rfl, iteNS rfl ?_⟩
      have s1618 := Same.trans s17 s18
      have sH := Same.trans sH s1618
      have p18 := p16.same s1618
      -- worlds of other rows
      refine ⟨3, rfl, by decide, by decide, for_range (lo := 0) (n := _) (fun j σ H' => ∃ x10 x11 : Option V, σ = [some (.ref a), some (.int (0 + (i : Int))), some (.ref p), some (.int (1 + dv)), some (.str (S l)), some (.str (S m)), some (.ref q), some .non, some (.int (at_ : Int)), some (.ref D), x10, x11, x12] ∧ Same H H' ∧ Pool H' p)
        ⟨_, _, rfl, sH, p18⟩ ?_ ?_⟩
      rotate_left
      · rintro σ H19 ⟨x10, x11, rfl, sH, _⟩
        exact ⟨_, _, _, _, _, _, _, _, _, _, _, _, rfl, sH⟩
      rintro j σ H19 hj ⟨x10, x11, rfl, sH, p19⟩
      refine ⟨_, rfl, _, rfl, _, rfl, _, rfl, p, l, 1 + dv, rfl, p19, rl, by omega, by omega, by omega, fun m3 H20 rm3 zm3 o20 p20 => ?_⟩
      have sH := Off.same hpn sH o20
      refine ⟨l, m3, rfl, il, isRow_of rm3 zm3, (fun _ H21 s21 => ?_), fun h3 t b dw x kvs H21 s21 nt nb ndw gt hx ws hk ht hz => ?_⟩
      · exact ⟨_, rfl, rfl, _, rfl, iteF (iteF ⟨_, _, rfl, Same.trans sH s21, p20.same s21⟩)⟩
      have zx : (gone x).length ≤ 61 ∧ 0 < (gone x).length := by
        have h1 := WalkM.gone_length x
        have h2 := WalkM.gone_pos x
        rcases hx with ⟨rfl, _⟩ | ⟨rfl, _⟩ <;> omega
      refine ⟨_, rfl, rfl, _, rfl, iteT ⟨_, rfl, _, rfl, _, rfl, l, m, t, b, dw, _, kvs, 0, rfl, il, im, gt, ws, hk, by omega, by omega, by omega, fun H22 s22 => ⟨_, rfl, ?_⟩⟩⟩
      rw [decide_eq_true (ledW_same hk rl rm a1 0)]
      exact iteF ⟨_, _, rfl, Same.trans sH (Same.trans s21 s22), (p20.same s21).same s22⟩
end
theorem all_mk {l : PySem.W.OpenLaw} {w : World} {K : PySem.W.Frag} {h : Heap} {mg : Str → Option Value} {fa : Addr} (X : K.In h) (G : h.Ns mainGlobals mg) (hfa : mg "law" = some (.ref fa))
    {t_DEEDS : Tok}
    {t_MOST_LONG : Tok}
    {t_MOST_PLACES : Tok}
    {t_MOST_SIGNS : Tok}
    {t_MOST_THINGS : Tok}
    {t_SIGNS : Tok}
    {C_NoRow : Addr}
    {C_NoStep : Addr}
    {C_Canon : Addr}
    {C_Walk : Addr}
    {C_World : Addr}
    {D_CONTRARY : Addr} {es_CONTRARY : Array DictEntry} {nn_CONTRARY : Nat}
    {te_CONTRARY_less : Tok}
    {te_CONTRARY_more : Tok}
    {D_NUMBERS : Addr} {es_NUMBERS : Array DictEntry} {nn_NUMBERS : Nat}
    {te_NUMBERS_less : Tok}
    {te_NUMBERS_more : Tok}
    {te_NUMBERS_past : Tok}
    {D_STEPS : Addr} {es_STEPS : Array DictEntry} {nn_STEPS : Nat}
    {f_law_pool : Addr} {od_law_pool an_law_pool : Option Addr} {sl_law_pool : Array (Option Value)} {oc_law_pool kV_law_pool dc_law_pool pm_law_pool cd_law_pool ct_law_pool : Value}
    {f_law_take : Addr} {od_law_take an_law_take : Option Addr} {sl_law_take : Array (Option Value)} {oc_law_take kV_law_take dc_law_take pm_law_take cd_law_take ct_law_take : Value}
    {f_law_turned : Addr} {od_law_turned an_law_turned : Option Addr} {sl_law_turned : Array (Option Value)} {oc_law_turned kV_law_turned dc_law_turned pm_law_turned cd_law_turned ct_law_turned : Value}
    {f_law_row : Addr} {od_law_row an_law_row : Option Addr} {sl_law_row : Array (Option Value)} {oc_law_row kV_law_row dc_law_row pm_law_row cd_law_row ct_law_row : Value}
    {f_law_other : Addr} {od_law_other an_law_other : Option Addr} {sl_law_other : Array (Option Value)} {oc_law_other kV_law_other dc_law_other pm_law_other cd_law_other ct_law_other : Value}
    {f_is_row_within : Addr} {od_is_row_within an_is_row_within : Option Addr} {sl_is_row_within : Array (Option Value)} {oc_is_row_within kV_is_row_within dc_is_row_within pm_is_row_within cd_is_row_within ct_is_row_within : Value}
    {f_is_row : Addr} {od_is_row an_is_row : Option Addr} {sl_is_row : Array (Option Value)} {oc_is_row kV_is_row dc_is_row pm_is_row cd_is_row ct_is_row : Value}
    {f_look_at_row : Addr} {od_look_at_row an_look_at_row : Option Addr} {sl_look_at_row : Array (Option Value)} {oc_look_at_row kV_look_at_row dc_look_at_row pm_look_at_row cd_look_at_row ct_look_at_row : Value}
    {f_contrary_sign : Addr} {od_contrary_sign an_contrary_sign : Option Addr} {sl_contrary_sign : Array (Option Value)} {oc_contrary_sign kV_contrary_sign dc_contrary_sign pm_contrary_sign cd_contrary_sign ct_contrary_sign : Value}
    {f_made_plain : Addr} {od_made_plain an_made_plain : Option Addr} {sl_made_plain : Array (Option Value)} {oc_made_plain kV_made_plain dc_made_plain pm_made_plain cd_made_plain ct_made_plain : Value}
    {f_is_plain_row : Addr} {od_is_plain_row an_is_plain_row : Option Addr} {sl_is_plain_row : Array (Option Value)} {oc_is_plain_row kV_is_plain_row dc_is_plain_row pm_is_plain_row cd_is_plain_row ct_is_plain_row : Value}
    {f_first_wrong : Addr} {od_first_wrong an_first_wrong : Option Addr} {sl_first_wrong : Array (Option Value)} {oc_first_wrong kV_first_wrong dc_first_wrong pm_first_wrong cd_first_wrong ct_first_wrong : Value}
    {f_rank : Addr} {od_rank an_rank : Option Addr} {sl_rank : Array (Option Value)} {oc_rank kV_rank dc_rank pm_rank cd_rank ct_rank : Value}
    {f_Walk___init__ : Addr} {od_Walk___init__ an_Walk___init__ : Option Addr} {sl_Walk___init__ : Array (Option Value)} {oc_Walk___init__ kV_Walk___init__ dc_Walk___init__ pm_Walk___init__ cd_Walk___init__ ct_Walk___init__ : Value}
    {T_Walk___init__ : Addr} {tc_Walk___init__ : Value} {tdd_Walk___init__ : Option Addr} {tn_Walk___init__ : Nat} {ts_Walk___init__ : Array (Option Value)} {td1_Walk___init__ : Tok}
    {f_gone : Addr} {od_gone an_gone : Option Addr} {sl_gone : Array (Option Value)} {oc_gone kV_gone dc_gone pm_gone cd_gone ct_gone : Value}
    {f_walk_of : Addr} {od_walk_of an_walk_of : Option Addr} {sl_walk_of : Array (Option Value)} {oc_walk_of kV_walk_of dc_walk_of pm_walk_of cd_walk_of ct_walk_of : Value}
    {f_Walk___eq__ : Addr} {od_Walk___eq__ an_Walk___eq__ : Option Addr} {sl_Walk___eq__ : Array (Option Value)} {oc_Walk___eq__ kV_Walk___eq__ dc_Walk___eq__ pm_Walk___eq__ cd_Walk___eq__ ct_Walk___eq__ : Value}
    {f_same : Addr} {od_same an_same : Option Addr} {sl_same : Array (Option Value)} {oc_same kV_same dc_same pm_same cd_same ct_same : Value}
    {f_Canon___init__ : Addr} {od_Canon___init__ an_Canon___init__ : Option Addr} {sl_Canon___init__ : Array (Option Value)} {oc_Canon___init__ kV_Canon___init__ dc_Canon___init__ pm_Canon___init__ cd_Canon___init__ ct_Canon___init__ : Value}
    {f_Canon_at_leaf : Addr} {od_Canon_at_leaf an_Canon_at_leaf : Option Addr} {sl_Canon_at_leaf : Array (Option Value)} {oc_Canon_at_leaf kV_Canon_at_leaf dc_Canon_at_leaf pm_Canon_at_leaf cd_Canon_at_leaf ct_Canon_at_leaf : Value}
    {f_Canon_swap : Addr} {od_Canon_swap an_Canon_swap : Option Addr} {sl_Canon_swap : Array (Option Value)} {oc_Canon_swap kV_Canon_swap dc_Canon_swap pm_Canon_swap cd_Canon_swap ct_Canon_swap : Value}
    {f_Canon_to_end : Addr} {od_Canon_to_end an_Canon_to_end : Option Addr} {sl_Canon_to_end : Array (Option Value)} {oc_Canon_to_end kV_Canon_to_end dc_Canon_to_end pm_Canon_to_end cd_Canon_to_end ct_Canon_to_end : Value}
    {f_Canon_to_order : Addr} {od_Canon_to_order an_Canon_to_order : Option Addr} {sl_Canon_to_order : Array (Option Value)} {oc_Canon_to_order kV_Canon_to_order dc_Canon_to_order pm_Canon_to_order cd_Canon_to_order ct_Canon_to_order : Value}
    {f_Canon_fall : Addr} {od_Canon_fall an_Canon_fall : Option Addr} {sl_Canon_fall : Array (Option Value)} {oc_Canon_fall kV_Canon_fall dc_Canon_fall pm_Canon_fall cd_Canon_fall ct_Canon_fall : Value}
    {f_Canon_grow : Addr} {od_Canon_grow an_Canon_grow : Option Addr} {sl_Canon_grow : Array (Option Value)} {oc_Canon_grow kV_Canon_grow dc_Canon_grow pm_Canon_grow cd_Canon_grow ct_Canon_grow : Value}
    {f_Canon_go_on : Addr} {od_Canon_go_on an_Canon_go_on : Option Addr} {sl_Canon_go_on : Array (Option Value)} {oc_Canon_go_on kV_Canon_go_on dc_Canon_go_on pm_Canon_go_on cd_Canon_go_on ct_Canon_go_on : Value}
    {f_canon_steps : Addr} {od_canon_steps an_canon_steps : Option Addr} {sl_canon_steps : Array (Option Value)} {oc_canon_steps kV_canon_steps dc_canon_steps pm_canon_steps cd_canon_steps ct_canon_steps : Value}
    {f_back_step : Addr} {od_back_step an_back_step : Option Addr} {sl_back_step : Array (Option Value)} {oc_back_step kV_back_step dc_back_step pm_back_step cd_back_step ct_back_step : Value}
    {f_chain : Addr} {od_chain an_chain : Option Addr} {sl_chain : Array (Option Value)} {oc_chain kV_chain dc_chain pm_chain cd_chain ct_chain : Value}
    {f_Walk_places : Addr} {od_Walk_places an_Walk_places : Option Addr} {sl_Walk_places : Array (Option Value)} {oc_Walk_places kV_Walk_places dc_Walk_places pm_Walk_places cd_Walk_places ct_Walk_places : Value}
    {f_all_within : Addr} {od_all_within an_all_within : Option Addr} {sl_all_within : Array (Option Value)} {oc_all_within kV_all_within dc_all_within pm_all_within cd_all_within ct_all_within : Value}
    {f_is_whole : Addr} {od_is_whole an_is_whole : Option Addr} {sl_is_whole : Array (Option Value)} {oc_is_whole kV_is_whole dc_is_whole pm_is_whole cd_is_whole ct_is_whole : Value}
    {f_World___init__ : Addr} {od_World___init__ an_World___init__ : Option Addr} {sl_World___init__ : Array (Option Value)} {oc_World___init__ kV_World___init__ dc_World___init__ pm_World___init__ cd_World___init__ ct_World___init__ : Value}
    {T_World___init__ : Addr} {tc_World___init__ : Value} {tdd_World___init__ : Option Addr} {tn_World___init__ : Nat} {ts_World___init__ : Array (Option Value)} {td0_World___init__ : Tok}
    {f_World_look_at_deed : Addr} {od_World_look_at_deed an_World_look_at_deed : Option Addr} {sl_World_look_at_deed : Array (Option Value)} {oc_World_look_at_deed kV_World_look_at_deed dc_World_look_at_deed pm_World_look_at_deed cd_World_look_at_deed ct_World_look_at_deed : Value}
    {f_World_look_at_thing : Addr} {od_World_look_at_thing an_World_look_at_thing : Option Addr} {sl_World_look_at_thing : Array (Option Value)} {oc_World_look_at_thing kV_World_look_at_thing dc_World_look_at_thing pm_World_look_at_thing cd_World_look_at_thing ct_World_look_at_thing : Value}
    {f_World_lay : Addr} {od_World_lay an_World_lay : Option Addr} {sl_World_lay : Array (Option Value)} {oc_World_lay kV_World_lay dc_World_lay pm_World_lay cd_World_lay ct_World_lay : Value}
    {f_Walk_world : Addr} {od_Walk_world an_Walk_world : Option Addr} {sl_Walk_world : Array (Option Value)} {oc_Walk_world kV_Walk_world dc_Walk_world pm_Walk_world cd_Walk_world ct_Walk_world : Value}
    {f_unlike : Addr} {od_unlike an_unlike : Option Addr} {sl_unlike : Array (Option Value)} {oc_unlike kV_unlike dc_unlike pm_unlike cd_unlike ct_unlike : Value}
    {f_World___len__ : Addr} {od_World___len__ an_World___len__ : Option Addr} {sl_World___len__ : Array (Option Value)} {oc_World___len__ kV_World___len__ dc_World___len__ pm_World___len__ cd_World___len__ ct_World___len__ : Value}
    {f_World_led_on : Addr} {od_World_led_on an_World_led_on : Option Addr} {sl_World_led_on : Array (Option Value)} {oc_World_led_on kV_World_led_on dc_World_led_on pm_World_led_on cd_World_led_on ct_World_led_on : Value}
    {f_World_led : Addr} {od_World_led an_World_led : Option Addr} {sl_World_led : Array (Option Value)} {oc_World_led kV_World_led dc_World_led pm_World_led cd_World_led ct_World_led : Value}
    {f_tells_unlike : Addr} {od_tells_unlike an_tells_unlike : Option Addr} {sl_tells_unlike : Array (Option Value)} {oc_tells_unlike kV_tells_unlike dc_tells_unlike pm_tells_unlike cd_tells_unlike ct_tells_unlike : Value}
    {f_is_long_row : Addr} {od_is_long_row an_is_long_row : Option Addr} {sl_is_long_row : Array (Option Value)} {oc_is_long_row kV_is_long_row dc_is_long_row pm_is_long_row cd_is_long_row ct_is_long_row : Value}
    {f_look_at_long_row : Addr} {od_look_at_long_row an_look_at_long_row : Option Addr} {sl_look_at_long_row : Array (Option Value)} {oc_look_at_long_row kV_look_at_long_row dc_look_at_long_row pm_look_at_long_row cd_look_at_long_row ct_look_at_long_row : Value}
    {f_part_of : Addr} {od_part_of an_part_of : Option Addr} {sl_part_of : Array (Option Value)} {oc_part_of kV_part_of dc_part_of pm_part_of cd_part_of ct_part_of : Value}
    {f_turned : Addr} {od_turned an_turned : Option Addr} {sl_turned : Array (Option Value)} {oc_turned kV_turned dc_turned pm_turned cd_turned ct_turned : Value}
    {f_less_of : Addr} {od_less_of an_less_of : Option Addr} {sl_less_of : Array (Option Value)} {oc_less_of kV_less_of dc_less_of pm_less_of cd_less_of ct_less_of : Value}
    {f_more_of : Addr} {od_more_of an_more_of : Option Addr} {sl_more_of : Array (Option Value)} {oc_more_of kV_more_of dc_more_of pm_more_of cd_more_of ct_more_of : Value}
    {f_is_formed : Addr} {od_is_formed an_is_formed : Option Addr} {sl_is_formed : Array (Option Value)} {oc_is_formed kV_is_formed dc_is_formed pm_is_formed cd_is_formed ct_is_formed : Value}
    {f_past_of : Addr} {od_past_of an_past_of : Option Addr} {sl_past_of : Array (Option Value)} {oc_past_of kV_past_of dc_past_of pm_past_of cd_past_of ct_past_of : Value}
    {f_done : Addr} {od_done an_done : Option Addr} {sl_done : Array (Option Value)} {oc_done kV_done dc_done pm_done cd_done ct_done : Value}
    {f_NoStep___init__ : Addr} {od_NoStep___init__ an_NoStep___init__ : Option Addr} {sl_NoStep___init__ : Array (Option Value)} {oc_NoStep___init__ kV_NoStep___init__ dc_NoStep___init__ pm_NoStep___init__ cd_NoStep___init__ ct_NoStep___init__ : Value}
    {f_led_on : Addr} {od_led_on an_led_on : Option Addr} {sl_led_on : Array (Option Value)} {oc_led_on kV_led_on dc_led_on pm_led_on cd_led_on ct_led_on : Value}
    {f_is_chain : Addr} {od_is_chain an_is_chain : Option Addr} {sl_is_chain : Array (Option Value)} {oc_is_chain kV_is_chain dc_is_chain pm_is_chain cd_is_chain ct_is_chain : Value}
    {f_law_back : Addr} {od_law_back an_law_back : Option Addr} {sl_law_back : Array (Option Value)} {oc_law_back kV_law_back dc_law_back pm_law_back cd_law_back ct_law_back : Value}
    {f_law : Addr} {od_law an_law : Option Addr} {sl_law : Array (Option Value)} {oc_law kV_law dc_law pm_law cd_law ct_law : Value}
    (z_LookupError : PySem.W.nsIn K mainGlobals "LookupError" = some none)
    (z_all : PySem.W.nsIn K mainGlobals "all" = some none)
    (z_bool : PySem.W.nsIn K mainGlobals "bool" = some none)
    (z_enumerate : PySem.W.nsIn K mainGlobals "enumerate" = some none)
    (z_frozenset : PySem.W.nsIn K mainGlobals "frozenset" = some none)
    (z_int : PySem.W.nsIn K mainGlobals "int" = some none)
    (z_isinstance : PySem.W.nsIn K mainGlobals "isinstance" = some none)
    (z_len : PySem.W.nsIn K mainGlobals "len" = some none)
    (z_list : PySem.W.nsIn K mainGlobals "list" = some none)
    (z_max : PySem.W.nsIn K mainGlobals "max" = some none)
    (z_min : PySem.W.nsIn K mainGlobals "min" = some none)
    (z_range : PySem.W.nsIn K mainGlobals "range" = some none)
    (z_sorted : PySem.W.nsIn K mainGlobals "sorted" = some none)
    (z_str : PySem.W.nsIn K mainGlobals "str" = some none)
    (z_sum : PySem.W.nsIn K mainGlobals "sum" = some none)
    (z_tuple : PySem.W.nsIn K mainGlobals "tuple" = some none)
    (n_DEEDS : PySem.W.nsIn K mainGlobals "DEEDS" = some (some (.str "abcdef" t_DEEDS)))
    (n_MOST_LONG : PySem.W.nsIn K mainGlobals "MOST_LONG" = some (some (.int 4000 t_MOST_LONG)))
    (n_MOST_PLACES : PySem.W.nsIn K mainGlobals "MOST_PLACES" = some (some (.int 61 t_MOST_PLACES)))
    (n_MOST_SIGNS : PySem.W.nsIn K mainGlobals "MOST_SIGNS" = some (some (.int 60 t_MOST_SIGNS)))
    (n_MOST_THINGS : PySem.W.nsIn K mainGlobals "MOST_THINGS" = some (some (.int 61 t_MOST_THINGS)))
    (n_SIGNS : PySem.W.nsIn K mainGlobals "SIGNS" = some (some (.str "aAbBcCdDeEfF" t_SIGNS)))
    (aC_NoRow : PySem.W.nsIn K mainGlobals "NoRow" = some (some (.ref C_NoRow)))
    (xC_NoRow : PySem.W.excIn K C_NoRow [.type "ValueError", .type "Exception", .type "BaseException", .type "object"] "ValueError.__new__" = true)
    (kC_NoRow : PySem.W.keepIn K (.ref C_NoRow) = true)
    (bC_NoRow : PySem.W.subIn K (.ref C_NoRow) (.type "BaseException") = some true)
    (tC_NoRow : PySem.W.typeIn K (.ref C_NoRow) = some (.type "type"))
    (iC_NoRow : PySem.W.isClsIn K C_NoRow = true)
    (sC_NoRow : PySem.W.subIn K (.ref C_NoRow) (.ref C_NoRow) = some true)
    (hg_NoRow : PySem.W.findIn K (.ref C_NoRow) "__getattribute__" = some (some (.builtin "BaseException.__getattribute__")))
    (hk_NoRow : PySem.W.findIn K (.ref C_NoRow) "__getattr__" = some none)
    (hd_NoRow : PySem.W.hasDictIn K C_NoRow = true)
    (ha_NoRow : PySem.W.findIn K (.ref C_NoRow) "__class__" = some (some (.builtin "object.__class__")))
    (hm_NoRow : PySem.W.mroIn K C_NoRow (.type "object") = some true)
    (aC_NoStep : PySem.W.nsIn K mainGlobals "NoStep" = some (some (.ref C_NoStep)))
    (xC_NoStep : PySem.W.excInitIn K C_NoStep [.type "LookupError", .type "Exception", .type "BaseException", .type "object"] "LookupError.__new__" = true)
    (kC_NoStep : PySem.W.keepIn K (.ref C_NoStep) = true)
    (bC_NoStep : PySem.W.subIn K (.ref C_NoStep) (.type "BaseException") = some true)
    (tC_NoStep : PySem.W.typeIn K (.ref C_NoStep) = some (.type "type"))
    (iC_NoStep : PySem.W.isClsIn K C_NoStep = true)
    (sC_NoStep : PySem.W.subIn K (.ref C_NoStep) (.ref C_NoStep) = some true)
    (hg_NoStep : PySem.W.findIn K (.ref C_NoStep) "__getattribute__" = some (some (.builtin "BaseException.__getattribute__")))
    (hk_NoStep : PySem.W.findIn K (.ref C_NoStep) "__getattr__" = some none)
    (hd_NoStep : PySem.W.hasDictIn K C_NoStep = true)
    (ha_NoStep : PySem.W.findIn K (.ref C_NoStep) "__class__" = some (some (.builtin "object.__class__")))
    (hm_NoStep : PySem.W.mroIn K C_NoStep (.type "object") = some true)
    (oC_NoStep : PySem.W.excOver K C_NoStep [.type "LookupError", .type "Exception", .type "BaseException", .type "object"] = true)
    (sa_NoStep : PySem.W.findIn K (.ref C_NoStep) "__setattr__" = some (some (.builtin "object.__setattr__")))
    (hn : PySem.W.specialIn K (.builtin "object.__class__") "__get__" = some (some (.builtin "getset_descriptor.__get__")))
    (ht : PySem.W.takesIn K (.builtin "object.__class__") = some true)
    (w_LookupError : PySem.W.findCls K (.type "LookupError") (.type "type") "__init__" = some (.val (.builtin "LookupError.__init__")))
    (aC_Canon : PySem.W.nsIn K mainGlobals "Canon" = some (some (.ref C_Canon)))
    (pg_Canon : PySem.W.plainGet K C_Canon Str.empty = true)
    (hd_Canon : PySem.W.hasDictIn K C_Canon = true)
    (po_Canon : PySem.W.plainOver K C_Canon = true)
    (sa_Canon : PySem.W.findIn K (.ref C_Canon) "__setattr__" = some (some (.builtin "object.__setattr__")))
    (mk_Canon : PySem.W.makesIn K C_Canon = true)
    (kC_Canon : PySem.W.keepIn K (.ref C_Canon) = true)
    (aC_Walk : PySem.W.nsIn K mainGlobals "Walk" = some (some (.ref C_Walk)))
    (pg_Walk : PySem.W.plainGet K C_Walk Str.empty = true)
    (hd_Walk : PySem.W.hasDictIn K C_Walk = true)
    (po_Walk : PySem.W.plainOver K C_Walk = true)
    (sa_Walk : PySem.W.findIn K (.ref C_Walk) "__setattr__" = some (some (.builtin "object.__setattr__")))
    (mk_Walk : PySem.W.makesIn K C_Walk = true)
    (kC_Walk : PySem.W.keepIn K (.ref C_Walk) = true)
    (aC_World : PySem.W.nsIn K mainGlobals "World" = some (some (.ref C_World)))
    (pg_World : PySem.W.plainGet K C_World Str.empty = true)
    (hd_World : PySem.W.hasDictIn K C_World = true)
    (po_World : PySem.W.plainOver K C_World = true)
    (sa_World : PySem.W.findIn K (.ref C_World) "__setattr__" = some (some (.builtin "object.__setattr__")))
    (mk_World : PySem.W.makesIn K C_World = true)
    (kC_World : PySem.W.keepIn K (.ref C_World) = true)
    (y_Canon_own_end : PySem.W.findIn K (.ref C_Canon) "own_end" = some none)
    (y_Canon_own_known : PySem.W.findIn K (.ref C_Canon) "own_known" = some none)
    (y_Canon_own_leaves : PySem.W.findIn K (.ref C_Canon) "own_leaves" = some none)
    (y_Canon_own_steps : PySem.W.findIn K (.ref C_Canon) "own_steps" = some none)
    (y_NoStep_number : PySem.W.findIn K (.ref C_NoStep) "number" = some none)
    (y_Walk_own_end : PySem.W.findIn K (.ref C_Walk) "own_end" = some none)
    (y_Walk_own_places : PySem.W.findIn K (.ref C_Walk) "own_places" = some none)
    (y_World_own_many : PySem.W.findIn K (.ref C_World) "own_many" = some none)
    (y_World_own_ways : PySem.W.findIn K (.ref C_World) "own_ways" = some none)
    (f_w1 : PySem.W.findIn K (.ref C_Walk) "__class__" = some (some (.builtin "object.__class__")))
    (f_w2 : PySem.W.specialIn K (.builtin "object.__class__") "__get__" = some (some (.builtin "getset_descriptor.__get__")))
    (f_w3 : PySem.W.takesIn K (.builtin "object.__class__") = some true)
    (f_w4 : PySem.W.mroIn K C_Walk (.type "object") = some true)
    (f_u1 : PySem.W.findIn K (.ref C_World) "__class__" = some (some (.builtin "object.__class__")))
    (f_u4 : PySem.W.mroIn K C_World (.type "object") = some true)
    (f_n1 : PySem.W.subIn K (.ref C_NoStep) (.type "LookupError") = some true)
    (a_law_pool : PySem.W.nsIn K mainGlobals "_law_pool" = some (some (.ref f_law_pool)))
    (l_law_pool : K.lookup f_law_pool = some ⟨oc_law_pool, od_law_pool, .func (PySem.W.fnOf "_law_pool" "_law_pool" (defArgs s_law_pool) (defBody s_law_pool) (defScope s_law_pool) .none kV_law_pool dc_law_pool pm_law_pool an_law_pool cd_law_pool ct_law_pool), sl_law_pool⟩)
    (c_law_pool : PySem.W.codeIn K cd_law_pool "_law_pool" = true)
    (k_law_pool : PySem.W.keepIn K (.ref f_law_pool) = true)
    (a_law_take : PySem.W.nsIn K mainGlobals "_law_take" = some (some (.ref f_law_take)))
    (l_law_take : K.lookup f_law_take = some ⟨oc_law_take, od_law_take, .func (PySem.W.fnOf "_law_take" "_law_take" (defArgs s_law_take) (defBody s_law_take) (defScope s_law_take) .none kV_law_take dc_law_take pm_law_take an_law_take cd_law_take ct_law_take), sl_law_take⟩)
    (c_law_take : PySem.W.codeIn K cd_law_take "_law_take" = true)
    (k_law_take : PySem.W.keepIn K (.ref f_law_take) = true)
    (a_law_turned : PySem.W.nsIn K mainGlobals "_law_turned" = some (some (.ref f_law_turned)))
    (l_law_turned : K.lookup f_law_turned = some ⟨oc_law_turned, od_law_turned, .func (PySem.W.fnOf "_law_turned" "_law_turned" (defArgs s_law_turned) (defBody s_law_turned) (defScope s_law_turned) .none kV_law_turned dc_law_turned pm_law_turned an_law_turned cd_law_turned ct_law_turned), sl_law_turned⟩)
    (c_law_turned : PySem.W.codeIn K cd_law_turned "_law_turned" = true)
    (k_law_turned : PySem.W.keepIn K (.ref f_law_turned) = true)
    (a_law_row : PySem.W.nsIn K mainGlobals "_law_row" = some (some (.ref f_law_row)))
    (l_law_row : K.lookup f_law_row = some ⟨oc_law_row, od_law_row, .func (PySem.W.fnOf "_law_row" "_law_row" (defArgs s_law_row) (defBody s_law_row) (defScope s_law_row) .none kV_law_row dc_law_row pm_law_row an_law_row cd_law_row ct_law_row), sl_law_row⟩)
    (c_law_row : PySem.W.codeIn K cd_law_row "_law_row" = true)
    (k_law_row : PySem.W.keepIn K (.ref f_law_row) = true)
    (a_law_other : PySem.W.nsIn K mainGlobals "_law_other" = some (some (.ref f_law_other)))
    (l_law_other : K.lookup f_law_other = some ⟨oc_law_other, od_law_other, .func (PySem.W.fnOf "_law_other" "_law_other" (defArgs s_law_other) (defBody s_law_other) (defScope s_law_other) .none kV_law_other dc_law_other pm_law_other an_law_other cd_law_other ct_law_other), sl_law_other⟩)
    (c_law_other : PySem.W.codeIn K cd_law_other "_law_other" = true)
    (k_law_other : PySem.W.keepIn K (.ref f_law_other) = true)
    (a_is_row_within : PySem.W.nsIn K mainGlobals "is_row_within" = some (some (.ref f_is_row_within)))
    (l_is_row_within : K.lookup f_is_row_within = some ⟨oc_is_row_within, od_is_row_within, .func (PySem.W.fnOf "is_row_within" "is_row_within" (defArgs s_is_row_within) (defBody s_is_row_within) (defScope s_is_row_within) .none kV_is_row_within dc_is_row_within pm_is_row_within an_is_row_within cd_is_row_within ct_is_row_within), sl_is_row_within⟩)
    (c_is_row_within : PySem.W.codeIn K cd_is_row_within "is_row_within" = true)
    (k_is_row_within : PySem.W.keepIn K (.ref f_is_row_within) = true)
    (a_is_row : PySem.W.nsIn K mainGlobals "is_row" = some (some (.ref f_is_row)))
    (l_is_row : K.lookup f_is_row = some ⟨oc_is_row, od_is_row, .func (PySem.W.fnOf "is_row" "is_row" (defArgs s_is_row) (defBody s_is_row) (defScope s_is_row) .none kV_is_row dc_is_row pm_is_row an_is_row cd_is_row ct_is_row), sl_is_row⟩)
    (c_is_row : PySem.W.codeIn K cd_is_row "is_row" = true)
    (k_is_row : PySem.W.keepIn K (.ref f_is_row) = true)
    (a_look_at_row : PySem.W.nsIn K mainGlobals "look_at_row" = some (some (.ref f_look_at_row)))
    (l_look_at_row : K.lookup f_look_at_row = some ⟨oc_look_at_row, od_look_at_row, .func (PySem.W.fnOf "look_at_row" "look_at_row" (defArgs s_look_at_row) (defBody s_look_at_row) (defScope s_look_at_row) .none kV_look_at_row dc_look_at_row pm_look_at_row an_look_at_row cd_look_at_row ct_look_at_row), sl_look_at_row⟩)
    (c_look_at_row : PySem.W.codeIn K cd_look_at_row "look_at_row" = true)
    (k_look_at_row : PySem.W.keepIn K (.ref f_look_at_row) = true)
    (a_contrary_sign : PySem.W.nsIn K mainGlobals "contrary_sign" = some (some (.ref f_contrary_sign)))
    (l_contrary_sign : K.lookup f_contrary_sign = some ⟨oc_contrary_sign, od_contrary_sign, .func (PySem.W.fnOf "contrary_sign" "contrary_sign" (defArgs s_contrary_sign) (defBody s_contrary_sign) (defScope s_contrary_sign) .none kV_contrary_sign dc_contrary_sign pm_contrary_sign an_contrary_sign cd_contrary_sign ct_contrary_sign), sl_contrary_sign⟩)
    (c_contrary_sign : PySem.W.codeIn K cd_contrary_sign "contrary_sign" = true)
    (k_contrary_sign : PySem.W.keepIn K (.ref f_contrary_sign) = true)
    (a_made_plain : PySem.W.nsIn K mainGlobals "made_plain" = some (some (.ref f_made_plain)))
    (l_made_plain : K.lookup f_made_plain = some ⟨oc_made_plain, od_made_plain, .func (PySem.W.fnOf "made_plain" "made_plain" (defArgs s_made_plain) (defBody s_made_plain) (defScope s_made_plain) .none kV_made_plain dc_made_plain pm_made_plain an_made_plain cd_made_plain ct_made_plain), sl_made_plain⟩)
    (c_made_plain : PySem.W.codeIn K cd_made_plain "made_plain" = true)
    (k_made_plain : PySem.W.keepIn K (.ref f_made_plain) = true)
    (a_is_plain_row : PySem.W.nsIn K mainGlobals "is_plain_row" = some (some (.ref f_is_plain_row)))
    (l_is_plain_row : K.lookup f_is_plain_row = some ⟨oc_is_plain_row, od_is_plain_row, .func (PySem.W.fnOf "is_plain_row" "is_plain_row" (defArgs s_is_plain_row) (defBody s_is_plain_row) (defScope s_is_plain_row) .none kV_is_plain_row dc_is_plain_row pm_is_plain_row an_is_plain_row cd_is_plain_row ct_is_plain_row), sl_is_plain_row⟩)
    (c_is_plain_row : PySem.W.codeIn K cd_is_plain_row "is_plain_row" = true)
    (k_is_plain_row : PySem.W.keepIn K (.ref f_is_plain_row) = true)
    (a_first_wrong : PySem.W.nsIn K mainGlobals "first_wrong" = some (some (.ref f_first_wrong)))
    (l_first_wrong : K.lookup f_first_wrong = some ⟨oc_first_wrong, od_first_wrong, .func (PySem.W.fnOf "first_wrong" "first_wrong" (defArgs s_first_wrong) (defBody s_first_wrong) (defScope s_first_wrong) .none kV_first_wrong dc_first_wrong pm_first_wrong an_first_wrong cd_first_wrong ct_first_wrong), sl_first_wrong⟩)
    (c_first_wrong : PySem.W.codeIn K cd_first_wrong "first_wrong" = true)
    (k_first_wrong : PySem.W.keepIn K (.ref f_first_wrong) = true)
    (a_rank : PySem.W.nsIn K mainGlobals "rank" = some (some (.ref f_rank)))
    (l_rank : K.lookup f_rank = some ⟨oc_rank, od_rank, .func (PySem.W.fnOf "rank" "rank" (defArgs s_rank) (defBody s_rank) (defScope s_rank) .none kV_rank dc_rank pm_rank an_rank cd_rank ct_rank), sl_rank⟩)
    (c_rank : PySem.W.codeIn K cd_rank "rank" = true)
    (k_rank : PySem.W.keepIn K (.ref f_rank) = true)
    (a_Walk___init__ : PySem.W.findIn K (.ref C_Walk) "__init__" = some (some (.ref f_Walk___init__)))
    (l_Walk___init__ : K.lookup f_Walk___init__ = some ⟨oc_Walk___init__, od_Walk___init__, .func (PySem.W.fnOf "__init__" "Walk.__init__" (defArgs s_Walk___init__) (defBody s_Walk___init__) (defScope s_Walk___init__) (.ref T_Walk___init__) kV_Walk___init__ dc_Walk___init__ pm_Walk___init__ an_Walk___init__ cd_Walk___init__ ct_Walk___init__), sl_Walk___init__⟩)
    (t_Walk___init__ : K.lookup T_Walk___init__ = some ⟨tc_Walk___init__, tdd_Walk___init__, .seq #[.none, .str "" td1_Walk___init__] tn_Walk___init__, ts_Walk___init__⟩)
    (c_Walk___init__ : PySem.W.codeIn K cd_Walk___init__ "Walk.__init__" = true)
    (k_Walk___init__ : PySem.W.keepIn K (.ref f_Walk___init__) = true)
    (u_Walk___init__ : PySem.W.typeIn K (.ref f_Walk___init__) = some (.type "function"))
    (fn_Walk___init__ : PySem.W.isFn K (.ref f_Walk___init__) = true)
    (a_gone : PySem.W.nsIn K mainGlobals "gone" = some (some (.ref f_gone)))
    (l_gone : K.lookup f_gone = some ⟨oc_gone, od_gone, .func (PySem.W.fnOf "gone" "gone" (defArgs s_gone) (defBody s_gone) (defScope s_gone) .none kV_gone dc_gone pm_gone an_gone cd_gone ct_gone), sl_gone⟩)
    (c_gone : PySem.W.codeIn K cd_gone "gone" = true)
    (k_gone : PySem.W.keepIn K (.ref f_gone) = true)
    (a_walk_of : PySem.W.nsIn K mainGlobals "walk_of" = some (some (.ref f_walk_of)))
    (l_walk_of : K.lookup f_walk_of = some ⟨oc_walk_of, od_walk_of, .func (PySem.W.fnOf "walk_of" "walk_of" (defArgs s_walk_of) (defBody s_walk_of) (defScope s_walk_of) .none kV_walk_of dc_walk_of pm_walk_of an_walk_of cd_walk_of ct_walk_of), sl_walk_of⟩)
    (c_walk_of : PySem.W.codeIn K cd_walk_of "walk_of" = true)
    (k_walk_of : PySem.W.keepIn K (.ref f_walk_of) = true)
    (a_Walk___eq__ : PySem.W.findIn K (.ref C_Walk) "__eq__" = some (some (.ref f_Walk___eq__)))
    (l_Walk___eq__ : K.lookup f_Walk___eq__ = some ⟨oc_Walk___eq__, od_Walk___eq__, .func (PySem.W.fnOf "__eq__" "Walk.__eq__" (defArgs s_Walk___eq__) (defBody s_Walk___eq__) (defScope s_Walk___eq__) .none kV_Walk___eq__ dc_Walk___eq__ pm_Walk___eq__ an_Walk___eq__ cd_Walk___eq__ ct_Walk___eq__), sl_Walk___eq__⟩)
    (c_Walk___eq__ : PySem.W.codeIn K cd_Walk___eq__ "Walk.__eq__" = true)
    (k_Walk___eq__ : PySem.W.keepIn K (.ref f_Walk___eq__) = true)
    (u_Walk___eq__ : PySem.W.typeIn K (.ref f_Walk___eq__) = some (.type "function"))
    (fn_Walk___eq__ : PySem.W.isFn K (.ref f_Walk___eq__) = true)
    (a_same : PySem.W.nsIn K mainGlobals "same" = some (some (.ref f_same)))
    (l_same : K.lookup f_same = some ⟨oc_same, od_same, .func (PySem.W.fnOf "same" "same" (defArgs s_same) (defBody s_same) (defScope s_same) .none kV_same dc_same pm_same an_same cd_same ct_same), sl_same⟩)
    (c_same : PySem.W.codeIn K cd_same "same" = true)
    (k_same : PySem.W.keepIn K (.ref f_same) = true)
    (a_Canon___init__ : PySem.W.findIn K (.ref C_Canon) "__init__" = some (some (.ref f_Canon___init__)))
    (l_Canon___init__ : K.lookup f_Canon___init__ = some ⟨oc_Canon___init__, od_Canon___init__, .func (PySem.W.fnOf "__init__" "Canon.__init__" (defArgs s_Canon___init__) (defBody s_Canon___init__) (defScope s_Canon___init__) .none kV_Canon___init__ dc_Canon___init__ pm_Canon___init__ an_Canon___init__ cd_Canon___init__ ct_Canon___init__), sl_Canon___init__⟩)
    (c_Canon___init__ : PySem.W.codeIn K cd_Canon___init__ "Canon.__init__" = true)
    (k_Canon___init__ : PySem.W.keepIn K (.ref f_Canon___init__) = true)
    (u_Canon___init__ : PySem.W.typeIn K (.ref f_Canon___init__) = some (.type "function"))
    (fn_Canon___init__ : PySem.W.isFn K (.ref f_Canon___init__) = true)
    (a_Canon_at_leaf : PySem.W.findIn K (.ref C_Canon) "at_leaf" = some (some (.ref f_Canon_at_leaf)))
    (l_Canon_at_leaf : K.lookup f_Canon_at_leaf = some ⟨oc_Canon_at_leaf, od_Canon_at_leaf, .func (PySem.W.fnOf "at_leaf" "Canon.at_leaf" (defArgs s_Canon_at_leaf) (defBody s_Canon_at_leaf) (defScope s_Canon_at_leaf) .none kV_Canon_at_leaf dc_Canon_at_leaf pm_Canon_at_leaf an_Canon_at_leaf cd_Canon_at_leaf ct_Canon_at_leaf), sl_Canon_at_leaf⟩)
    (c_Canon_at_leaf : PySem.W.codeIn K cd_Canon_at_leaf "Canon.at_leaf" = true)
    (k_Canon_at_leaf : PySem.W.keepIn K (.ref f_Canon_at_leaf) = true)
    (u_Canon_at_leaf : PySem.W.typeIn K (.ref f_Canon_at_leaf) = some (.type "function"))
    (fn_Canon_at_leaf : PySem.W.isFn K (.ref f_Canon_at_leaf) = true)
    (a_Canon_swap : PySem.W.findIn K (.ref C_Canon) "swap" = some (some (.ref f_Canon_swap)))
    (l_Canon_swap : K.lookup f_Canon_swap = some ⟨oc_Canon_swap, od_Canon_swap, .func (PySem.W.fnOf "swap" "Canon.swap" (defArgs s_Canon_swap) (defBody s_Canon_swap) (defScope s_Canon_swap) .none kV_Canon_swap dc_Canon_swap pm_Canon_swap an_Canon_swap cd_Canon_swap ct_Canon_swap), sl_Canon_swap⟩)
    (c_Canon_swap : PySem.W.codeIn K cd_Canon_swap "Canon.swap" = true)
    (k_Canon_swap : PySem.W.keepIn K (.ref f_Canon_swap) = true)
    (u_Canon_swap : PySem.W.typeIn K (.ref f_Canon_swap) = some (.type "function"))
    (fn_Canon_swap : PySem.W.isFn K (.ref f_Canon_swap) = true)
    (a_Canon_to_end : PySem.W.findIn K (.ref C_Canon) "to_end" = some (some (.ref f_Canon_to_end)))
    (l_Canon_to_end : K.lookup f_Canon_to_end = some ⟨oc_Canon_to_end, od_Canon_to_end, .func (PySem.W.fnOf "to_end" "Canon.to_end" (defArgs s_Canon_to_end) (defBody s_Canon_to_end) (defScope s_Canon_to_end) .none kV_Canon_to_end dc_Canon_to_end pm_Canon_to_end an_Canon_to_end cd_Canon_to_end ct_Canon_to_end), sl_Canon_to_end⟩)
    (c_Canon_to_end : PySem.W.codeIn K cd_Canon_to_end "Canon.to_end" = true)
    (k_Canon_to_end : PySem.W.keepIn K (.ref f_Canon_to_end) = true)
    (u_Canon_to_end : PySem.W.typeIn K (.ref f_Canon_to_end) = some (.type "function"))
    (fn_Canon_to_end : PySem.W.isFn K (.ref f_Canon_to_end) = true)
    (a_Canon_to_order : PySem.W.findIn K (.ref C_Canon) "to_order" = some (some (.ref f_Canon_to_order)))
    (l_Canon_to_order : K.lookup f_Canon_to_order = some ⟨oc_Canon_to_order, od_Canon_to_order, .func (PySem.W.fnOf "to_order" "Canon.to_order" (defArgs s_Canon_to_order) (defBody s_Canon_to_order) (defScope s_Canon_to_order) .none kV_Canon_to_order dc_Canon_to_order pm_Canon_to_order an_Canon_to_order cd_Canon_to_order ct_Canon_to_order), sl_Canon_to_order⟩)
    (c_Canon_to_order : PySem.W.codeIn K cd_Canon_to_order "Canon.to_order" = true)
    (k_Canon_to_order : PySem.W.keepIn K (.ref f_Canon_to_order) = true)
    (u_Canon_to_order : PySem.W.typeIn K (.ref f_Canon_to_order) = some (.type "function"))
    (fn_Canon_to_order : PySem.W.isFn K (.ref f_Canon_to_order) = true)
    (a_Canon_fall : PySem.W.findIn K (.ref C_Canon) "fall" = some (some (.ref f_Canon_fall)))
    (l_Canon_fall : K.lookup f_Canon_fall = some ⟨oc_Canon_fall, od_Canon_fall, .func (PySem.W.fnOf "fall" "Canon.fall" (defArgs s_Canon_fall) (defBody s_Canon_fall) (defScope s_Canon_fall) .none kV_Canon_fall dc_Canon_fall pm_Canon_fall an_Canon_fall cd_Canon_fall ct_Canon_fall), sl_Canon_fall⟩)
    (c_Canon_fall : PySem.W.codeIn K cd_Canon_fall "Canon.fall" = true)
    (k_Canon_fall : PySem.W.keepIn K (.ref f_Canon_fall) = true)
    (u_Canon_fall : PySem.W.typeIn K (.ref f_Canon_fall) = some (.type "function"))
    (fn_Canon_fall : PySem.W.isFn K (.ref f_Canon_fall) = true)
    (a_Canon_grow : PySem.W.findIn K (.ref C_Canon) "grow" = some (some (.ref f_Canon_grow)))
    (l_Canon_grow : K.lookup f_Canon_grow = some ⟨oc_Canon_grow, od_Canon_grow, .func (PySem.W.fnOf "grow" "Canon.grow" (defArgs s_Canon_grow) (defBody s_Canon_grow) (defScope s_Canon_grow) .none kV_Canon_grow dc_Canon_grow pm_Canon_grow an_Canon_grow cd_Canon_grow ct_Canon_grow), sl_Canon_grow⟩)
    (c_Canon_grow : PySem.W.codeIn K cd_Canon_grow "Canon.grow" = true)
    (k_Canon_grow : PySem.W.keepIn K (.ref f_Canon_grow) = true)
    (u_Canon_grow : PySem.W.typeIn K (.ref f_Canon_grow) = some (.type "function"))
    (fn_Canon_grow : PySem.W.isFn K (.ref f_Canon_grow) = true)
    (a_Canon_go_on : PySem.W.findIn K (.ref C_Canon) "go_on" = some (some (.ref f_Canon_go_on)))
    (l_Canon_go_on : K.lookup f_Canon_go_on = some ⟨oc_Canon_go_on, od_Canon_go_on, .func (PySem.W.fnOf "go_on" "Canon.go_on" (defArgs s_Canon_go_on) (defBody s_Canon_go_on) (defScope s_Canon_go_on) .none kV_Canon_go_on dc_Canon_go_on pm_Canon_go_on an_Canon_go_on cd_Canon_go_on ct_Canon_go_on), sl_Canon_go_on⟩)
    (c_Canon_go_on : PySem.W.codeIn K cd_Canon_go_on "Canon.go_on" = true)
    (k_Canon_go_on : PySem.W.keepIn K (.ref f_Canon_go_on) = true)
    (u_Canon_go_on : PySem.W.typeIn K (.ref f_Canon_go_on) = some (.type "function"))
    (fn_Canon_go_on : PySem.W.isFn K (.ref f_Canon_go_on) = true)
    (a_canon_steps : PySem.W.nsIn K mainGlobals "canon_steps" = some (some (.ref f_canon_steps)))
    (l_canon_steps : K.lookup f_canon_steps = some ⟨oc_canon_steps, od_canon_steps, .func (PySem.W.fnOf "canon_steps" "canon_steps" (defArgs s_canon_steps) (defBody s_canon_steps) (defScope s_canon_steps) .none kV_canon_steps dc_canon_steps pm_canon_steps an_canon_steps cd_canon_steps ct_canon_steps), sl_canon_steps⟩)
    (c_canon_steps : PySem.W.codeIn K cd_canon_steps "canon_steps" = true)
    (k_canon_steps : PySem.W.keepIn K (.ref f_canon_steps) = true)
    (a_back_step : PySem.W.nsIn K mainGlobals "back_step" = some (some (.ref f_back_step)))
    (l_back_step : K.lookup f_back_step = some ⟨oc_back_step, od_back_step, .func (PySem.W.fnOf "back_step" "back_step" (defArgs s_back_step) (defBody s_back_step) (defScope s_back_step) .none kV_back_step dc_back_step pm_back_step an_back_step cd_back_step ct_back_step), sl_back_step⟩)
    (c_back_step : PySem.W.codeIn K cd_back_step "back_step" = true)
    (k_back_step : PySem.W.keepIn K (.ref f_back_step) = true)
    (a_chain : PySem.W.nsIn K mainGlobals "chain" = some (some (.ref f_chain)))
    (l_chain : K.lookup f_chain = some ⟨oc_chain, od_chain, .func (PySem.W.fnOf "chain" "chain" (defArgs s_chain) (defBody s_chain) (defScope s_chain) .none kV_chain dc_chain pm_chain an_chain cd_chain ct_chain), sl_chain⟩)
    (c_chain : PySem.W.codeIn K cd_chain "chain" = true)
    (k_chain : PySem.W.keepIn K (.ref f_chain) = true)
    (a_Walk_places : PySem.W.findIn K (.ref C_Walk) "places" = some (some (.ref f_Walk_places)))
    (l_Walk_places : K.lookup f_Walk_places = some ⟨oc_Walk_places, od_Walk_places, .func (PySem.W.fnOf "places" "Walk.places" (defArgs s_Walk_places) (defBody s_Walk_places) (defScope s_Walk_places) .none kV_Walk_places dc_Walk_places pm_Walk_places an_Walk_places cd_Walk_places ct_Walk_places), sl_Walk_places⟩)
    (c_Walk_places : PySem.W.codeIn K cd_Walk_places "Walk.places" = true)
    (k_Walk_places : PySem.W.keepIn K (.ref f_Walk_places) = true)
    (u_Walk_places : PySem.W.typeIn K (.ref f_Walk_places) = some (.type "function"))
    (fn_Walk_places : PySem.W.isFn K (.ref f_Walk_places) = true)
    (a_all_within : PySem.W.nsIn K mainGlobals "all_within" = some (some (.ref f_all_within)))
    (l_all_within : K.lookup f_all_within = some ⟨oc_all_within, od_all_within, .func (PySem.W.fnOf "all_within" "all_within" (defArgs s_all_within) (defBody s_all_within) (defScope s_all_within) .none kV_all_within dc_all_within pm_all_within an_all_within cd_all_within ct_all_within), sl_all_within⟩)
    (c_all_within : PySem.W.codeIn K cd_all_within "all_within" = true)
    (k_all_within : PySem.W.keepIn K (.ref f_all_within) = true)
    (a_is_whole : PySem.W.nsIn K mainGlobals "is_whole" = some (some (.ref f_is_whole)))
    (l_is_whole : K.lookup f_is_whole = some ⟨oc_is_whole, od_is_whole, .func (PySem.W.fnOf "is_whole" "is_whole" (defArgs s_is_whole) (defBody s_is_whole) (defScope s_is_whole) .none kV_is_whole dc_is_whole pm_is_whole an_is_whole cd_is_whole ct_is_whole), sl_is_whole⟩)
    (c_is_whole : PySem.W.codeIn K cd_is_whole "is_whole" = true)
    (k_is_whole : PySem.W.keepIn K (.ref f_is_whole) = true)
    (a_World___init__ : PySem.W.findIn K (.ref C_World) "__init__" = some (some (.ref f_World___init__)))
    (l_World___init__ : K.lookup f_World___init__ = some ⟨oc_World___init__, od_World___init__, .func (PySem.W.fnOf "__init__" "World.__init__" (defArgs s_World___init__) (defBody s_World___init__) (defScope s_World___init__) (.ref T_World___init__) kV_World___init__ dc_World___init__ pm_World___init__ an_World___init__ cd_World___init__ ct_World___init__), sl_World___init__⟩)
    (t_World___init__ : K.lookup T_World___init__ = some ⟨tc_World___init__, tdd_World___init__, .seq #[.int 0 td0_World___init__] tn_World___init__, ts_World___init__⟩)
    (c_World___init__ : PySem.W.codeIn K cd_World___init__ "World.__init__" = true)
    (k_World___init__ : PySem.W.keepIn K (.ref f_World___init__) = true)
    (u_World___init__ : PySem.W.typeIn K (.ref f_World___init__) = some (.type "function"))
    (fn_World___init__ : PySem.W.isFn K (.ref f_World___init__) = true)
    (a_World_look_at_deed : PySem.W.findIn K (.ref C_World) "look_at_deed" = some (some (.ref f_World_look_at_deed)))
    (l_World_look_at_deed : K.lookup f_World_look_at_deed = some ⟨oc_World_look_at_deed, od_World_look_at_deed, .func (PySem.W.fnOf "look_at_deed" "World.look_at_deed" (defArgs s_World_look_at_deed) (defBody s_World_look_at_deed) (defScope s_World_look_at_deed) .none kV_World_look_at_deed dc_World_look_at_deed pm_World_look_at_deed an_World_look_at_deed cd_World_look_at_deed ct_World_look_at_deed), sl_World_look_at_deed⟩)
    (c_World_look_at_deed : PySem.W.codeIn K cd_World_look_at_deed "World.look_at_deed" = true)
    (k_World_look_at_deed : PySem.W.keepIn K (.ref f_World_look_at_deed) = true)
    (u_World_look_at_deed : PySem.W.typeIn K (.ref f_World_look_at_deed) = some (.type "function"))
    (fn_World_look_at_deed : PySem.W.isFn K (.ref f_World_look_at_deed) = true)
    (a_World_look_at_thing : PySem.W.findIn K (.ref C_World) "look_at_thing" = some (some (.ref f_World_look_at_thing)))
    (l_World_look_at_thing : K.lookup f_World_look_at_thing = some ⟨oc_World_look_at_thing, od_World_look_at_thing, .func (PySem.W.fnOf "look_at_thing" "World.look_at_thing" (defArgs s_World_look_at_thing) (defBody s_World_look_at_thing) (defScope s_World_look_at_thing) .none kV_World_look_at_thing dc_World_look_at_thing pm_World_look_at_thing an_World_look_at_thing cd_World_look_at_thing ct_World_look_at_thing), sl_World_look_at_thing⟩)
    (c_World_look_at_thing : PySem.W.codeIn K cd_World_look_at_thing "World.look_at_thing" = true)
    (k_World_look_at_thing : PySem.W.keepIn K (.ref f_World_look_at_thing) = true)
    (u_World_look_at_thing : PySem.W.typeIn K (.ref f_World_look_at_thing) = some (.type "function"))
    (fn_World_look_at_thing : PySem.W.isFn K (.ref f_World_look_at_thing) = true)
    (a_World_lay : PySem.W.findIn K (.ref C_World) "lay" = some (some (.ref f_World_lay)))
    (l_World_lay : K.lookup f_World_lay = some ⟨oc_World_lay, od_World_lay, .func (PySem.W.fnOf "lay" "World.lay" (defArgs s_World_lay) (defBody s_World_lay) (defScope s_World_lay) .none kV_World_lay dc_World_lay pm_World_lay an_World_lay cd_World_lay ct_World_lay), sl_World_lay⟩)
    (c_World_lay : PySem.W.codeIn K cd_World_lay "World.lay" = true)
    (k_World_lay : PySem.W.keepIn K (.ref f_World_lay) = true)
    (u_World_lay : PySem.W.typeIn K (.ref f_World_lay) = some (.type "function"))
    (fn_World_lay : PySem.W.isFn K (.ref f_World_lay) = true)
    (a_Walk_world : PySem.W.findIn K (.ref C_Walk) "world" = some (some (.ref f_Walk_world)))
    (l_Walk_world : K.lookup f_Walk_world = some ⟨oc_Walk_world, od_Walk_world, .func (PySem.W.fnOf "world" "Walk.world" (defArgs s_Walk_world) (defBody s_Walk_world) (defScope s_Walk_world) .none kV_Walk_world dc_Walk_world pm_Walk_world an_Walk_world cd_Walk_world ct_Walk_world), sl_Walk_world⟩)
    (c_Walk_world : PySem.W.codeIn K cd_Walk_world "Walk.world" = true)
    (k_Walk_world : PySem.W.keepIn K (.ref f_Walk_world) = true)
    (u_Walk_world : PySem.W.typeIn K (.ref f_Walk_world) = some (.type "function"))
    (fn_Walk_world : PySem.W.isFn K (.ref f_Walk_world) = true)
    (a_unlike : PySem.W.nsIn K mainGlobals "unlike" = some (some (.ref f_unlike)))
    (l_unlike : K.lookup f_unlike = some ⟨oc_unlike, od_unlike, .func (PySem.W.fnOf "unlike" "unlike" (defArgs s_unlike) (defBody s_unlike) (defScope s_unlike) .none kV_unlike dc_unlike pm_unlike an_unlike cd_unlike ct_unlike), sl_unlike⟩)
    (c_unlike : PySem.W.codeIn K cd_unlike "unlike" = true)
    (k_unlike : PySem.W.keepIn K (.ref f_unlike) = true)
    (a_World___len__ : PySem.W.findIn K (.ref C_World) "__len__" = some (some (.ref f_World___len__)))
    (l_World___len__ : K.lookup f_World___len__ = some ⟨oc_World___len__, od_World___len__, .func (PySem.W.fnOf "__len__" "World.__len__" (defArgs s_World___len__) (defBody s_World___len__) (defScope s_World___len__) .none kV_World___len__ dc_World___len__ pm_World___len__ an_World___len__ cd_World___len__ ct_World___len__), sl_World___len__⟩)
    (c_World___len__ : PySem.W.codeIn K cd_World___len__ "World.__len__" = true)
    (k_World___len__ : PySem.W.keepIn K (.ref f_World___len__) = true)
    (u_World___len__ : PySem.W.typeIn K (.ref f_World___len__) = some (.type "function"))
    (fn_World___len__ : PySem.W.isFn K (.ref f_World___len__) = true)
    (a_World_led_on : PySem.W.findIn K (.ref C_World) "led_on" = some (some (.ref f_World_led_on)))
    (l_World_led_on : K.lookup f_World_led_on = some ⟨oc_World_led_on, od_World_led_on, .func (PySem.W.fnOf "led_on" "World.led_on" (defArgs s_World_led_on) (defBody s_World_led_on) (defScope s_World_led_on) .none kV_World_led_on dc_World_led_on pm_World_led_on an_World_led_on cd_World_led_on ct_World_led_on), sl_World_led_on⟩)
    (c_World_led_on : PySem.W.codeIn K cd_World_led_on "World.led_on" = true)
    (k_World_led_on : PySem.W.keepIn K (.ref f_World_led_on) = true)
    (u_World_led_on : PySem.W.typeIn K (.ref f_World_led_on) = some (.type "function"))
    (fn_World_led_on : PySem.W.isFn K (.ref f_World_led_on) = true)
    (a_World_led : PySem.W.findIn K (.ref C_World) "led" = some (some (.ref f_World_led)))
    (l_World_led : K.lookup f_World_led = some ⟨oc_World_led, od_World_led, .func (PySem.W.fnOf "led" "World.led" (defArgs s_World_led) (defBody s_World_led) (defScope s_World_led) .none kV_World_led dc_World_led pm_World_led an_World_led cd_World_led ct_World_led), sl_World_led⟩)
    (c_World_led : PySem.W.codeIn K cd_World_led "World.led" = true)
    (k_World_led : PySem.W.keepIn K (.ref f_World_led) = true)
    (u_World_led : PySem.W.typeIn K (.ref f_World_led) = some (.type "function"))
    (fn_World_led : PySem.W.isFn K (.ref f_World_led) = true)
    (a_tells_unlike : PySem.W.nsIn K mainGlobals "tells_unlike" = some (some (.ref f_tells_unlike)))
    (l_tells_unlike : K.lookup f_tells_unlike = some ⟨oc_tells_unlike, od_tells_unlike, .func (PySem.W.fnOf "tells_unlike" "tells_unlike" (defArgs s_tells_unlike) (defBody s_tells_unlike) (defScope s_tells_unlike) .none kV_tells_unlike dc_tells_unlike pm_tells_unlike an_tells_unlike cd_tells_unlike ct_tells_unlike), sl_tells_unlike⟩)
    (c_tells_unlike : PySem.W.codeIn K cd_tells_unlike "tells_unlike" = true)
    (k_tells_unlike : PySem.W.keepIn K (.ref f_tells_unlike) = true)
    (a_is_long_row : PySem.W.nsIn K mainGlobals "is_long_row" = some (some (.ref f_is_long_row)))
    (l_is_long_row : K.lookup f_is_long_row = some ⟨oc_is_long_row, od_is_long_row, .func (PySem.W.fnOf "is_long_row" "is_long_row" (defArgs s_is_long_row) (defBody s_is_long_row) (defScope s_is_long_row) .none kV_is_long_row dc_is_long_row pm_is_long_row an_is_long_row cd_is_long_row ct_is_long_row), sl_is_long_row⟩)
    (c_is_long_row : PySem.W.codeIn K cd_is_long_row "is_long_row" = true)
    (k_is_long_row : PySem.W.keepIn K (.ref f_is_long_row) = true)
    (a_look_at_long_row : PySem.W.nsIn K mainGlobals "look_at_long_row" = some (some (.ref f_look_at_long_row)))
    (l_look_at_long_row : K.lookup f_look_at_long_row = some ⟨oc_look_at_long_row, od_look_at_long_row, .func (PySem.W.fnOf "look_at_long_row" "look_at_long_row" (defArgs s_look_at_long_row) (defBody s_look_at_long_row) (defScope s_look_at_long_row) .none kV_look_at_long_row dc_look_at_long_row pm_look_at_long_row an_look_at_long_row cd_look_at_long_row ct_look_at_long_row), sl_look_at_long_row⟩)
    (c_look_at_long_row : PySem.W.codeIn K cd_look_at_long_row "look_at_long_row" = true)
    (k_look_at_long_row : PySem.W.keepIn K (.ref f_look_at_long_row) = true)
    (a_part_of : PySem.W.nsIn K mainGlobals "part_of" = some (some (.ref f_part_of)))
    (l_part_of : K.lookup f_part_of = some ⟨oc_part_of, od_part_of, .func (PySem.W.fnOf "part_of" "part_of" (defArgs s_part_of) (defBody s_part_of) (defScope s_part_of) .none kV_part_of dc_part_of pm_part_of an_part_of cd_part_of ct_part_of), sl_part_of⟩)
    (c_part_of : PySem.W.codeIn K cd_part_of "part_of" = true)
    (k_part_of : PySem.W.keepIn K (.ref f_part_of) = true)
    (a_turned : PySem.W.nsIn K mainGlobals "turned" = some (some (.ref f_turned)))
    (l_turned : K.lookup f_turned = some ⟨oc_turned, od_turned, .func (PySem.W.fnOf "turned" "turned" (defArgs s_turned) (defBody s_turned) (defScope s_turned) .none kV_turned dc_turned pm_turned an_turned cd_turned ct_turned), sl_turned⟩)
    (c_turned : PySem.W.codeIn K cd_turned "turned" = true)
    (k_turned : PySem.W.keepIn K (.ref f_turned) = true)
    (a_less_of : PySem.W.nsIn K mainGlobals "less_of" = some (some (.ref f_less_of)))
    (l_less_of : K.lookup f_less_of = some ⟨oc_less_of, od_less_of, .func (PySem.W.fnOf "less_of" "less_of" (defArgs s_less_of) (defBody s_less_of) (defScope s_less_of) .none kV_less_of dc_less_of pm_less_of an_less_of cd_less_of ct_less_of), sl_less_of⟩)
    (c_less_of : PySem.W.codeIn K cd_less_of "less_of" = true)
    (k_less_of : PySem.W.keepIn K (.ref f_less_of) = true)
    (a_more_of : PySem.W.nsIn K mainGlobals "more_of" = some (some (.ref f_more_of)))
    (l_more_of : K.lookup f_more_of = some ⟨oc_more_of, od_more_of, .func (PySem.W.fnOf "more_of" "more_of" (defArgs s_more_of) (defBody s_more_of) (defScope s_more_of) .none kV_more_of dc_more_of pm_more_of an_more_of cd_more_of ct_more_of), sl_more_of⟩)
    (c_more_of : PySem.W.codeIn K cd_more_of "more_of" = true)
    (k_more_of : PySem.W.keepIn K (.ref f_more_of) = true)
    (a_is_formed : PySem.W.nsIn K mainGlobals "is_formed" = some (some (.ref f_is_formed)))
    (l_is_formed : K.lookup f_is_formed = some ⟨oc_is_formed, od_is_formed, .func (PySem.W.fnOf "is_formed" "is_formed" (defArgs s_is_formed) (defBody s_is_formed) (defScope s_is_formed) .none kV_is_formed dc_is_formed pm_is_formed an_is_formed cd_is_formed ct_is_formed), sl_is_formed⟩)
    (c_is_formed : PySem.W.codeIn K cd_is_formed "is_formed" = true)
    (k_is_formed : PySem.W.keepIn K (.ref f_is_formed) = true)
    (a_past_of : PySem.W.nsIn K mainGlobals "past_of" = some (some (.ref f_past_of)))
    (l_past_of : K.lookup f_past_of = some ⟨oc_past_of, od_past_of, .func (PySem.W.fnOf "past_of" "past_of" (defArgs s_past_of) (defBody s_past_of) (defScope s_past_of) .none kV_past_of dc_past_of pm_past_of an_past_of cd_past_of ct_past_of), sl_past_of⟩)
    (c_past_of : PySem.W.codeIn K cd_past_of "past_of" = true)
    (k_past_of : PySem.W.keepIn K (.ref f_past_of) = true)
    (a_done : PySem.W.nsIn K mainGlobals "done" = some (some (.ref f_done)))
    (l_done : K.lookup f_done = some ⟨oc_done, od_done, .func (PySem.W.fnOf "done" "done" (defArgs s_done) (defBody s_done) (defScope s_done) .none kV_done dc_done pm_done an_done cd_done ct_done), sl_done⟩)
    (c_done : PySem.W.codeIn K cd_done "done" = true)
    (k_done : PySem.W.keepIn K (.ref f_done) = true)
    (a_NoStep___init__ : PySem.W.findIn K (.ref C_NoStep) "__init__" = some (some (.ref f_NoStep___init__)))
    (l_NoStep___init__ : K.lookup f_NoStep___init__ = some ⟨oc_NoStep___init__, od_NoStep___init__, .func (PySem.W.fnOf "__init__" "NoStep.__init__" (defArgs s_NoStep___init__) (defBody s_NoStep___init__) (defScope s_NoStep___init__) .none kV_NoStep___init__ dc_NoStep___init__ pm_NoStep___init__ an_NoStep___init__ cd_NoStep___init__ ct_NoStep___init__), sl_NoStep___init__⟩)
    (c_NoStep___init__ : PySem.W.codeIn K cd_NoStep___init__ "NoStep.__init__" = true)
    (k_NoStep___init__ : PySem.W.keepIn K (.ref f_NoStep___init__) = true)
    (u_NoStep___init__ : PySem.W.typeIn K (.ref f_NoStep___init__) = some (.type "function"))
    (fn_NoStep___init__ : PySem.W.isFn K (.ref f_NoStep___init__) = true)
    (a_led_on : PySem.W.nsIn K mainGlobals "led_on" = some (some (.ref f_led_on)))
    (l_led_on : K.lookup f_led_on = some ⟨oc_led_on, od_led_on, .func (PySem.W.fnOf "led_on" "led_on" (defArgs s_led_on) (defBody s_led_on) (defScope s_led_on) .none kV_led_on dc_led_on pm_led_on an_led_on cd_led_on ct_led_on), sl_led_on⟩)
    (c_led_on : PySem.W.codeIn K cd_led_on "led_on" = true)
    (k_led_on : PySem.W.keepIn K (.ref f_led_on) = true)
    (a_is_chain : PySem.W.nsIn K mainGlobals "is_chain" = some (some (.ref f_is_chain)))
    (l_is_chain : K.lookup f_is_chain = some ⟨oc_is_chain, od_is_chain, .func (PySem.W.fnOf "is_chain" "is_chain" (defArgs s_is_chain) (defBody s_is_chain) (defScope s_is_chain) .none kV_is_chain dc_is_chain pm_is_chain an_is_chain cd_is_chain ct_is_chain), sl_is_chain⟩)
    (c_is_chain : PySem.W.codeIn K cd_is_chain "is_chain" = true)
    (k_is_chain : PySem.W.keepIn K (.ref f_is_chain) = true)
    (a_law_back : PySem.W.nsIn K mainGlobals "_law_back" = some (some (.ref f_law_back)))
    (l_law_back : K.lookup f_law_back = some ⟨oc_law_back, od_law_back, .func (PySem.W.fnOf "_law_back" "_law_back" (defArgs s_law_back) (defBody s_law_back) (defScope s_law_back) .none kV_law_back dc_law_back pm_law_back an_law_back cd_law_back ct_law_back), sl_law_back⟩)
    (c_law_back : PySem.W.codeIn K cd_law_back "_law_back" = true)
    (k_law_back : PySem.W.keepIn K (.ref f_law_back) = true)
    (a_law : PySem.W.nsIn K mainGlobals "law" = some (some (.ref f_law)))
    (l_law : K.lookup f_law = some ⟨oc_law, od_law, .func (PySem.W.fnOf "law" "law" (defArgs s_law) (defBody s_law) (defScope s_law) .none kV_law dc_law pm_law an_law cd_law ct_law), sl_law⟩)
    (c_law : PySem.W.codeIn K cd_law "law" = true)
    (k_law : PySem.W.keepIn K (.ref f_law) = true)
    (ad_CONTRARY : PySem.W.nsIn K mainGlobals "CONTRARY" = some (some (.ref D_CONTRARY)))
    (ld_CONTRARY : K.lookup D_CONTRARY = some ⟨.type "dict", none, .dict es_CONTRARY nn_CONTRARY, #[]⟩)
    (kl_CONTRARY : PySem.W.KeysLit w.params es_CONTRARY.toList)
    (sm_CONTRARY : (D_CONTRARY == sysModules) = false)
    (e_CONTRARY_less : PySem.W.nsIn K D_CONTRARY "less" = some (some (.str "more" te_CONTRARY_less)))
    (e_CONTRARY_more : PySem.W.nsIn K D_CONTRARY "more" = some (some (.str "less" te_CONTRARY_more)))
    (ad_NUMBERS : PySem.W.nsIn K mainGlobals "NUMBERS" = some (some (.ref D_NUMBERS)))
    (ld_NUMBERS : K.lookup D_NUMBERS = some ⟨.type "dict", none, .dict es_NUMBERS nn_NUMBERS, #[]⟩)
    (kl_NUMBERS : PySem.W.KeysLit w.params es_NUMBERS.toList)
    (sm_NUMBERS : (D_NUMBERS == sysModules) = false)
    (e_NUMBERS_less : PySem.W.nsIn K D_NUMBERS "less" = some (some (.int 2 te_NUMBERS_less)))
    (e_NUMBERS_more : PySem.W.nsIn K D_NUMBERS "more" = some (some (.int 2 te_NUMBERS_more)))
    (e_NUMBERS_past : PySem.W.nsIn K D_NUMBERS "past" = some (some (.int 3 te_NUMBERS_past)))
    (ad_STEPS : PySem.W.nsIn K mainGlobals "STEPS" = some (some (.ref D_STEPS)))
    (ld_STEPS : K.lookup D_STEPS = some ⟨.type "dict", none, .dict es_STEPS nn_STEPS, #[]⟩)
    (kl_STEPS : PySem.W.KeysLit w.params es_STEPS.toList)
    (sm_STEPS : (D_STEPS == sysModules) = false)
    (e_STEPS_less : PySem.W.nsIn K D_STEPS "less" = some (some (.ref f_less_of)))
    (e_STEPS_more : PySem.W.nsIn K D_STEPS "more" = some (some (.ref f_more_of)))
    (e_STEPS_past : PySem.W.nsIn K D_STEPS "past" = some (some (.ref f_past_of)))
    (f_z0 : PySem.W.nsIn K D_NUMBERS "Less" = some none)
    (f_z1 : PySem.W.nsIn K D_NUMBERS "lesser" = some none)
    (f_z2 : PySem.W.nsIn K D_NUMBERS "" = some none)
    (f_z3 : PySem.W.nsIn K D_NUMBERS "pass" = some none)
    (f_z4 : PySem.W.nsIn K D_NUMBERS "1" = some none) :
    ∃ fd : FuncData, (∀ (s : Shared) (v : Value), BindsTo s fd ⟨[v], []⟩ [("_law_script", v)]) ∧ ∀ base : Heap, K.In base → base.Ns mainGlobals mg → FnOk l.prog w K mg base CX0 10 fa fd ["_law_script"] (sp_law K) := by
  have e := hfa.symm.trans (PySem.W.mg_of X G a_law)
  cases e
  have T : Txt K mg w D_CONTRARY D_NUMBERS D_STEPS C_Canon C_NoRow C_NoStep C_Walk C_World := ⟨PySem.W.mg_none_of X G z_LookupError, PySem.W.mg_none_of X G z_all, PySem.W.mg_none_of X G z_bool, PySem.W.mg_none_of X G z_enumerate, PySem.W.mg_none_of X G z_frozenset, PySem.W.mg_none_of X G z_int, PySem.W.mg_none_of X G z_isinstance, PySem.W.mg_none_of X G z_len, PySem.W.mg_none_of X G z_list, PySem.W.mg_none_of X G z_max, PySem.W.mg_none_of X G z_min, PySem.W.mg_none_of X G z_range, PySem.W.mg_none_of X G z_sorted, PySem.W.mg_none_of X G z_str, PySem.W.mg_none_of X G z_sum, PySem.W.mg_none_of X G z_tuple, ⟨_, PySem.W.mg_of X G n_DEEDS, ⟨_, rfl⟩⟩, ⟨_, PySem.W.mg_of X G n_MOST_LONG, ⟨_, rfl⟩⟩, ⟨_, PySem.W.mg_of X G n_MOST_PLACES, ⟨_, rfl⟩⟩, ⟨_, PySem.W.mg_of X G n_MOST_SIGNS, ⟨_, rfl⟩⟩, ⟨_, PySem.W.mg_of X G n_MOST_THINGS, ⟨_, rfl⟩⟩, ⟨_, PySem.W.mg_of X G n_SIGNS, ⟨_, rfl⟩⟩, w_LookupError, y_Canon_own_end, y_Canon_own_known, y_Canon_own_leaves, y_Canon_own_steps, y_NoStep_number, y_Walk_own_end, y_Walk_own_places, y_World_own_many, y_World_own_ways, ⟨PySem.W.mg_of X G aC_NoRow, xC_NoRow, kC_NoRow, bC_NoRow, tC_NoRow, iC_NoRow, sC_NoRow, ⟨hg_NoRow, hk_NoRow, bC_NoRow, hd_NoRow, ha_NoRow, hn, ht, hm_NoRow⟩⟩, ⟨PySem.W.mg_of X G aC_NoStep, ⟨PySem.XB0.XB.of PySem.F.excBase_LookupError, PySem.F.store_LookupError, xC_NoStep, oC_NoStep, hd_NoStep, sa_NoStep, bC_NoStep, tC_NoStep, kC_NoStep⟩, iC_NoStep, sC_NoStep, ⟨hg_NoStep, hk_NoStep, bC_NoStep, hd_NoStep, ha_NoStep, hn, ht, hm_NoStep⟩, ⟨hg_NoStep, hk_NoStep, bC_NoStep, hd_NoStep⟩⟩, ⟨PySem.W.mg_of X G aC_Canon, ⟨pg_Canon, hd_Canon, po_Canon, sa_Canon⟩, mk_Canon, kC_Canon⟩, ⟨PySem.W.mg_of X G aC_Walk, ⟨pg_Walk, hd_Walk, po_Walk, sa_Walk⟩, mk_Walk, kC_Walk⟩, ⟨PySem.W.mg_of X G aC_World, ⟨pg_World, hd_World, po_World, sa_World⟩, mk_World, kC_World⟩, ⟨PySem.W.mg_of X G ad_CONTRARY, ⟨es_CONTRARY, nn_CONTRARY, ⟨ld_CONTRARY, kl_CONTRARY, sm_CONTRARY⟩⟩⟩, ⟨_, e_CONTRARY_less⟩, ⟨_, e_CONTRARY_more⟩, ⟨PySem.W.mg_of X G ad_NUMBERS, ⟨es_NUMBERS, nn_NUMBERS, ⟨ld_NUMBERS, kl_NUMBERS, sm_NUMBERS⟩⟩⟩, ⟨_, e_NUMBERS_less⟩, ⟨_, e_NUMBERS_more⟩, ⟨_, e_NUMBERS_past⟩, ⟨PySem.W.mg_of X G ad_STEPS, ⟨es_STEPS, nn_STEPS, ⟨ld_STEPS, kl_STEPS, sm_STEPS⟩⟩⟩, ⟨_, PySem.W.mg_of X G a_less_of, e_STEPS_less⟩, ⟨_, PySem.W.mg_of X G a_more_of, e_STEPS_more⟩, ⟨_, PySem.W.mg_of X G a_past_of, e_STEPS_past⟩, f_w1, f_w2, f_w3, f_w4, f_u1, f_u4, f_n1, f_z0, f_z1, f_z2, f_z3, f_z4⟩
  have F_law_pool := fun_mk (st := s_law_pool) l_law_pool c_law_pool k_law_pool
  have b_law_pool := F_law_pool.binds (ps := ["_law_script", "_law_k"]) fun _ _ _ _ _ _ us hl => match us, hl with | [_, _], _ => rfl
  have F_law_take := fun_mk (st := s_law_take) l_law_take c_law_take k_law_take
  have b_law_take := F_law_take.binds (ps := ["_law_pool_here", "_law_many"]) fun _ _ _ _ _ _ us hl => match us, hl with | [_, _], _ => rfl
  have F_law_turned := fun_mk (st := s_law_turned) l_law_turned c_law_turned k_law_turned
  have b_law_turned := F_law_turned.binds (ps := ["_law_text"]) fun _ _ _ _ _ _ us hl => match us, hl with | [_], _ => rfl
  have F_law_row := fun_mk (st := s_law_row) l_law_row c_law_row k_law_row
  have b_law_row := F_law_row.binds (ps := ["_law_pool_here", "_law_most", "_law_deeds"]) fun _ _ _ _ _ _ us hl => match us, hl with | [_, _, _], _ => rfl
  have F_law_other := fun_mk (st := s_law_other) l_law_other c_law_other k_law_other
  have b_law_other := F_law_other.binds (ps := ["_law_pool_here", "_law_row_here", "_law_deeds"]) fun _ _ _ _ _ _ us hl => match us, hl with | [_, _, _], _ => rfl
  have F_is_row_within := fun_mk (st := s_is_row_within) l_is_row_within c_is_row_within k_is_row_within
  have b_is_row_within := F_is_row_within.binds (ps := ["thing", "most"]) fun _ _ _ _ _ _ us hl => match us, hl with | [_, _], _ => rfl
  have F_is_row := fun_mk (st := s_is_row) l_is_row c_is_row k_is_row
  have b_is_row := F_is_row.binds (ps := ["thing"]) fun _ _ _ _ _ _ us hl => match us, hl with | [_], _ => rfl
  have F_look_at_row := fun_mk (st := s_look_at_row) l_look_at_row c_look_at_row k_look_at_row
  have b_look_at_row := F_look_at_row.binds (ps := ["thing"]) fun _ _ _ _ _ _ us hl => match us, hl with | [_], _ => rfl
  have F_contrary_sign := fun_mk (st := s_contrary_sign) l_contrary_sign c_contrary_sign k_contrary_sign
  have b_contrary_sign := F_contrary_sign.binds (ps := ["sign"]) fun _ _ _ _ _ _ us hl => match us, hl with | [_], _ => rfl
  have F_made_plain := fun_mk (st := s_made_plain) l_made_plain c_made_plain k_made_plain
  have b_made_plain := F_made_plain.binds (ps := ["text"]) fun _ _ _ _ _ _ us hl => match us, hl with | [_], _ => rfl
  have F_is_plain_row := fun_mk (st := s_is_plain_row) l_is_plain_row c_is_plain_row k_is_plain_row
  have b_is_plain_row := F_is_plain_row.binds (ps := ["thing"]) fun _ _ _ _ _ _ us hl => match us, hl with | [_], _ => rfl
  have F_first_wrong := fun_mk (st := s_first_wrong) l_first_wrong c_first_wrong k_first_wrong
  have b_first_wrong := F_first_wrong.binds (ps := ["places"]) fun _ _ _ _ _ _ us hl => match us, hl with | [_], _ => rfl
  have F_rank := fun_mk (st := s_rank) l_rank c_rank k_rank
  have b_rank := F_rank.binds (ps := ["text"]) fun _ _ _ _ _ _ us hl => match us, hl with | [_], _ => rfl
  have F_Walk___init__ := funD_mk (st := s_Walk___init__) (its := [.none, .str "" td1_Walk___init__]) (dvs := [.non, .str ""]) l_Walk___init__ c_Walk___init__ k_Walk___init__ t_Walk___init__ rfl (.cons rfl (.cons ⟨_, rfl⟩ .nil)) (by simp)
  obtain ⟨ds_Walk___init__, v_Walk___init__, b_Walk___init__⟩ := FunD.binds1 F_Walk___init__ (ps := ["self", "places", "end"]) 3 2 (by simp) rfl fun _ _ _ _ _ _ _ us its hu hi => match us, hu, its, hi with | [_, _, _], _, [_, _], _ => ⟨_, rfl, rfl⟩
  have F_gone := fun_mk (st := s_gone) l_gone c_gone k_gone
  have b_gone := F_gone.binds (ps := ["text"]) fun _ _ _ _ _ _ us hl => match us, hl with | [_], _ => rfl
  have F_walk_of := fun_mk (st := s_walk_of) l_walk_of c_walk_of k_walk_of
  have b_walk_of := F_walk_of.binds (ps := ["row"]) fun _ _ _ _ _ _ us hl => match us, hl with | [_], _ => rfl
  have F_Walk___eq__ := fun_mk (st := s_Walk___eq__) l_Walk___eq__ c_Walk___eq__ k_Walk___eq__
  have b_Walk___eq__ := F_Walk___eq__.binds (ps := ["self", "other"]) fun _ _ _ _ _ _ us hl => match us, hl with | [_, _], _ => rfl
  have F_same := fun_mk (st := s_same) l_same c_same k_same
  have b_same := F_same.binds (ps := ["one", "other"]) fun _ _ _ _ _ _ us hl => match us, hl with | [_, _], _ => rfl
  have F_Canon___init__ := fun_mk (st := s_Canon___init__) l_Canon___init__ c_Canon___init__ k_Canon___init__
  have b_Canon___init__ := F_Canon___init__.binds (ps := ["self"]) fun _ _ _ _ _ _ us hl => match us, hl with | [_], _ => rfl
  have F_Canon_at_leaf := fun_mk (st := s_Canon_at_leaf) l_Canon_at_leaf c_Canon_at_leaf k_Canon_at_leaf
  have b_Canon_at_leaf := F_Canon_at_leaf.binds (ps := ["self", "number"]) fun _ _ _ _ _ _ us hl => match us, hl with | [_, _], _ => rfl
  have F_Canon_swap := fun_mk (st := s_Canon_swap) l_Canon_swap c_Canon_swap k_Canon_swap
  have b_Canon_swap := F_Canon_swap.binds (ps := ["self", "number"]) fun _ _ _ _ _ _ us hl => match us, hl with | [_, _], _ => rfl
  have F_Canon_to_end := fun_mk (st := s_Canon_to_end) l_Canon_to_end c_Canon_to_end k_Canon_to_end
  have b_Canon_to_end := F_Canon_to_end.binds (ps := ["self", "leaf"]) fun _ _ _ _ _ _ us hl => match us, hl with | [_, _], _ => rfl
  have F_Canon_to_order := fun_mk (st := s_Canon_to_order) l_Canon_to_order c_Canon_to_order k_Canon_to_order
  have b_Canon_to_order := F_Canon_to_order.binds (ps := ["self"]) fun _ _ _ _ _ _ us hl => match us, hl with | [_], _ => rfl
  have F_Canon_fall := fun_mk (st := s_Canon_fall) l_Canon_fall c_Canon_fall k_Canon_fall
  have b_Canon_fall := F_Canon_fall.binds (ps := ["self"]) fun _ _ _ _ _ _ us hl => match us, hl with | [_], _ => rfl
  have F_Canon_grow := fun_mk (st := s_Canon_grow) l_Canon_grow c_Canon_grow k_Canon_grow
  have b_Canon_grow := F_Canon_grow.binds (ps := ["self", "place"]) fun _ _ _ _ _ _ us hl => match us, hl with | [_, _], _ => rfl
  have F_Canon_go_on := fun_mk (st := s_Canon_go_on) l_Canon_go_on c_Canon_go_on k_Canon_go_on
  have b_Canon_go_on := F_Canon_go_on.binds (ps := ["self", "sign"]) fun _ _ _ _ _ _ us hl => match us, hl with | [_, _], _ => rfl
  have F_canon_steps := fun_mk (st := s_canon_steps) l_canon_steps c_canon_steps k_canon_steps
  have b_canon_steps := F_canon_steps.binds (ps := ["row"]) fun _ _ _ _ _ _ us hl => match us, hl with | [_], _ => rfl
  have F_back_step := fun_mk (st := s_back_step) l_back_step c_back_step k_back_step
  have b_back_step := F_back_step.binds (ps := ["step"]) fun _ _ _ _ _ _ us hl => match us, hl with | [_], _ => rfl
  have F_chain := fun_mk (st := s_chain) l_chain c_chain k_chain
  have b_chain := F_chain.binds (ps := ["one", "other"]) fun _ _ _ _ _ _ us hl => match us, hl with | [_, _], _ => rfl
  have F_Walk_places := fun_mk (st := s_Walk_places) l_Walk_places c_Walk_places k_Walk_places
  have b_Walk_places := F_Walk_places.binds (ps := ["self"]) fun _ _ _ _ _ _ us hl => match us, hl with | [_], _ => rfl
  have F_all_within := fun_mk (st := s_all_within) l_all_within c_all_within k_all_within
  have b_all_within := F_all_within.binds (ps := ["one", "other"]) fun _ _ _ _ _ _ us hl => match us, hl with | [_, _], _ => rfl
  have F_is_whole := fun_mk (st := s_is_whole) l_is_whole c_is_whole k_is_whole
  have b_is_whole := F_is_whole.binds (ps := ["thing"]) fun _ _ _ _ _ _ us hl => match us, hl with | [_], _ => rfl
  have F_World___init__ := funD_mk (st := s_World___init__) (its := [.int 0 td0_World___init__]) (dvs := [.int 0]) l_World___init__ c_World___init__ k_World___init__ t_World___init__ rfl (.cons ⟨_, rfl⟩ .nil) (by simp)
  obtain ⟨ds_World___init__, v_World___init__, b_World___init__⟩ := FunD.binds1 F_World___init__ (ps := ["self", "things"]) 2 1 (by simp) rfl fun _ _ _ _ _ _ _ us its hu hi => match us, hu, its, hi with | [_, _], _, [_], _ => ⟨_, rfl, rfl⟩
  have F_World_look_at_deed := fun_mk (st := s_World_look_at_deed) l_World_look_at_deed c_World_look_at_deed k_World_look_at_deed
  have b_World_look_at_deed := F_World_look_at_deed.binds (ps := ["self", "deed"]) fun _ _ _ _ _ _ us hl => match us, hl with | [_, _], _ => rfl
  have F_World_look_at_thing := fun_mk (st := s_World_look_at_thing) l_World_look_at_thing c_World_look_at_thing k_World_look_at_thing
  have b_World_look_at_thing := F_World_look_at_thing.binds (ps := ["self", "thing"]) fun _ _ _ _ _ _ us hl => match us, hl with | [_, _], _ => rfl
  have F_World_lay := fun_mk (st := s_World_lay) l_World_lay c_World_lay k_World_lay
  have b_World_lay := F_World_lay.binds (ps := ["self", "deed", "one", "other"]) fun _ _ _ _ _ _ us hl => match us, hl with | [_, _, _, _], _ => rfl
  have F_Walk_world := fun_mk (st := s_Walk_world) l_Walk_world c_Walk_world k_Walk_world
  have b_Walk_world := F_Walk_world.binds (ps := ["self"]) fun _ _ _ _ _ _ us hl => match us, hl with | [_], _ => rfl
  have F_unlike := fun_mk (st := s_unlike) l_unlike c_unlike k_unlike
  have b_unlike := F_unlike.binds (ps := ["one", "other"]) fun _ _ _ _ _ _ us hl => match us, hl with | [_, _], _ => rfl
  have F_World___len__ := fun_mk (st := s_World___len__) l_World___len__ c_World___len__ k_World___len__
  have b_World___len__ := F_World___len__.binds (ps := ["self"]) fun _ _ _ _ _ _ us hl => match us, hl with | [_], _ => rfl
  have F_World_led_on := fun_mk (st := s_World_led_on) l_World_led_on c_World_led_on k_World_led_on
  have b_World_led_on := F_World_led_on.binds (ps := ["self", "text", "thing"]) fun _ _ _ _ _ _ us hl => match us, hl with | [_, _, _], _ => rfl
  have F_World_led := fun_mk (st := s_World_led) l_World_led c_World_led k_World_led
  have b_World_led := F_World_led.binds (ps := ["self", "row", "thing"]) fun _ _ _ _ _ _ us hl => match us, hl with | [_, _, _], _ => rfl
  have F_tells_unlike := fun_mk (st := s_tells_unlike) l_tells_unlike c_tells_unlike k_tells_unlike
  have b_tells_unlike := F_tells_unlike.binds (ps := ["one", "other", "thing"]) fun _ _ _ _ _ _ us hl => match us, hl with | [_, _, _], _ => rfl
  have F_is_long_row := fun_mk (st := s_is_long_row) l_is_long_row c_is_long_row k_is_long_row
  have b_is_long_row := F_is_long_row.binds (ps := ["thing"]) fun _ _ _ _ _ _ us hl => match us, hl with | [_], _ => rfl
  have F_look_at_long_row := fun_mk (st := s_look_at_long_row) l_look_at_long_row c_look_at_long_row k_look_at_long_row
  have b_look_at_long_row := F_look_at_long_row.binds (ps := ["thing"]) fun _ _ _ _ _ _ us hl => match us, hl with | [_], _ => rfl
  have F_part_of := fun_mk (st := s_part_of) l_part_of c_part_of k_part_of
  have b_part_of := F_part_of.binds (ps := ["text", "at", "many"]) fun _ _ _ _ _ _ us hl => match us, hl with | [_, _, _], _ => rfl
  have F_turned := fun_mk (st := s_turned) l_turned c_turned k_turned
  have b_turned := F_turned.binds (ps := ["text"]) fun _ _ _ _ _ _ us hl => match us, hl with | [_], _ => rfl
  have F_less_of := fun_mk (st := s_less_of) l_less_of c_less_of k_less_of
  have b_less_of := F_less_of.binds (ps := ["text", "at", "many"]) fun _ _ _ _ _ _ us hl => match us, hl with | [_, _, _], _ => rfl
  have F_more_of := fun_mk (st := s_more_of) l_more_of c_more_of k_more_of
  have b_more_of := F_more_of.binds (ps := ["text", "at", "many"]) fun _ _ _ _ _ _ us hl => match us, hl with | [_, _, _], _ => rfl
  have F_is_formed := fun_mk (st := s_is_formed) l_is_formed c_is_formed k_is_formed
  have b_is_formed := F_is_formed.binds (ps := ["step"]) fun _ _ _ _ _ _ us hl => match us, hl with | [_], _ => rfl
  have F_past_of := fun_mk (st := s_past_of) l_past_of c_past_of k_past_of
  have b_past_of := F_past_of.binds (ps := ["text", "at", "many", "more"]) fun _ _ _ _ _ _ us hl => match us, hl with | [_, _, _, _], _ => rfl
  have F_done := fun_mk (st := s_done) l_done c_done k_done
  have b_done := F_done.binds (ps := ["text", "step"]) fun _ _ _ _ _ _ us hl => match us, hl with | [_, _], _ => rfl
  have F_NoStep___init__ := fun_mk (st := s_NoStep___init__) l_NoStep___init__ c_NoStep___init__ k_NoStep___init__
  have b_NoStep___init__ := F_NoStep___init__.binds (ps := ["self", "number"]) fun _ _ _ _ _ _ us hl => match us, hl with | [_, _], _ => rfl
  have F_led_on := fun_mk (st := s_led_on) l_led_on c_led_on k_led_on
  have b_led_on := F_led_on.binds (ps := ["row", "steps"]) fun _ _ _ _ _ _ us hl => match us, hl with | [_, _], _ => rfl
  have F_is_chain := fun_mk (st := s_is_chain) l_is_chain c_is_chain k_is_chain
  have b_is_chain := F_is_chain.binds (ps := ["one", "other", "thing"]) fun _ _ _ _ _ _ us hl => match us, hl with | [_, _, _], _ => rfl
  have F_law_back := fun_mk (st := s_law_back) l_law_back c_law_back k_law_back
  have b_law_back := F_law_back.binds (ps := ["_law_step"]) fun _ _ _ _ _ _ us hl => match us, hl with | [_], _ => rfl
  have F_law := fun_mk (st := s_law) l_law c_law k_law
  refine ⟨PySem.W.fnOf "law" "law" (defArgs s_law) (defBody s_law) (defScope s_law) .none kV_law dc_law pm_law an_law cd_law ct_law, fun s v => .of_eq rfl, fun base _ _ => ?_⟩
  have N_law_pool : KN l.prog w K mg base CX0 1 ["_law_script", "_law_k"] (sp_law_pool K) "_law_pool" [] := ⟨_, _, [], PySem.W.mg_of X G a_law_pool, k_law_pool, .nil, b_law_pool, ok_law_pool F_law_pool T⟩
  have N_law_take : KN l.prog w K mg base CX0 1 ["_law_pool_here", "_law_many"] (sp_law_take) "_law_take" [] := ⟨_, _, [], PySem.W.mg_of X G a_law_take, k_law_take, .nil, b_law_take, ok_law_take F_law_take T⟩
  have N_law_turned : KN l.prog w K mg base CX0 1 ["_law_text"] (sp_law_turned) "_law_turned" [] := ⟨_, _, [], PySem.W.mg_of X G a_law_turned, k_law_turned, .nil, b_law_turned, ok_law_turned F_law_turned T⟩
  have N_law_row : KN l.prog w K mg base CX0 2 ["_law_pool_here", "_law_most", "_law_deeds"] (sp_law_row) "_law_row" [] := ⟨_, _, [], PySem.W.mg_of X G a_law_row, k_law_row, .nil, b_law_row, ok_law_row F_law_row T N_law_take N_law_turned⟩
  have N_law_other : KN l.prog w K mg base CX0 3 ["_law_pool_here", "_law_row_here", "_law_deeds"] (sp_law_other K) "_law_other" [] := ⟨_, _, [], PySem.W.mg_of X G a_law_other, k_law_other, .nil, b_law_other, ok_law_other F_law_other T N_law_take N_law_row N_law_turned⟩
  have N_is_row_within : KN l.prog w K mg base CX0 1 ["thing", "most"] (sp_is_row_within) "is_row_within" [] := ⟨_, _, [], PySem.W.mg_of X G a_is_row_within, k_is_row_within, .nil, b_is_row_within, ok_is_row_within F_is_row_within T⟩
  have N_is_row : KN l.prog w K mg base CX0 2 ["thing"] (sp_is_row) "is_row" [] := ⟨_, _, [], PySem.W.mg_of X G a_is_row, k_is_row, .nil, b_is_row, ok_is_row F_is_row T N_is_row_within⟩
  have N_look_at_row : KN l.prog w K mg base CX0 3 ["thing"] (sp_look_at_row) "look_at_row" [] := ⟨_, _, [], PySem.W.mg_of X G a_look_at_row, k_look_at_row, .nil, b_look_at_row, ok_look_at_row F_look_at_row T N_is_row⟩
  have N_contrary_sign : KN l.prog w K mg base CX0 1 ["sign"] (sp_contrary_sign) "contrary_sign" [] := ⟨_, _, [], PySem.W.mg_of X G a_contrary_sign, k_contrary_sign, .nil, b_contrary_sign, ok_contrary_sign F_contrary_sign T⟩
  have N_made_plain : KN l.prog w K mg base CX0 2 ["text"] (sp_made_plain) "made_plain" [] := ⟨_, _, [], PySem.W.mg_of X G a_made_plain, k_made_plain, .nil, b_made_plain, ok_made_plain F_made_plain T N_contrary_sign⟩
  have N_is_plain_row : KN l.prog w K mg base CX0 3 ["thing"] (sp_is_plain_row) "is_plain_row" [] := ⟨_, _, [], PySem.W.mg_of X G a_is_plain_row, k_is_plain_row, .nil, b_is_plain_row, ok_is_plain_row F_is_plain_row T N_is_row N_made_plain⟩
  have N_first_wrong : KN l.prog w K mg base CX0 4 ["places"] (sp_first_wrong K) "first_wrong" [] := ⟨_, _, [], PySem.W.mg_of X G a_first_wrong, k_first_wrong, .nil, b_first_wrong, ok_first_wrong F_first_wrong T N_is_plain_row⟩
  have N_rank : KN l.prog w K mg base CX0 1 ["text"] (sp_rank) "rank" [] := ⟨_, _, [], PySem.W.mg_of X G a_rank, k_rank, .nil, b_rank, ok_rank F_rank T⟩
  have N_Walk___init__ : KM l.prog w K mg base CX0 5 ["self", "places", "end"] (sp_Walk___init__ K C_Walk) C_Walk "__init__" [] := ⟨_, _, _, a_Walk___init__, u_Walk___init__, fn_Walk___init__, k_Walk___init__, v_Walk___init__, b_Walk___init__, ok_Walk___init__ F_Walk___init__ T N_first_wrong N_rank⟩
  have N_gone : KN l.prog w K mg base CX0 3 ["text"] (sp_gone) "gone" [] := ⟨_, _, [], PySem.W.mg_of X G a_gone, k_gone, .nil, b_gone, ok_gone F_gone T N_made_plain⟩
  have N_walk_of : KN l.prog w K mg base CX0 7 ["row"] (sp_walk_of C_Walk) "walk_of" [] := ⟨_, _, [], PySem.W.mg_of X G a_walk_of, k_walk_of, .nil, b_walk_of, ok_walk_of F_walk_of T N_look_at_row N_Walk___init__ N_gone N_made_plain⟩
  have N_Walk___eq__ : KM l.prog w K mg base CX0 1 ["self", "other"] (sp_Walk___eq__ K C_Walk) C_Walk "__eq__" [] := ⟨_, _, [], a_Walk___eq__, u_Walk___eq__, fn_Walk___eq__, k_Walk___eq__, .nil, b_Walk___eq__, ok_Walk___eq__ F_Walk___eq__ T⟩
  have N_same : KN l.prog w K mg base CX0 8 ["one", "other"] (sp_same K C_Walk) "same" [] := ⟨_, _, [], PySem.W.mg_of X G a_same, k_same, .nil, b_same, ok_same F_same T N_look_at_row N_walk_of N_Walk___eq__⟩
  have N_Canon___init__ : KM l.prog w K mg base CX0 1 ["self"] (sp_Canon___init__ C_Canon) C_Canon "__init__" [] := ⟨_, _, [], a_Canon___init__, u_Canon___init__, fn_Canon___init__, k_Canon___init__, .nil, b_Canon___init__, ok_Canon___init__ F_Canon___init__ T⟩
  have N_Canon_at_leaf : KM l.prog w K mg base CX0 1 ["self", "number"] (sp_Canon_at_leaf K C_Canon) C_Canon "at_leaf" [] := ⟨_, _, [], a_Canon_at_leaf, u_Canon_at_leaf, fn_Canon_at_leaf, k_Canon_at_leaf, .nil, b_Canon_at_leaf, ok_Canon_at_leaf F_Canon_at_leaf T⟩
  have N_Canon_swap : KM l.prog w K mg base CX0 2 ["self", "number"] (sp_Canon_swap K C_Canon) C_Canon "swap" [] := ⟨_, _, [], a_Canon_swap, u_Canon_swap, fn_Canon_swap, k_Canon_swap, .nil, b_Canon_swap, ok_Canon_swap F_Canon_swap T N_Canon_at_leaf⟩
  have N_Canon_to_end : KM l.prog w K mg base CX0 3 ["self", "leaf"] (sp_Canon_to_end K C_Canon) C_Canon "to_end" [] := ⟨_, _, [], a_Canon_to_end, u_Canon_to_end, fn_Canon_to_end, k_Canon_to_end, .nil, b_Canon_to_end, ok_Canon_to_end F_Canon_to_end T N_Canon_swap⟩
  have N_Canon_to_order : KM l.prog w K mg base CX0 3 ["self"] (sp_Canon_to_order K C_Canon) C_Canon "to_order" [] := ⟨_, _, [], a_Canon_to_order, u_Canon_to_order, fn_Canon_to_order, k_Canon_to_order, .nil, b_Canon_to_order, ok_Canon_to_order F_Canon_to_order T N_rank N_Canon_swap⟩
  have N_Canon_fall : KM l.prog w K mg base CX0 4 ["self"] (sp_Canon_fall K C_Canon) C_Canon "fall" [] := ⟨_, _, [], a_Canon_fall, u_Canon_fall, fn_Canon_fall, k_Canon_fall, .nil, b_Canon_fall, ok_Canon_fall F_Canon_fall T N_Canon_to_end N_Canon_at_leaf N_Canon_to_order⟩
  have N_Canon_grow : KM l.prog w K mg base CX0 4 ["self", "place"] (sp_Canon_grow K C_Canon) C_Canon "grow" [] := ⟨_, _, [], a_Canon_grow, u_Canon_grow, fn_Canon_grow, k_Canon_grow, .nil, b_Canon_grow, ok_Canon_grow F_Canon_grow T N_Canon_to_end N_Canon_at_leaf N_Canon_to_order⟩
  have N_Canon_go_on : KM l.prog w K mg base CX0 5 ["self", "sign"] (sp_Canon_go_on K C_Canon) C_Canon "go_on" [] := ⟨_, _, [], a_Canon_go_on, u_Canon_go_on, fn_Canon_go_on, k_Canon_go_on, .nil, b_Canon_go_on, ok_Canon_go_on F_Canon_go_on T N_contrary_sign N_Canon_fall N_Canon_grow⟩
  have N_canon_steps : KN l.prog w K mg base CX0 6 ["row"] (sp_canon_steps K C_Canon) "canon_steps" [] := ⟨_, _, [], PySem.W.mg_of X G a_canon_steps, k_canon_steps, .nil, b_canon_steps, ok_canon_steps F_canon_steps T N_Canon___init__ N_Canon_go_on⟩
  have N_back_step : KN l.prog w K mg base CX0 1 ["step"] (sp_back_step K) "back_step" [] := ⟨_, _, [], PySem.W.mg_of X G a_back_step, k_back_step, .nil, b_back_step, ok_back_step F_back_step T⟩
  have N_chain : KN l.prog w K mg base CX0 9 ["one", "other"] (sp_chain K C_Canon C_Walk) "chain" [] := ⟨_, _, [], PySem.W.mg_of X G a_chain, k_chain, .nil, b_chain, ok_chain F_chain T N_same N_canon_steps N_back_step⟩
  have N_Walk_places : KM l.prog w K mg base CX0 1 ["self"] (sp_Walk_places C_Walk) C_Walk "places" [] := ⟨_, _, [], a_Walk_places, u_Walk_places, fn_Walk_places, k_Walk_places, .nil, b_Walk_places, ok_Walk_places F_Walk_places T⟩
  have N_all_within : KN l.prog w K mg base CX0 2 ["one", "other"] (sp_all_within K C_Walk) "all_within" [] := ⟨_, _, [], PySem.W.mg_of X G a_all_within, k_all_within, .nil, b_all_within, ok_all_within F_all_within T N_Walk_places⟩
  have N_is_whole : KN l.prog w K mg base CX0 1 ["thing"] (sp_is_whole) "is_whole" [] := ⟨_, _, [], PySem.W.mg_of X G a_is_whole, k_is_whole, .nil, b_is_whole, ok_is_whole F_is_whole T⟩
  have N_World___init__ : KM l.prog w K mg base CX0 2 ["self", "things"] (sp_World___init__ C_World) C_World "__init__" [] := ⟨_, _, _, a_World___init__, u_World___init__, fn_World___init__, k_World___init__, v_World___init__, b_World___init__, ok_World___init__ F_World___init__ T N_is_whole⟩
  have N_World_look_at_deed : KM l.prog w K mg base CX0 1 ["self", "deed"] (sp_World_look_at_deed C_World) C_World "look_at_deed" [] := ⟨_, _, [], a_World_look_at_deed, u_World_look_at_deed, fn_World_look_at_deed, k_World_look_at_deed, .nil, b_World_look_at_deed, ok_World_look_at_deed F_World_look_at_deed T⟩
  have N_World_look_at_thing : KM l.prog w K mg base CX0 2 ["self", "thing"] (sp_World_look_at_thing C_World) C_World "look_at_thing" [] := ⟨_, _, [], a_World_look_at_thing, u_World_look_at_thing, fn_World_look_at_thing, k_World_look_at_thing, .nil, b_World_look_at_thing, ok_World_look_at_thing F_World_look_at_thing T N_is_whole⟩
  have N_World_lay : KM l.prog w K mg base CX0 3 ["self", "deed", "one", "other"] (sp_World_lay C_World) C_World "lay" [] := ⟨_, _, [], a_World_lay, u_World_lay, fn_World_lay, k_World_lay, .nil, b_World_lay, ok_World_lay F_World_lay T N_World_look_at_deed N_World_look_at_thing⟩
  have N_Walk_world : KM l.prog w K mg base CX0 4 ["self"] (sp_Walk_world K C_Walk C_World) C_Walk "world" [] := ⟨_, _, [], a_Walk_world, u_Walk_world, fn_Walk_world, k_Walk_world, .nil, b_Walk_world, ok_Walk_world F_Walk_world T N_World___init__ N_World_lay⟩
  have N_unlike : KN l.prog w K mg base CX0 9 ["one", "other"] (sp_unlike K C_Walk C_World) "unlike" [] := ⟨_, _, [], PySem.W.mg_of X G a_unlike, k_unlike, .nil, b_unlike, ok_unlike F_unlike T N_same N_walk_of N_all_within N_Walk_world⟩
  have N_World___len__ : KM l.prog w K mg base CX0 1 ["self"] (sp_World___len__ C_World) C_World "__len__" [] := ⟨_, _, [], a_World___len__, u_World___len__, fn_World___len__, k_World___len__, .nil, b_World___len__, ok_World___len__ F_World___len__ T⟩
  have N_World_led_on : KM l.prog w K mg base CX0 1 ["self", "text", "thing"] (sp_World_led_on C_World) C_World "led_on" [] := ⟨_, _, [], a_World_led_on, u_World_led_on, fn_World_led_on, k_World_led_on, .nil, b_World_led_on, ok_World_led_on F_World_led_on T⟩
  have N_World_led : KM l.prog w K mg base CX0 4 ["self", "row", "thing"] (sp_World_led C_World) C_World "led" [] := ⟨_, _, [], a_World_led, u_World_led, fn_World_led, k_World_led, .nil, b_World_led, ok_World_led F_World_led T N_look_at_row N_World_look_at_thing N_World_led_on⟩
  have N_tells_unlike : KN l.prog w K mg base CX0 5 ["one", "other", "thing"] (sp_tells_unlike K C_World) "tells_unlike" [] := ⟨_, _, [], PySem.W.mg_of X G a_tells_unlike, k_tells_unlike, .nil, b_tells_unlike, ok_tells_unlike F_tells_unlike T N_look_at_row N_is_whole N_World___len__ N_World_led⟩
  have N_is_long_row : KN l.prog w K mg base CX0 2 ["thing"] (sp_is_long_row) "is_long_row" [] := ⟨_, _, [], PySem.W.mg_of X G a_is_long_row, k_is_long_row, .nil, b_is_long_row, ok_is_long_row F_is_long_row T N_is_row_within⟩
  have N_look_at_long_row : KN l.prog w K mg base (L2.CX l.prog w) 3 ["thing"] (sp_look_at_long_row C_NoRow) "look_at_long_row" [] := ⟨_, _, [], PySem.W.mg_of X G a_look_at_long_row, k_look_at_long_row, .nil, b_look_at_long_row, ok_look_at_long_row F_look_at_long_row T N_is_long_row⟩
  have N_part_of : KN l.prog w K mg base CX0 1 ["text", "at", "many"] (sp_part_of) "part_of" [] := ⟨_, _, [], PySem.W.mg_of X G a_part_of, k_part_of, .nil, b_part_of, ok_part_of F_part_of T⟩
  have N_turned : KN l.prog w K mg base CX0 2 ["text"] (sp_turned) "turned" [] := ⟨_, _, [], PySem.W.mg_of X G a_turned, k_turned, .nil, b_turned, ok_turned F_turned T N_contrary_sign⟩
  have N_less_of : KN l.prog w K mg base CX0 3 ["text", "at", "many"] (sp_less_of) "less_of" [] := ⟨_, _, [], PySem.W.mg_of X G a_less_of, k_less_of, .nil, b_less_of, ok_less_of F_less_of T N_part_of N_turned⟩
  have N_more_of : KN l.prog w K mg base CX0 3 ["text", "at", "many"] (sp_more_of) "more_of" [] := ⟨_, _, [], PySem.W.mg_of X G a_more_of, k_more_of, .nil, b_more_of, ok_more_of F_more_of T N_part_of N_turned⟩
  have N_is_formed : KN l.prog w K mg base CX0 2 ["step"] (sp_is_formed K) "is_formed" [] := ⟨_, _, [], PySem.W.mg_of X G a_is_formed, k_is_formed, .nil, b_is_formed, ok_is_formed F_is_formed T N_is_whole⟩
  have N_past_of : KN l.prog w K mg base CX0 3 ["text", "at", "many", "more"] (sp_past_of) "past_of" [] := ⟨_, _, [], PySem.W.mg_of X G a_past_of, k_past_of, .nil, b_past_of, ok_past_of F_past_of T N_part_of N_turned⟩
  have N_done : KN l.prog w K mg base CX0 4 ["text", "step"] (sp_done K) "done" [] := ⟨_, _, [], PySem.W.mg_of X G a_done, k_done, .nil, b_done, ok_done F_done T N_is_formed N_past_of N_less_of N_more_of⟩
  have N_NoStep___init__ : KM l.prog w K mg base CX0 1 ["self", "number"] (sp_NoStep___init__ C_NoStep) C_NoStep "__init__" [] := ⟨_, _, [], a_NoStep___init__, u_NoStep___init__, fn_NoStep___init__, k_NoStep___init__, .nil, b_NoStep___init__, ok_NoStep___init__ F_NoStep___init__ T⟩
  have N_led_on : KN l.prog w K mg base (L2.CX l.prog w) 5 ["row", "steps"] (sp_led_on K C_NoStep C_NoRow) "led_on" [] := ⟨_, _, [], PySem.W.mg_of X G a_led_on, k_led_on, .nil, b_led_on, ok_led_on F_led_on T N_look_at_long_row N_done N_NoStep___init__⟩
  have N_is_chain : KN l.prog w K mg base CX0 6 ["one", "other", "thing"] (sp_is_chain K C_NoStep C_NoRow) "is_chain" [] := ⟨_, _, [], PySem.W.mg_of X G a_is_chain, k_is_chain, .nil, b_is_chain, ok_is_chain F_is_chain T N_look_at_row N_led_on⟩
  have N_law_back : KN l.prog w K mg base CX0 1 ["_law_step"] (sp_law_back K) "_law_back" [] := ⟨_, _, [], PySem.W.mg_of X G a_law_back, k_law_back, .nil, b_law_back, ok_law_back F_law_back T⟩
  exact ok_law F_law T N_law_pool N_law_take N_law_row N_law_other N_chain N_unlike N_same N_tells_unlike N_is_chain N_led_on N_law_back
theorem walk {l : PySem.W.OpenLaw} {q : Program} {loose : List Str} {XP : (Str → Option Value) → Heap → Prop} {YP : World → Heap → Prop} {d : DefRec} {K : Params → PySem.W.Frag} (hn : l.most = some 63) (hdf : d.params.defaults = [])
    (hY : ∀ (w : World) (h : Heap), YP w h → (K w.params).In h)
    (F : ∀ (w : World) (mg : Str → Option Value) (fa : Addr) (h : Heap), (K w.params).In h → h.Ns mainGlobals mg → mg d.name = some (.ref fa) →
      ∃ fd : FuncData, (∀ (s : Shared) (u : Value), BindsTo s fd ⟨[u], []⟩ [("_law_script", u)]) ∧ ∀ base : Heap, (K w.params).In base → base.Ns mainGlobals mg → FnOk l.prog w (K w.params) mg base CX0 10 fa fd ["_law_script"] (sp_law (K w.params))) :
    PySem.W.WalkO q loose XP YP l.row.toRowW d [] (fun f vs => PySem.call f vs) :=
  L2.walk_of (n := 63) (k := 10) (x := "_law_script") (CX := fun _ => CX0) (sp := fun w => sp_law (K w.params)) hn (by decide) hdf ⟨rfl, by decide, by decide⟩ hY F (fun _ _ a ns hl _ hS => ⟨a, ns, rfl, hS, hl, fun _ => rfl⟩) fun _ _ _ _ _ z => z
end Toy

open PySem PySem.W PyProof.Rows in
set_option maxRecDepth 100000 in
set_option maxHeartbeats 0 in
theorem PySem.Challenge.cw_undotrees_k28_whole_a_chain_or_a_world_holds : PySem.Challenge.rw_undotrees_k28_whole_a_chain_or_a_world.Holds := by
  w_on; o_law; k_head; (case hw => w_witness2)
  k_fill
  refine Toy.walk (l := PySem.Challenge.rw_undotrees_k28_whole_a_chain_or_a_world) rfl rfl (fun w h Y => PySem.W.kIn_of Y) ?F
  case F =>
    intro w mg fa h KX G hmg
    refine' Toy.all_mk KX G hmg ?z_LookupError ?z_all ?z_bool ?z_enumerate ?z_frozenset ?z_int ?z_isinstance ?z_len ?z_list ?z_max ?z_min ?z_range ?z_sorted ?z_str ?z_sum ?z_tuple ?n_DEEDS ?n_MOST_LONG ?n_MOST_PLACES ?n_MOST_SIGNS ?n_MOST_THINGS ?n_SIGNS ?aC_NoRow ?xC_NoRow ?kC_NoRow ?bC_NoRow ?tC_NoRow ?iC_NoRow ?sC_NoRow ?hg_NoRow ?hk_NoRow ?hd_NoRow ?ha_NoRow ?hm_NoRow ?aC_NoStep ?xC_NoStep ?kC_NoStep ?bC_NoStep ?tC_NoStep ?iC_NoStep ?sC_NoStep ?hg_NoStep ?hk_NoStep ?hd_NoStep ?ha_NoStep ?hm_NoStep ?oC_NoStep ?sa_NoStep ?hn ?ht ?w_LookupError ?aC_Canon ?pg_Canon ?hd_Canon ?po_Canon ?sa_Canon ?mk_Canon ?kC_Canon ?aC_Walk ?pg_Walk ?hd_Walk ?po_Walk ?sa_Walk ?mk_Walk ?kC_Walk ?aC_World ?pg_World ?hd_World ?po_World ?sa_World ?mk_World ?kC_World ?y_Canon_own_end ?y_Canon_own_known ?y_Canon_own_leaves ?y_Canon_own_steps ?y_NoStep_number ?y_Walk_own_end ?y_Walk_own_places ?y_World_own_many ?y_World_own_ways ?f_w1 ?f_w2 ?f_w3 ?f_w4 ?f_u1 ?f_u4 ?f_n1 ?a_law_pool ?l_law_pool ?c_law_pool ?k_law_pool ?a_law_take ?l_law_take ?c_law_take ?k_law_take ?a_law_turned ?l_law_turned ?c_law_turned ?k_law_turned ?a_law_row ?l_law_row ?c_law_row ?k_law_row ?a_law_other ?l_law_other ?c_law_other ?k_law_other ?a_is_row_within ?l_is_row_within ?c_is_row_within ?k_is_row_within ?a_is_row ?l_is_row ?c_is_row ?k_is_row ?a_look_at_row ?l_look_at_row ?c_look_at_row ?k_look_at_row ?a_contrary_sign ?l_contrary_sign ?c_contrary_sign ?k_contrary_sign ?a_made_plain ?l_made_plain ?c_made_plain ?k_made_plain ?a_is_plain_row ?l_is_plain_row ?c_is_plain_row ?k_is_plain_row ?a_first_wrong ?l_first_wrong ?c_first_wrong ?k_first_wrong ?a_rank ?l_rank ?c_rank ?k_rank ?a_Walk___init__ ?l_Walk___init__ ?t_Walk___init__ ?c_Walk___init__ ?k_Walk___init__ ?u_Walk___init__ ?fn_Walk___init__ ?a_gone ?l_gone ?c_gone ?k_gone ?a_walk_of ?l_walk_of ?c_walk_of ?k_walk_of ?a_Walk___eq__ ?l_Walk___eq__ ?c_Walk___eq__ ?k_Walk___eq__ ?u_Walk___eq__ ?fn_Walk___eq__ ?a_same ?l_same ?c_same ?k_same ?a_Canon___init__ ?l_Canon___init__ ?c_Canon___init__ ?k_Canon___init__ ?u_Canon___init__ ?fn_Canon___init__ ?a_Canon_at_leaf ?l_Canon_at_leaf ?c_Canon_at_leaf ?k_Canon_at_leaf ?u_Canon_at_leaf ?fn_Canon_at_leaf ?a_Canon_swap ?l_Canon_swap ?c_Canon_swap ?k_Canon_swap ?u_Canon_swap ?fn_Canon_swap ?a_Canon_to_end ?l_Canon_to_end ?c_Canon_to_end ?k_Canon_to_end ?u_Canon_to_end ?fn_Canon_to_end ?a_Canon_to_order ?l_Canon_to_order ?c_Canon_to_order ?k_Canon_to_order ?u_Canon_to_order ?fn_Canon_to_order ?a_Canon_fall ?l_Canon_fall ?c_Canon_fall ?k_Canon_fall ?u_Canon_fall ?fn_Canon_fall ?a_Canon_grow ?l_Canon_grow ?c_Canon_grow ?k_Canon_grow ?u_Canon_grow ?fn_Canon_grow ?a_Canon_go_on ?l_Canon_go_on ?c_Canon_go_on ?k_Canon_go_on ?u_Canon_go_on ?fn_Canon_go_on ?a_canon_steps ?l_canon_steps ?c_canon_steps ?k_canon_steps ?a_back_step ?l_back_step ?c_back_step ?k_back_step ?a_chain ?l_chain ?c_chain ?k_chain ?a_Walk_places ?l_Walk_places ?c_Walk_places ?k_Walk_places ?u_Walk_places ?fn_Walk_places ?a_all_within ?l_all_within ?c_all_within ?k_all_within ?a_is_whole ?l_is_whole ?c_is_whole ?k_is_whole ?a_World___init__ ?l_World___init__ ?t_World___init__ ?c_World___init__ ?k_World___init__ ?u_World___init__ ?fn_World___init__ ?a_World_look_at_deed ?l_World_look_at_deed ?c_World_look_at_deed ?k_World_look_at_deed ?u_World_look_at_deed ?fn_World_look_at_deed ?a_World_look_at_thing ?l_World_look_at_thing ?c_World_look_at_thing ?k_World_look_at_thing ?u_World_look_at_thing ?fn_World_look_at_thing ?a_World_lay ?l_World_lay ?c_World_lay ?k_World_lay ?u_World_lay ?fn_World_lay ?a_Walk_world ?l_Walk_world ?c_Walk_world ?k_Walk_world ?u_Walk_world ?fn_Walk_world ?a_unlike ?l_unlike ?c_unlike ?k_unlike ?a_World___len__ ?l_World___len__ ?c_World___len__ ?k_World___len__ ?u_World___len__ ?fn_World___len__ ?a_World_led_on ?l_World_led_on ?c_World_led_on ?k_World_led_on ?u_World_led_on ?fn_World_led_on ?a_World_led ?l_World_led ?c_World_led ?k_World_led ?u_World_led ?fn_World_led ?a_tells_unlike ?l_tells_unlike ?c_tells_unlike ?k_tells_unlike ?a_is_long_row ?l_is_long_row ?c_is_long_row ?k_is_long_row ?a_look_at_long_row ?l_look_at_long_row ?c_look_at_long_row ?k_look_at_long_row ?a_part_of ?l_part_of ?c_part_of ?k_part_of ?a_turned ?l_turned ?c_turned ?k_turned ?a_less_of ?l_less_of ?c_less_of ?k_less_of ?a_more_of ?l_more_of ?c_more_of ?k_more_of ?a_is_formed ?l_is_formed ?c_is_formed ?k_is_formed ?a_past_of ?l_past_of ?c_past_of ?k_past_of ?a_done ?l_done ?c_done ?k_done ?a_NoStep___init__ ?l_NoStep___init__ ?c_NoStep___init__ ?k_NoStep___init__ ?u_NoStep___init__ ?fn_NoStep___init__ ?a_led_on ?l_led_on ?c_led_on ?k_led_on ?a_is_chain ?l_is_chain ?c_is_chain ?k_is_chain ?a_law_back ?l_law_back ?c_law_back ?k_law_back ?a_law ?l_law ?c_law ?k_law ?ad_CONTRARY ?ld_CONTRARY ?kl_CONTRARY ?sm_CONTRARY ?e_CONTRARY_less ?e_CONTRARY_more ?ad_NUMBERS ?ld_NUMBERS ?kl_NUMBERS ?sm_NUMBERS ?e_NUMBERS_less ?e_NUMBERS_more ?e_NUMBERS_past ?ad_STEPS ?ld_STEPS ?kl_STEPS ?sm_STEPS ?e_STEPS_less ?e_STEPS_more ?e_STEPS_past ?f_z0 ?f_z1 ?f_z2 ?f_z3 ?f_z4
    (case z_LookupError => k_is)
    (case z_all => k_is)
    (case z_bool => k_is)
    (case z_enumerate => k_is)
    (case z_frozenset => k_is)
    (case z_int => k_is)
    (case z_isinstance => k_is)
    (case z_len => k_is)
    (case z_list => k_is)
    (case z_max => k_is)
    (case z_min => k_is)
    (case z_range => k_is)
    (case z_sorted => k_is)
    (case z_str => k_is)
    (case z_sum => k_is)
    (case z_tuple => k_is)
    (case n_DEEDS => k_is)
    (case n_MOST_LONG => k_is)
    (case n_MOST_PLACES => k_is)
    (case n_MOST_SIGNS => k_is)
    (case n_MOST_THINGS => k_is)
    (case n_SIGNS => k_is)
    (case aC_NoRow => k_is)
    (case xC_NoRow => k_exc)
    (case kC_NoRow => k_is)
    (case bC_NoRow => k_is)
    (case tC_NoRow => k_is)
    (case iC_NoRow => k_is)
    (case sC_NoRow => first | rfl | k_is)
    (case hg_NoRow => k_is)
    (case hk_NoRow => k_is)
    (case hd_NoRow => k_is)
    (case ha_NoRow => k_is)
    (case hm_NoRow => k_is)
    (case aC_NoStep => k_is)
    (case xC_NoStep => kx_is)
    (case kC_NoStep => k_is)
    (case bC_NoStep => k_is)
    (case tC_NoStep => k_is)
    (case iC_NoStep => k_is)
    (case sC_NoStep => first | rfl | k_is)
    (case hg_NoStep => k_is)
    (case hk_NoStep => k_is)
    (case hd_NoStep => k_is)
    (case ha_NoStep => k_is)
    (case hm_NoStep => k_is)
    (case oC_NoStep => kx_is)
    (case sa_NoStep => k_is)
    (case hn => k_is)
    (case ht => k_is)
    (case w_LookupError => k_is)
    (case aC_Canon => k_is)
    (case pg_Canon => k_is)
    (case hd_Canon => k_is)
    (case po_Canon => k_is)
    (case sa_Canon => k_is)
    (case mk_Canon => k_is)
    (case kC_Canon => k_is)
    (case aC_Walk => k_is)
    (case pg_Walk => k_is)
    (case hd_Walk => k_is)
    (case po_Walk => k_is)
    (case sa_Walk => k_is)
    (case mk_Walk => k_is)
    (case kC_Walk => k_is)
    (case aC_World => k_is)
    (case pg_World => k_is)
    (case hd_World => k_is)
    (case po_World => k_is)
    (case sa_World => k_is)
    (case mk_World => k_is)
    (case kC_World => k_is)
    (case y_Canon_own_end => k_is)
    (case y_Canon_own_known => k_is)
    (case y_Canon_own_leaves => k_is)
    (case y_Canon_own_steps => k_is)
    (case y_NoStep_number => k_is)
    (case y_Walk_own_end => k_is)
    (case y_Walk_own_places => k_is)
    (case y_World_own_many => k_is)
    (case y_World_own_ways => k_is)
    (case f_w1 => k_is)
    (case f_w2 => k_is)
    (case f_w3 => k_is)
    (case f_w4 => k_is)
    (case f_u1 => k_is)
    (case f_u4 => k_is)
    (case f_n1 => k_is)
    (case a_law_pool => k_is)
    (case l_law_pool => k_is)
    (case c_law_pool => k_is)
    (case k_law_pool => k_is)
    (case a_law_take => k_is)
    (case l_law_take => k_is)
    (case c_law_take => k_is)
    (case k_law_take => k_is)
    (case a_law_turned => k_is)
    (case l_law_turned => k_is)
    (case c_law_turned => k_is)
    (case k_law_turned => k_is)
    (case a_law_row => k_is)
    (case l_law_row => k_is)
    (case c_law_row => k_is)
    (case k_law_row => k_is)
    (case a_law_other => k_is)
    (case l_law_other => k_is)
    (case c_law_other => k_is)
    (case k_law_other => k_is)
    (case a_is_row_within => k_is)
    (case l_is_row_within => k_is)
    (case c_is_row_within => k_is)
    (case k_is_row_within => k_is)
    (case a_is_row => k_is)
    (case l_is_row => k_is)
    (case c_is_row => k_is)
    (case k_is_row => k_is)
    (case a_look_at_row => k_is)
    (case l_look_at_row => k_is)
    (case c_look_at_row => k_is)
    (case k_look_at_row => k_is)
    (case a_contrary_sign => k_is)
    (case l_contrary_sign => k_is)
    (case c_contrary_sign => k_is)
    (case k_contrary_sign => k_is)
    (case a_made_plain => k_is)
    (case l_made_plain => k_is)
    (case c_made_plain => k_is)
    (case k_made_plain => k_is)
    (case a_is_plain_row => k_is)
    (case l_is_plain_row => k_is)
    (case c_is_plain_row => k_is)
    (case k_is_plain_row => k_is)
    (case a_first_wrong => k_is)
    (case l_first_wrong => k_is)
    (case c_first_wrong => k_is)
    (case k_first_wrong => k_is)
    (case a_rank => k_is)
    (case l_rank => k_is)
    (case c_rank => k_is)
    (case k_rank => k_is)
    (case a_Walk___init__ => k_is)
    (case l_Walk___init__ => k_is)
    (case t_Walk___init__ => k_is)
    (case c_Walk___init__ => k_is)
    (case k_Walk___init__ => k_is)
    (case u_Walk___init__ => k_is)
    (case fn_Walk___init__ => k_is)
    (case a_gone => k_is)
    (case l_gone => k_is)
    (case c_gone => k_is)
    (case k_gone => k_is)
    (case a_walk_of => k_is)
    (case l_walk_of => k_is)
    (case c_walk_of => k_is)
    (case k_walk_of => k_is)
    (case a_Walk___eq__ => k_is)
    (case l_Walk___eq__ => k_is)
    (case c_Walk___eq__ => k_is)
    (case k_Walk___eq__ => k_is)
    (case u_Walk___eq__ => k_is)
    (case fn_Walk___eq__ => k_is)
    (case a_same => k_is)
    (case l_same => k_is)
    (case c_same => k_is)
    (case k_same => k_is)
    (case a_Canon___init__ => k_is)
    (case l_Canon___init__ => k_is)
    (case c_Canon___init__ => k_is)
    (case k_Canon___init__ => k_is)
    (case u_Canon___init__ => k_is)
    (case fn_Canon___init__ => k_is)
    (case a_Canon_at_leaf => k_is)
    (case l_Canon_at_leaf => k_is)
    (case c_Canon_at_leaf => k_is)
    (case k_Canon_at_leaf => k_is)
    (case u_Canon_at_leaf => k_is)
    (case fn_Canon_at_leaf => k_is)
    (case a_Canon_swap => k_is)
    (case l_Canon_swap => k_is)
    (case c_Canon_swap => k_is)
    (case k_Canon_swap => k_is)
    (case u_Canon_swap => k_is)
    (case fn_Canon_swap => k_is)
    (case a_Canon_to_end => k_is)
    (case l_Canon_to_end => k_is)
    (case c_Canon_to_end => k_is)
    (case k_Canon_to_end => k_is)
    (case u_Canon_to_end => k_is)
    (case fn_Canon_to_end => k_is)
    (case a_Canon_to_order => k_is)
    (case l_Canon_to_order => k_is)
    (case c_Canon_to_order => k_is)
    (case k_Canon_to_order => k_is)
    (case u_Canon_to_order => k_is)
    (case fn_Canon_to_order => k_is)
    (case a_Canon_fall => k_is)
    (case l_Canon_fall => k_is)
    (case c_Canon_fall => k_is)
    (case k_Canon_fall => k_is)
    (case u_Canon_fall => k_is)
    (case fn_Canon_fall => k_is)
    (case a_Canon_grow => k_is)
    (case l_Canon_grow => k_is)
    (case c_Canon_grow => k_is)
    (case k_Canon_grow => k_is)
    (case u_Canon_grow => k_is)
    (case fn_Canon_grow => k_is)
    (case a_Canon_go_on => k_is)
    (case l_Canon_go_on => k_is)
    (case c_Canon_go_on => k_is)
    (case k_Canon_go_on => k_is)
    (case u_Canon_go_on => k_is)
    (case fn_Canon_go_on => k_is)
    (case a_canon_steps => k_is)
    (case l_canon_steps => k_is)
    (case c_canon_steps => k_is)
    (case k_canon_steps => k_is)
    (case a_back_step => k_is)
    (case l_back_step => k_is)
    (case c_back_step => k_is)
    (case k_back_step => k_is)
    (case a_chain => k_is)
    (case l_chain => k_is)
    (case c_chain => k_is)
    (case k_chain => k_is)
    (case a_Walk_places => k_is)
    (case l_Walk_places => k_is)
    (case c_Walk_places => k_is)
    (case k_Walk_places => k_is)
    (case u_Walk_places => k_is)
    (case fn_Walk_places => k_is)
    (case a_all_within => k_is)
    (case l_all_within => k_is)
    (case c_all_within => k_is)
    (case k_all_within => k_is)
    (case a_is_whole => k_is)
    (case l_is_whole => k_is)
    (case c_is_whole => k_is)
    (case k_is_whole => k_is)
    (case a_World___init__ => k_is)
    (case l_World___init__ => k_is)
    (case t_World___init__ => k_is)
    (case c_World___init__ => k_is)
    (case k_World___init__ => k_is)
    (case u_World___init__ => k_is)
    (case fn_World___init__ => k_is)
    (case a_World_look_at_deed => k_is)
    (case l_World_look_at_deed => k_is)
    (case c_World_look_at_deed => k_is)
    (case k_World_look_at_deed => k_is)
    (case u_World_look_at_deed => k_is)
    (case fn_World_look_at_deed => k_is)
    (case a_World_look_at_thing => k_is)
    (case l_World_look_at_thing => k_is)
    (case c_World_look_at_thing => k_is)
    (case k_World_look_at_thing => k_is)
    (case u_World_look_at_thing => k_is)
    (case fn_World_look_at_thing => k_is)
    (case a_World_lay => k_is)
    (case l_World_lay => k_is)
    (case c_World_lay => k_is)
    (case k_World_lay => k_is)
    (case u_World_lay => k_is)
    (case fn_World_lay => k_is)
    (case a_Walk_world => k_is)
    (case l_Walk_world => k_is)
    (case c_Walk_world => k_is)
    (case k_Walk_world => k_is)
    (case u_Walk_world => k_is)
    (case fn_Walk_world => k_is)
    (case a_unlike => k_is)
    (case l_unlike => k_is)
    (case c_unlike => k_is)
    (case k_unlike => k_is)
    (case a_World___len__ => k_is)
    (case l_World___len__ => k_is)
    (case c_World___len__ => k_is)
    (case k_World___len__ => k_is)
    (case u_World___len__ => k_is)
    (case fn_World___len__ => k_is)
    (case a_World_led_on => k_is)
    (case l_World_led_on => k_is)
    (case c_World_led_on => k_is)
    (case k_World_led_on => k_is)
    (case u_World_led_on => k_is)
    (case fn_World_led_on => k_is)
    (case a_World_led => k_is)
    (case l_World_led => k_is)
    (case c_World_led => k_is)
    (case k_World_led => k_is)
    (case u_World_led => k_is)
    (case fn_World_led => k_is)
    (case a_tells_unlike => k_is)
    (case l_tells_unlike => k_is)
    (case c_tells_unlike => k_is)
    (case k_tells_unlike => k_is)
    (case a_is_long_row => k_is)
    (case l_is_long_row => k_is)
    (case c_is_long_row => k_is)
    (case k_is_long_row => k_is)
    (case a_look_at_long_row => k_is)
    (case l_look_at_long_row => k_is)
    (case c_look_at_long_row => k_is)
    (case k_look_at_long_row => k_is)
    (case a_part_of => k_is)
    (case l_part_of => k_is)
    (case c_part_of => k_is)
    (case k_part_of => k_is)
    (case a_turned => k_is)
    (case l_turned => k_is)
    (case c_turned => k_is)
    (case k_turned => k_is)
    (case a_less_of => k_is)
    (case l_less_of => k_is)
    (case c_less_of => k_is)
    (case k_less_of => k_is)
    (case a_more_of => k_is)
    (case l_more_of => k_is)
    (case c_more_of => k_is)
    (case k_more_of => k_is)
    (case a_is_formed => k_is)
    (case l_is_formed => k_is)
    (case c_is_formed => k_is)
    (case k_is_formed => k_is)
    (case a_past_of => k_is)
    (case l_past_of => k_is)
    (case c_past_of => k_is)
    (case k_past_of => k_is)
    (case a_done => k_is)
    (case l_done => k_is)
    (case c_done => k_is)
    (case k_done => k_is)
    (case a_NoStep___init__ => k_is)
    (case l_NoStep___init__ => k_is)
    (case c_NoStep___init__ => k_is)
    (case k_NoStep___init__ => k_is)
    (case u_NoStep___init__ => k_is)
    (case fn_NoStep___init__ => k_is)
    (case a_led_on => k_is)
    (case l_led_on => k_is)
    (case c_led_on => k_is)
    (case k_led_on => k_is)
    (case a_is_chain => k_is)
    (case l_is_chain => k_is)
    (case c_is_chain => k_is)
    (case k_is_chain => k_is)
    (case a_law_back => k_is)
    (case l_law_back => k_is)
    (case c_law_back => k_is)
    (case k_law_back => k_is)
    (case a_law => k_is)
    (case l_law => k_is)
    (case c_law => k_is)
    (case k_law => k_is)
    (case ad_CONTRARY => k_is)
    (case ld_CONTRARY => k_is)
    (case kl_CONTRARY => (repeat' (first | exact trivial | exact ⟨_, _, rfl, rfl⟩ | refine And.intro ?_ ?_)))
    (case sm_CONTRARY => first | rfl | decide)
    (case e_CONTRARY_less => k_is)
    (case e_CONTRARY_more => k_is)
    (case ad_NUMBERS => k_is)
    (case ld_NUMBERS => k_is)
    (case kl_NUMBERS => (repeat' (first | exact trivial | exact ⟨_, _, rfl, rfl⟩ | refine And.intro ?_ ?_)))
    (case sm_NUMBERS => first | rfl | decide)
    (case e_NUMBERS_less => k_is)
    (case e_NUMBERS_more => k_is)
    (case e_NUMBERS_past => k_is)
    (case ad_STEPS => k_is)
    (case ld_STEPS => k_is)
    (case kl_STEPS => (repeat' (first | exact trivial | exact ⟨_, _, rfl, rfl⟩ | refine And.intro ?_ ?_)))
    (case sm_STEPS => first | rfl | decide)
    (case e_STEPS_less => k_is)
    (case e_STEPS_more => k_is)
    (case e_STEPS_past => k_is)
    (case f_z0 => k_is)
    (case f_z1 => k_is)
    (case f_z2 => k_is)
    (case f_z3 => k_is)
    (case f_z4 => k_is)

