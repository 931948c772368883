import PyProof.Rows.All
import Wide.All
import OpenK.AllK
import Wide.FinOn
import HandS.ForMost
import HandS.ForExc
import HandS.Walk
import HandS.StrMore
import HandS.Replace
import HandS.IsInst
import HandS.Style
import HandS.Steps
import HandS.Evl
import HandS.Wide
import HandS.Defaults
import HandS.ExcIs
import HandS.TryMany
import HandS.ExcInit
import HandS.ExcField
import KE.KExcInit
import KE.KExcLine
import KE.KExcIs
import PyProof.ListStr
import KE.DataCmp
import KE.GoesZip
import KE.GoesMore
import KE.GoesEnum
import HandS.Dict
import HandS.TryOnly
import PyProof.StrBlock2
import KE.SortData
import HandS.Zip
import HandS.DeepEq
import PyProof.NeKinds
import HandS.Ends
import HandS.Codes
import PyProof.ReprRoads
import PyProof.CallFns
import PyProof.ReprBulk
import HandS.OwnEq
import OpenK.AllK
import HandS.DictTup
import PyProof.ListRange
import PySem.Challenge.RW_undotrees_k11_worlds_refused
set_option Elab.async false
set_option linter.all false
set_option maxRecDepth 100000
set_option maxHeartbeats 4000000

namespace RowM
/-- the twelve signs, in their order -/
def sgns : List Nat := [97, 65, 98, 66, 99, 67, 100, 68, 101, 69, 102, 70]
def con (c : Nat) : Nat := if 97 ≤ c then c - 32 else c + 32
def ix (c : Nat) : Nat := sgns.idxOf c
def lo (c : Nat) : Nat := if 97 ≤ c then c else c + 32
def up (c : Nat) : Nat := if 97 ≤ c then c - 32 else c
abbrev Row (l : List Nat) : Prop := ∀ c ∈ l, c ∈ sgns
theorem con_mem {c : Nat} (h : c ∈ sgns) : con c ∈ sgns := by
  have : ∀ c ∈ sgns, con c ∈ sgns := by decide
  exact this c h
theorem con_con {c : Nat} (h : c ∈ sgns) : con (con c) = c := by
  have : ∀ c ∈ sgns, con (con c) = c := by decide
  exact this c h
theorem con_ne {c : Nat} (h : c ∈ sgns) : con c ≠ c := by
  have : ∀ c ∈ sgns, con c ≠ c := by decide
  exact this c h
theorem con_inj {a b : Nat} (ha : a ∈ sgns) (hb : b ∈ sgns) (h : con a = con b) : a = b := by
  rw [← con_con ha, h, con_con hb]
/-! ### stacks: the plain row, its last sign first -/
def push (st : List Nat) (c : Nat) : List Nat := match st with
  | [] => [c]
  | d :: r => if d = con c then r else c :: d :: r
theorem push_cons (d c : Nat) (r : List Nat) : push (d :: r) c = if d = con c then r else c :: d :: r := rfl
def act (w st : List Nat) : List Nat := w.foldl push st
def plain (w : List Nat) : List Nat := (act w []).reverse
def turn (w : List Nat) : List Nat := (w.reverse).map con
/-- no sign next to its contrary -/
def Red : List Nat → Prop
  | [] => True
  | [_] => True
  | a :: b :: r => b ≠ con a ∧ Red (b :: r)
theorem Red.tail {a : Nat} {r : List Nat} (h : Red (a :: r)) : Red r := by
  cases r with
  | nil => trivial
  | cons b r => exact h.2
theorem Row.tail {a : Nat} {r : List Nat} (h : Row (a :: r)) : Row r := fun c hc => h c (List.mem_cons_of_mem _ hc)
theorem Row.head {a : Nat} {r : List Nat} (h : Row (a :: r)) : a ∈ sgns := h a List.mem_cons_self
theorem push_row {st : List Nat} {c : Nat} (h : Row st) (hc : c ∈ sgns) : Row (push st c) := by
  cases st with
  | nil => intro d hd; simp [push] at hd; rw [hd]; exact hc
  | cons d r =>
    rw [push_cons]
    by_cases q : d = con c
    · rw [if_pos q]
      exact Row.tail h
    · rw [if_neg q]
      intro e he
      rcases List.mem_cons.mp he with rfl | he
      · exact hc
      · exact h e he
theorem push_red {st : List Nat} {c : Nat} (h : Red st) : Red (push st c) := by
  cases st with
  | nil => simp [push, Red]
  | cons d r =>
    rw [push_cons]
    by_cases q : d = con c
    · rw [if_pos q]
      exact h.tail
    · rw [if_neg q]
      exact ⟨q, h⟩
theorem push_push {st : List Nat} {c : Nat} (h : Red st) (hc : c ∈ sgns) : push (push st c) (con c) = st := by
  cases st with
  | nil => simp [push, con_con hc]
  | cons d r =>
    by_cases e : d = con c
    · simp only [push, if_pos e]
      cases r with
      | nil => simp [e]
      | cons b r =>
        have hb : b ≠ c := by
          intro q
          have := h.1
          rw [e, con_con hc] at this
          exact this q
        simp only [con_con hc, if_neg hb, e]
    · simp only [push, if_neg e, con_con hc, if_pos]
theorem push_push' {st : List Nat} {c : Nat} (h : Red st) (hc : c ∈ sgns) : push (push st (con c)) c = st := by
  have := push_push (c := con c) h (con_mem hc)
  rw [con_con hc] at this
  exact this
theorem act_append (u v st : List Nat) : act (u ++ v) st = act v (act u st) := by simp [act, List.foldl_append]
theorem act_cons (a : Nat) (w st : List Nat) : act (a :: w) st = act w (push st a) := rfl
theorem act_row : ∀ (w st : List Nat), Row w → Row st → Row (act w st)
  | [], _, _, h => h
  | a :: w, st, hw, h => act_row w (push st a) (Row.tail hw) (push_row h (Row.head hw))
theorem act_red : ∀ (w st : List Nat), Red st → Red (act w st)
  | [], _, h => h
  | a :: w, st, h => act_red w (push st a) (push_red h)
theorem turn_cons (a : Nat) (w : List Nat) : turn (a :: w) = turn w ++ [con a] := by simp [turn]
theorem turn_append (u v : List Nat) : turn (u ++ v) = turn v ++ turn u := by simp [turn]
theorem turn_row {w : List Nat} (h : Row w) : Row (turn w) := by
  intro c hc
  simp only [turn, List.mem_map, List.mem_reverse] at hc
  obtain ⟨d, hd, rfl⟩ := hc
  exact con_mem (h d hd)
theorem turn_turn {w : List Nat} (h : Row w) : turn (turn w) = w := by
  unfold turn
  rw [← List.map_reverse, List.reverse_reverse, List.map_map]
  conv => rhs; rw [← List.map_id w]
  exact List.map_congr_left fun c hc => con_con (h c hc)
theorem turn_length (w : List Nat) : (turn w).length = w.length := by simp [turn]
theorem act_turn : ∀ {w st : List Nat}, Row w → Red st → act (turn w) (act w st) = st
  | [], _, _, _ => rfl
  | a :: w, st, hw, h => by
    rw [turn_cons, act_append]
    have e : act (a :: w) st = act w (push st a) := rfl
    rw [e, act_turn (Row.tail hw) (push_red h)]
    exact push_push h (Row.head hw)
theorem act_turn' {w st : List Nat} (hw : Row w) (h : Red st) : act w (act (turn w) st) = st := by
  have := act_turn (turn_row hw) h
  rw [turn_turn hw] at this
  exact this
/-- an unplain pair goes -/
theorem act_pair {c : Nat} {u v st : List Nat} (hc : c ∈ sgns) (h : Red st) : act (u ++ c :: con c :: v) st = act (u ++ v) st := by
  rw [act_append, act_append]
  show act v (push (push (act u st) c) (con c)) = _
  rw [push_push (act_red _ _ h) hc]
theorem act_pair' {c : Nat} {u v st : List Nat} (hc : c ∈ sgns) (h : Red st) : act (u ++ con c :: c :: v) st = act (u ++ v) st := by
  have := act_pair (c := con c) (u := u) (v := v) (con_mem hc) h
  rw [con_con hc] at this
  exact this
theorem Red.snoc_iff : ∀ {l : List Nat} {a b : Nat}, Red (l ++ [a, b]) ↔ Red (l ++ [a]) ∧ b ≠ con a
  | [], a, b => by simp [Red]
  | [x], a, b => by simp [Red, and_assoc]
  | x :: y :: l, a, b => by
    have := Red.snoc_iff (l := y :: l) (a := a) (b := b)
    simp only [List.cons_append] at this ⊢
    simp only [Red]
    constructor
    · rintro ⟨h1, h2⟩
      exact ⟨⟨h1, (this.mp h2).1⟩, (this.mp h2).2⟩
    · rintro ⟨⟨h1, h2⟩, h3⟩
      exact ⟨h1, this.mpr ⟨h2, h3⟩⟩
/-- a plain row as a stack: the same read backwards -/
theorem red_reverse : ∀ {l : List Nat}, Row l → (Red l ↔ Red l.reverse)
  | [], _ => by simp [Red]
  | [a], _ => by simp [Red]
  | a :: b :: r, h => by
    have ih := red_reverse (l := b :: r) (Row.tail h)
    rw [List.reverse_cons, List.reverse_cons, List.append_assoc]
    show Red (a :: b :: r) ↔ Red (r.reverse ++ [b, a])
    rw [Red.snoc_iff]
    rw [List.reverse_cons] at ih
    rw [← ih]
    show (b ≠ con a ∧ Red (b :: r)) ↔ _
    constructor
    · rintro ⟨h1, h2⟩
      refine ⟨h2, fun e => h1 ?_⟩
      rw [e, con_con (Row.head (Row.tail h))]
    · rintro ⟨h1, h2⟩
      refine ⟨fun e => h2 ?_, h1⟩
      rw [e, con_con (Row.head h)]
theorem red_drop : ∀ {l m : List Nat}, Red (l ++ m) → Red m
  | [], _, h => h
  | _ :: l, m, h => red_drop (l := l) (Red.tail h)
theorem act_of_red : ∀ {p st : List Nat}, Red (p.reverse ++ st) → act p st = p.reverse ++ st
  | [], _, _ => by simp [act]
  | a :: p, st, h => by
    have e : (a :: p).reverse ++ st = p.reverse ++ (a :: st) := by simp
    rw [e] at h ⊢
    show act p (push st a) = _
    have hp : push st a = a :: st := by
      cases st with
      | nil => rfl
      | cons d r =>
        have hr : Red (a :: d :: r) := red_drop h
        rw [push_cons, if_neg hr.1]
    rw [hp]
    exact act_of_red h
theorem plain_row {w : List Nat} (h : Row w) : Row (plain w) := fun c hc => act_row _ _ h (fun _ q => (by cases q)) c (List.mem_reverse.mp hc)
theorem plain_red {w : List Nat} (h : Row w) : Red (plain w) := by
  unfold plain
  exact (red_reverse (act_row _ _ h fun _ q => (by cases q))).mp (act_red w _ (by trivial))
theorem plain_of_red {w : List Nat} (h : Row w) (r : Red w) : plain w = w := by
  unfold plain
  rw [act_of_red (by rw [List.append_nil]; exact (red_reverse h).mp r), List.append_nil, List.reverse_reverse]
theorem plain_plain {w : List Nat} (h : Row w) : plain (plain w) = plain w := plain_of_red (plain_row h) (plain_red h)
theorem plain_pair {c : Nat} {u v : List Nat} (hc : c ∈ sgns) : plain (u ++ c :: con c :: v) = plain (u ++ v) := by
  unfold plain
  rw [act_pair hc (by trivial)]
theorem push_plain {w : List Nat} {c : Nat} : act (w ++ [c]) [] = push (act w []) c := by rw [act_append]; rfl
/-- a row and it made plain act alike on plain stacks -/
theorem act_plain_aux : ∀ {w : List Nat}, Row w → ∀ {st : List Nat}, Red st → Row st → act (plain w) st = act w st := by
  intro w
  generalize hn : w.length = n
  induction n generalizing w with
  | zero =>
    intro h st _ _
    have : w = [] := List.eq_nil_of_length_eq_zero hn
    subst this
    rfl
  | succ n ih =>
    intro h st hr hs
    obtain ⟨u, c, rfl⟩ : ∃ u c, w = u ++ [c] := ⟨w.dropLast, w.getLast (by intro e; simp [e] at hn), (List.dropLast_concat_getLast _).symm⟩
    have hu : Row u := fun d hd => h d (List.mem_append_left _ hd)
    have hc : c ∈ sgns := h c (by simp)
    have hl : u.length = n := by simp at hn; exact hn
    have e := ih hl hu hr hs
    rw [act_append]
    show act (plain (u ++ [c])) st = push (act u st) c
    rw [← e]
    unfold plain
    rw [push_plain]
    cases hst : act u [] with
    | nil => simp [push, act]
    | cons d r =>
      by_cases q : d = con c
      · simp only [push, if_pos q]
        have e2 : (d :: r).reverse = r.reverse ++ [d] := by simp
        rw [e2, act_append]
        show _ = push (push (act r.reverse st) d) c
        rw [q, push_push' (act_red _ _ hr) hc]
      · simp only [push, if_neg q]
        have e2 : (c :: d :: r).reverse = (d :: r).reverse ++ [c] := by simp
        rw [e2, act_append]
        rfl
theorem act_plain {w st : List Nat} (h : Row w) (hr : Red st) (hs : Row st) : act (plain w) st = act w st := act_plain_aux h hr hs
theorem nil_row : Row [] := fun _ q => (by cases q)
theorem plain_turn {w : List Nat} (h : Row w) : plain (turn w) = turn (plain w) := by
  have hp := plain_row h
  have rp : Red (turn (plain w)) := by
    unfold turn
    have : ∀ l : List Nat, Row l → Red l → Red (l.map con) := by
      intro l
      induction l with
      | nil => intros; trivial
      | cons a l ih =>
        cases l with
        | nil => intros; trivial
        | cons b l =>
          intro hl hr
          refine ⟨fun e => hr.1 ?_, ih (Row.tail hl) hr.2⟩
          have := con_inj (Row.head (Row.tail hl)) (con_mem (Row.head hl)) e
          exact this
    exact this _ (fun c hc => hp c (List.mem_reverse.mp hc)) ((red_reverse hp).mp (plain_red h))
  have e : act (turn w) [] = act (turn (plain w)) [] := by
    have h1 : act w (act (turn w) []) = [] := act_turn' h (by trivial)
    have r1 : Red (act (turn w) []) := act_red _ _ (by trivial)
    have w1 : Row (act (turn w) []) := act_row _ _ (turn_row h) nil_row
    rw [← act_plain h r1 w1] at h1
    have h2 := act_turn (w := plain w) (st := act (turn w) []) hp r1
    rw [h1] at h2
    exact h2.symm
  have e2 : plain (turn w) = plain (turn (plain w)) := by unfold plain at *; rw [e]
  rw [e2, plain_of_red (turn_row hp) rp]
theorem plain_there_back {u : List Nat} (h : Row u) : plain (u ++ turn u) = [] := by
  unfold plain
  rw [act_append, act_turn h (by trivial)]
  rfl
theorem push_length (st : List Nat) (c : Nat) : (push st c).length ≤ st.length + 1 := by
  cases st with
  | nil => simp [push]
  | cons d r =>
    rw [push_cons]
    by_cases q : d = con c
    · rw [if_pos q]; simp; omega
    · rw [if_neg q]; simp
theorem act_length : ∀ (w st : List Nat), (act w st).length ≤ st.length + w.length
  | [], st => by simp [act]
  | a :: w, st => by
    have := act_length w (push st a)
    have h2 := push_length st a
    show (act w (push st a)).length ≤ _
    simp only [List.length_cons]
    omega
theorem plain_length (w : List Nat) : (plain w).length ≤ w.length := by
  unfold plain
  rw [List.length_reverse]
  simpa using act_length w []
/-! ### the order of rows -/
def lexI : List Nat → List Nat → Bool
  | a :: l, b :: m => if a = b then lexI l m else decide (a < b)
  | _, _ => false
def aheadL : List Nat → List Nat → Bool
  | a :: l, b :: m => if a = b then aheadL l m else if lo a ≠ lo b then decide (lo a < lo b) else decide (97 ≤ a)
  | _, _ => false
def before (l m : List Nat) : Bool := if l.length = m.length then lexI (l.map ix) (m.map ix) else decide (l.length < m.length)
theorem ix_inj {a b : Nat} (ha : a ∈ sgns) (hb : b ∈ sgns) : ix a = ix b ↔ a = b := by
  have : ∀ a ∈ sgns, ∀ b ∈ sgns, (ix a = ix b ↔ a = b) := by decide
  exact this a ha b hb
theorem ix_lt {a b : Nat} (ha : a ∈ sgns) (hb : b ∈ sgns) (h : a ≠ b) : decide (ix a < ix b) = (if lo a ≠ lo b then decide (lo a < lo b) else decide (97 ≤ a)) := by
  have : ∀ a ∈ sgns, ∀ b ∈ sgns, a ≠ b → decide (ix a < ix b) = (if lo a ≠ lo b then decide (lo a < lo b) else decide (97 ≤ a)) := by decide
  exact this a ha b hb h
theorem ahead_lex : ∀ {l m : List Nat}, Row l → Row m → aheadL l m = lexI (l.map ix) (m.map ix)
  | [], _, _, _ => by simp [aheadL, lexI]
  | a :: l, [], _, _ => by simp [aheadL, lexI]
  | a :: l, b :: m, hl, hm => by
    have ih := ahead_lex (Row.tail hl) (Row.tail hm)
    simp only [aheadL, List.map_cons, lexI, ix_inj (Row.head hl) (Row.head hm)]
    by_cases e : a = b
    · rw [if_pos e, if_pos e, ih]
    · rw [if_neg e, if_neg e, ix_lt (Row.head hl) (Row.head hm) e]
theorem lexI_trans : ∀ {l m n : List Nat}, l.length = m.length → m.length = n.length → lexI l m = true → lexI m n = true → lexI l n = true
  | [], _, _, _, _, h, _ => by simp [lexI] at h
  | a :: l, [], _, h, _, _, _ => by simp at h
  | a :: l, b :: m, [], _, h, _, _ => by simp at h
  | a :: l, b :: m, c :: n, h1, h2, h3, h4 => by
    simp only [lexI] at h3 h4 ⊢
    have e1 : l.length = m.length := by simpa using h1
    have e2 : m.length = n.length := by simpa using h2
    by_cases p : a = b
    · subst p
      rw [if_pos rfl] at h3
      by_cases q : a = c
      · subst q
        rw [if_pos rfl] at h4 ⊢
        exact lexI_trans e1 e2 h3 h4
      · rw [if_neg q] at h4 ⊢
        exact h4
    · rw [if_neg p] at h3
      have h3' := of_decide_eq_true h3
      by_cases q : b = c
      · subst q
        rw [if_neg p]
        exact h3
      · rw [if_neg q] at h4
        have h4' := of_decide_eq_true h4
        have : a ≠ c := by omega
        rw [if_neg this]
        exact decide_eq_true (by omega)
theorem before_trans {l m n : List Nat} (h1 : before l m = true) (h2 : before m n = true) : before l n = true := by
  unfold before at *
  by_cases e1 : l.length = m.length
  · rw [if_pos e1] at h1
    by_cases e2 : m.length = n.length
    · rw [if_pos e2] at h2
      rw [if_pos (e1.trans e2)]
      exact lexI_trans (by simpa using e1) (by simpa using e2) h1 h2
    · rw [if_neg e2] at h2
      have := of_decide_eq_true h2
      rw [if_neg (by omega)]
      exact decide_eq_true (by omega)
  · rw [if_neg e1] at h1
    have h1' := of_decide_eq_true h1
    by_cases e2 : m.length = n.length
    · rw [if_neg (by omega)]
      exact decide_eq_true (by omega)
    · rw [if_neg e2] at h2
      have := of_decide_eq_true h2
      rw [if_neg (by omega)]
      exact decide_eq_true (by omega)
end RowM

namespace L2
open PySem PySem.Spec PyProof.Rows
/-! ### rules beside the layer's own -/
section
variable {X : Cx}
/-- a constant of the module -/
theorem pe_globC {x : Str} {v : V} {pos : Pos} (h : ∃ u, X.mg x = some u ∧ RelV v u) (hg : Gl X x := by rfl) (hd : (x == ("__debug__" : Str)) = false := by decide) : PE X (.Name x pos) (tC v) := by
  obtain ⟨u, hm, r⟩ := h
  exact pe_glob hg hm r hd
/-- data that are alike: < -/
def rLtD (K : PySem.W.Frag) : R2 := fun x y H Q => ∃ d e, Dp K H x d ∧ Dp K H y e ∧ PySem.W.alike d e = true ∧ d ≠ .none ∧ min d.depth e.depth ≤ 60 ∧ Q (.bl (PySem.W.dataLt d e)) H
theorem op_ltD (hu : X.A.units + 64 < cLine) : OpR X (compareOp .Lt) (rLtD X.K) := by
  intro pins s σ H x y v u Q I rx ry h
  obtain ⟨d, e, hd, he, al, hn, hz, q⟩ := h
  obtain ⟨as, r1⟩ := Dp.reads I d x v hd rx
  obtain ⟨bs, r2⟩ := Dp.reads I e y u he ry
  exact PySem.W.lt_data r1 r2 al hn (by omega) ⟨.bl _, H, I, rfl, q⟩
/-- text[::-1] -/
def tRevS (te : TE) : TE := fun σ H Q => te σ H fun x H1 => ∃ z : Str, x = .str z ∧ z.length ≤ sizeLine ∧ Q (.str ⟨z.cps.toList.reverse.toArray⟩) H1
theorem pick_rev (z : Str) : ((Builtin.Str.strSliceIndices none none (-1) z.length).filterMap (z.cps[·]?)).toArray = z.cps.toList.reverse.toArray := by
  rw [PyProof.Rows.picked_rev]
  congr 1
  rw [PyProof.Rows.filterMap_get _ _ (fun i hi => by
    simp only [List.mem_map, List.mem_range] at hi
    obtain ⟨k, hk, rfl⟩ := hi
    have : z.length = z.cps.size := rfl
    omega)]
  apply List.ext_getElem
  · simp [Str.length]
  · intro i h1 h2
    simp only [List.length_map, List.length_range, Str.length] at h1
    simp only [List.map_map, List.getElem_map, List.getElem_range, List.getElem_reverse, Function.comp, Str.length, Array.length_toList]
    rw [Array.getD_eq_getD_getElem?]
    rw [Array.getElem?_eq_getElem (by omega)]
    simp
theorem pe_revS {e : Expr} {te : TE} {k : Nat} {p1 p2 p3 pos : Pos} (he : PE X e te) : PE X (.Subscript e (.Slice none none (some (.UnaryOp .USub (.Constant (.int 1) k p1) p2)) p3) pos) (tRevS te) := by
  refine ⟨fun pins s σ H Q I h => ?_⟩
  refine Subscript_ (thn (he.run pins s σ H _ I h) fun v s1 ⟨x, H1, I1, r1, q1⟩ => ?_)
  obtain ⟨z, ex, hz, q⟩ := q1
  subst ex
  obtain ⟨t, rfl⟩ := r1
  have hst : PO X (some (.UnaryOp .USub (.Constant (.int 1) k p1) p2)) (tPart (tUn (rU fun i => .int (-i)) (tC (.int 1)))) := po_some (pe_un un_neg pe_int)
  refine wpAny_Slice (thn (po_none.run pins s1 σ H1 (fun o H2 => o = none ∧ H2 = H1) I1 ⟨rfl, rfl⟩) fun vl s2 ⟨l, H2, I2, pl, el, e2⟩ => ?_)
  subst el e2
  refine thn (po_none.run pins s2 σ H2 (fun o H3 => o = none ∧ H3 = H2) I2 ⟨rfl, rfl⟩) fun vu s3 ⟨u, H3, I3, pu, eu, e3⟩ => ?_
  subst eu e3
  refine thn (hst.run pins s3 σ H3 (fun o H4 => o = some (-1) ∧ H4 = H3) I3 ⟨1, rfl, -1, rfl, rfl, rfl⟩) fun vs s4 ⟨o, H4, I4, ps, eo, e4⟩ => ?_
  subst eo e4
  obtain ⟨l1, rfl, hl1⟩ := IsPart.raw pl
  obtain ⟨u1, rfl, hu1⟩ := IsPart.raw pu
  obtain ⟨w1, rfl, hw1⟩ := IsPart.raw ps
  have I5 : Inv X pins σ H4 { s4 with heap := s4.heap.push { cls := .type "slice", data := .fields #[partValue l1, partValue u1, partValue w1] } } := I4.kept (t' := s4.toks) fun b ob q => Heap.get?_push_of_some _ q
  show wpAny (model X.prog X.w) X.A (subscriptTail e (.Slice none none (some (.UnaryOp .USub (.Constant (.int 1) k p1) p2)) p3) (.str z t) (.ref s4.heap.objs.size)) (EP X pins σ Q) X.xe { s4 with heap := s4.heap.push { cls := .type "slice", data := .fields #[partValue l1, partValue u1, partValue w1] } }
  refine tail_any (ops := [.str z t, .ref s4.heap.objs.size]) (typeIs_str _ _ _) F.slot_str_getitem.lookup ?_ (by with_unfolding_all rfl)
  refine wpAny_getItem_str_slice (l := l1) (u := u1) (st := w1) ⟨_, Heap.get?_push_size _ rfl, rfl, rfl⟩ (by rw [hw1]; rfl) ?_
  have hl : (⟨z.cps.toList.reverse.toArray⟩ : Str).length ≤ sizeLine := by
    show z.cps.toList.reverse.toArray.size ≤ sizeLine
    simpa [Str.length] using hz
  show Made.post (if ((w1.map (·.1)).getD 1 == 1 && (Builtin.Str.strSliceIndices (l1.map (·.1)) (u1.map (·.1)) ((w1.map (·.1)).getD 1) z.length).length == z.length) = true then Made.val (.str z t)
    else Made.str ⟨((Builtin.Str.strSliceIndices (l1.map (·.1)) (u1.map (·.1)) ((w1.map (·.1)).getD 1) z.length).filterMap (z.cps[·]?)).toArray⟩) (EP X pins σ Q) _
  rw [hl1, hu1, hw1]
  show Made.post (if ((-1 : Int) == 1 && (Builtin.Str.strSliceIndices none none (-1) z.length).length == z.length) = true then Made.val (.str z t)
    else Made.str ⟨((Builtin.Str.strSliceIndices none none (-1) z.length).filterMap (z.cps[·]?)).toArray⟩) (EP X pins σ Q) _
  rw [if_neg (by simp), pick_rev]
  exact ⟨hl, .str _, H4, I5.tok _, ⟨_, rfl⟩, q⟩
end
end L2

namespace L2
open PySem PySem.Spec PyProof.Rows
/-! ### zip of two texts -/
def Itzs (x y : Str) : It :=
  ⟨fun i _ => i < x.cps.size ∧ i < y.cps.size,
    fun i H v H' => ∃ T c d, v = .ref T ∧ H T = none ∧ H' = upd H T (.tup [.str ⟨#[c]⟩, .str ⟨#[d]⟩]) ∧ x.cps[i]? = some c ∧ y.cps[i]? = some d,
    fun i _ => (i ≤ x.cps.size ∧ i ≤ y.cps.size) ∧ (i = x.cps.size ∨ i = y.cps.size)⟩
theorem turn_zipS {P : Program} {w : World} {K : PySem.W.Frag} {elts : List Expr} {kk : Nat} {tpos : Pos} {z TI TO i1 i2 : Addr} (S : ZipSep2 z TI TO i1 i2 [i1] [i2]) (x y : Str) (t u : Tok) :
    Turn P w K (.Tuple elts kk tpos) (Itzs x y) [z, TI, TO, i1, i2] z
      (fun i h => IsZip h z TI TO .none ∧ IsTupOf2 h TI (.ref i1) (.ref i2) ∧ (∃ a b, IsTupOf2 h TO a b) ∧ h.IsStrIter i1 (strIterType x) x t i ∧ h.IsStrIter i2 (strIterType y) y u i) where
  mem := by simp
  obj := fun i h st c hc => by
    obtain ⟨hz, hTI, ⟨a, b, hTO⟩, ⟨o1, e1, _, d1⟩, ⟨o2, e2, _, d2⟩⟩ := st
    have e' : c = z ∨ c = TI ∨ c = TO ∨ c = i1 ∨ c = i2 := by simpa using hc
    rcases e' with q | q | q | q | q
    · rw [q]; exact ⟨_, hz, fun v q => nomatch q⟩
    · rw [q]; exact ⟨_, hTI, fun v q => nomatch q⟩
    · rw [q]; exact ⟨_, hTO, fun v q => nomatch q⟩
    · rw [q]; exact ⟨o1, e1, fun v q => by rw [d1] at q; cases q⟩
    · rw [q]; exact ⟨o2, e2, fun v q => by rw [d2] at q; cases q⟩
  keep := fun i h h' st k => by
    obtain ⟨hz, hTI, ⟨a, b, hTO⟩, ⟨o1, e1, r1⟩, ⟨o2, e2, r2⟩⟩ := st
    exact ⟨k z (by simp) _ hz, k TI (by simp) _ hTI, ⟨a, b, k TO (by simp) _ hTO⟩, ⟨o1, k i1 (by simp) _ e1, r1⟩, ⟨o2, k i2 (by simp) _ e2, r2⟩⟩
  item := by
    intro X hP hw hK hc i pins s σ H E I hf st hg
    subst hP hw hK
    obtain ⟨hz, hTI, ⟨a0, b0, hTO⟩, h1, h2⟩ := st
    obtain ⟨g1, g2⟩ := hg
    have hh : X.A.in1.handled = none := I.ok.hd hc
    have hzl : z < s.heap.objs.size := Heap.lt_size hz
    refine wpAny_pyNext_zipD2_item S (Draws.text hh i1 x t) (Draws.text hh i2 y u) hz hTI hTO h1 h2 g1 g2 fun x1 x2 h' tk p1 p2 h1' TO' s1 s2 hT hsz hk => ?_
    obtain ⟨c, tc, hc1, rfl⟩ := p1
    obtain ⟨d, td, hd1, rfl⟩ := p2
    refine ⟨_, rfl, wpAny_letOwnedTupleGo_zip (s := { s with heap := h', toks := tk }) h1' fun h'' z'' sb => ?_⟩
    have hT2 : h''.get? s.heap.objs.size = some { cls := .type "tuple", data := .seq #[Value.str ⟨#[c]⟩ tc, Value.str ⟨#[d]⟩ td] } := (sb.2 _ (Nat.ne_of_gt hzl)).trans hT
    have new : ObjOk X.prog X.w (upd H s.heap.objs.size (.tup [.str ⟨#[c]⟩, .str ⟨#[d]⟩])) h'' s.heap.objs.size (.tup [.str ⟨#[c]⟩, .str ⟨#[d]⟩]) :=
      ⟨by show 2 ≤ sizeLine; decide, [Value.str ⟨#[c]⟩ tc, Value.str ⟨#[d]⟩ td], .cons ⟨tc, rfl⟩ (.cons ⟨td, rfl⟩ .nil), ⟨_, hT2, rfl, _, rfl⟩⟩
    have I1 : Inv X pins σ (upd H s.heap.objs.size (.tup [.str ⟨#[c]⟩, .str ⟨#[d]⟩])) { s with heap := h'', toks := tk } :=
      I.turnedNew (t' := tk) (ch := [z, TI, TO, i1, i2]) (fun c o hb q => (sb.2 c (fun q' => hb (by simp [q']))).trans (hk c o (fun q' => hb (by simp [q'])) (fun q' => hb (by simp [q'])) (fun q' => hb (by simp [q'])) (fun q' => hb (by simp [q'])) q)) hf (Nat.le_refl _) new
    have st1 : h''.IsStrIter i1 (strIterType x) x t (i + 1) := by
      obtain ⟨o, e, r⟩ := s1
      exact ⟨o, (sb.2 _ (fun q => S.zf1 (by rw [← q]; simp))).trans e, r⟩
    have st2 : h''.IsStrIter i2 (strIterType y) y u (i + 1) := by
      obtain ⟨o, e, r⟩ := s2
      exact ⟨o, (sb.2 _ (fun q => S.zf2 (by rw [← q]; simp))).trans e, r⟩
    refine ⟨.ref s.heap.objs.size, _, I1, rfl, ⟨_, c, d, rfl, I.hok.fresh (Nat.le_refl _), rfl, hc1, hd1⟩, ⟨z'', ?_, ⟨.str ⟨#[c]⟩ tc, .str ⟨#[d]⟩ td, ?_⟩, st1, st2⟩, fun b hbm => ?_⟩
    · exact (sb.2 _ S.TIz).trans (hk _ _ S.TIz S.TITO S.TIi1 S.TIi2 hTI)
    · exact (sb.2 _ S.TOz).trans TO'
    · have hlt : b < s.heap.objs.size := by
        have e' : b = z ∨ b = TI ∨ b = TO ∨ b = i1 ∨ b = i2 := by simpa using hbm
        rcases e' with q | q | q | q | q
        · rw [q]; exact hzl
        · rw [q]; exact Heap.lt_size hTI
        · rw [q]; exact Heap.lt_size hTO
        · rw [q]; obtain ⟨_, e1, _⟩ := h1; exact Heap.lt_size e1
        · rw [q]; obtain ⟨_, e2, _⟩ := h2; exact Heap.lt_size e2
      rw [upd_ne (Nat.ne_of_lt hlt)]
      exact (hf b hbm).1
  done := by
    intro X hP hw hK hc i pins s σ H E I hf st hg
    subst hP hw hK
    obtain ⟨hz, hTI, ⟨a0, b0, hTO⟩, h1, h2⟩ := st
    obtain ⟨⟨g1, g2⟩, g3⟩ := hg
    have hh : X.A.in1.handled = none := I.ok.hd hc
    exact wpAny_pyNext_zipD2_end S (Draws.text hh i1 x t) (Draws.text hh i2 y u) hz hTI hTO h1 h2 g1 g2 g3 fun h' tk hk => ⟨rfl, I.turnedL (t' := tk) (ch := [z, TI, TO, i1, i2]) (fun c o hb q =>
      hk c o (fun q' => hb (by simp [q'])) (fun q' => hb (by simp [q'])) (fun q' => hb (by simp [q'])) (fun q' => hb (by simp [q'])) q) hf⟩
  self := fun A i s Q E st h => wpAny_pyIter_zip st.1 h
def iZipS (ta : TA) : TI := fun σ H R => ta σ H fun vs H1 => ∃ x y, vs = [.str x, .str y] ∧ R (Itzs x y) H1
theorem pi_zipS {X : Cx} {e e2 : Expr} {ta : TA} {p pos tpos : Pos} {elts : List Expr} {kk : Nat} (hg : Gl X "zip") (hm : X.mg "zip" = none) (ha : PA X [e, e2] ta)
    (hs : starEach [e, e2] X.env = (false, eval e X.env) :: starEach [e2] X.env := by rfl) (hpl : (backTo pos (starEach [e2] X.env)).any (·.1) = false := by rfl) :
    PI X (.Tuple elts kk tpos) (.Call (.Name "zip" p) [e, e2] [] pos) (iZipS ta) := by
  refine ⟨fun pins s σ H R I h => ?_⟩
  refine Call_ (ld_blt I hg hm PyProof.Rows.boot_zip (PyProof.Rows.callWith_type1 (thn (ha.run pos pins s σ H _ I h) fun us s1 ⟨vs, H1, I1, r1, q1⟩ => ?_) hs hpl))
  obtain ⟨x, y, ex, q⟩ := q1
  subst ex
  cases r1 with
  | cons r rr =>
    cases rr with
    | cons r' rr =>
      cases rr
      obtain ⟨t, rfl⟩ := r
      obtain ⟨u, rfl⟩ := r'
      refine zip_begins2 (begins_text x t) (begins_text y u) trivial trivial fun h' hz hTI hTO h1 h2 hsz hk => wpAny_pyIter_zip hz ?_
      have I2 : Inv X pins σ H1 { s1 with heap := h' } := I1.kept (t' := s1.toks) hk
      have S : ZipSep2 (s1.heap.objs.size + 4) (s1.heap.objs.size + 2) (s1.heap.objs.size + 3) s1.heap.objs.size (s1.heap.objs.size + 1) [s1.heap.objs.size] [s1.heap.objs.size + 1] :=
        zip_sep2 (fp1 := []) (fp2 := []) (fun b hb => by cases hb) (fun b hb => by cases hb)
      refine ⟨s1.heap.objs.size + 4, [s1.heap.objs.size + 4, s1.heap.objs.size + 2, s1.heap.objs.size + 3, s1.heap.objs.size, s1.heap.objs.size + 1], _, _, H1, rfl, I2, turn_zipS S x y t u, ⟨hz, hTI, ⟨_, _, hTO⟩, ⟨_, h1, rfl, rfl⟩, ⟨_, h2, rfl, rfl⟩⟩, fun c hcm => ?_, q⟩
      have e' : c = s1.heap.objs.size + 4 ∨ c = s1.heap.objs.size + 2 ∨ c = s1.heap.objs.size + 3 ∨ c = s1.heap.objs.size ∨ c = s1.heap.objs.size + 1 := by simpa using hcm
      have hle : s1.heap.objs.size ≤ c := by
        rcases e' with z | z | z | z | z
        · rw [z]; exact Nat.le_add_right _ _
        · rw [z]; exact Nat.le_add_right _ _
        · rw [z]; exact Nat.le_add_right _ _
        · rw [z]; exact Nat.le_refl _
        · rw [z]; exact Nat.le_add_right _ _
      exact I1.fpOk hle (I1.hok.fresh hle)
theorem walk_zipS {x y : Str} {n : Nat} (hn : n = min x.cps.size y.cps.size) : Walk (Itzs x y) n (fun _ => True) (fun i H v H' => ∃ T c d, v = .ref T ∧ H T = none ∧ H' = upd H T (.tup [.str ⟨#[c]⟩, .str ⟨#[d]⟩]) ∧ x.cps[i]? = some c ∧ y.cps[i]? = some d) := by
  subst hn
  exact ⟨fun _ _ hi _ => ⟨by omega, by omega⟩, fun _ _ => ⟨⟨by omega, by omega⟩, by omega⟩, fun _ _ _ _ _ _ y => y⟩
end L2

namespace L2
open PySem PySem.Spec PyProof.Rows
/-! ### rules whose readings name the written part, over any context that has it (a comprehension's block too) -/
section
variable {X : Cx} {K : PySem.W.Frag}
theorem ix_listK (h : X.K = K := by rfl) : IxR X (rIxL K) := h ▸ ix_list
theorem ix_tupK (h : X.K = K := by rfl) : IxR X (rIxT K) := h ▸ ix_tup
theorem sl_listK (h : X.K = K := by rfl) : SlR X (rSlL K) := h ▸ sl_list
theorem sl_tupK (h : X.K = K := by rfl) : SlR X (rSlT K) := h ▸ sl_tup
theorem op_inK (h : X.K = K := by rfl) : OpR X (compareOp .In) (rIn K false) := h ▸ op_in_seq
theorem op_notInK (h : X.K = K := by rfl) : OpR X (compareOp .NotIn) (rIn K true) := h ▸ op_notIn_seq
theorem op_eqDK (hu : X.A.units + 64 < cLine) (h : X.K = K := by rfl) : OpR X (compareOp .Eq) (rEqD K) := h ▸ op_eqD hu
theorem op_neDK (hu : X.A.units + 64 < cLine) (h : X.K = K := by rfl) : OpR X (compareOp .NotEq) (rNeD K) := h ▸ op_neD hu
theorem op_ltDK (hu : X.A.units + 64 < cLine) (h : X.K = K := by rfl) : OpR X (compareOp .Lt) (rLtD K) := h ▸ op_ltD hu
/-- len of a list or tuple -/
def rLenK (K : PySem.W.Frag) : List V → Hp → VK → Prop := fun xs H Q => ∃ p ys, xs = [.ref p] ∧ (SqL K H p ys ∨ SqT K H p ys) ∧ Q (.int ys.length) H
theorem call_lenK (h : X.K = K := by rfl) : CallR X (.builtin "len") (rLenK K) := h ▸ call_len_seq
def rListK (K : PySem.W.Frag) : List V → Hp → VK → Prop := fun xs H Q => ∃ p ys, xs = [.ref p] ∧ (SqL K H p ys ∨ SqT K H p ys) ∧ ∀ l, H l = none → Q (.ref l) (upd H l (.lst ys))
theorem call_listK (h : X.K = K := by rfl) : CallR X (.type "list") (rListK K) := h ▸ call_list_of
theorem cr_allK (hc : X.calm = true) (h : X.K = K := by rfl) : CallR X (.builtin "all") (rAll K) := h ▸ cr_all hc
theorem cr_anyK (hc : X.calm = true) (h : X.K = K := by rfl) : CallR X (.builtin "any") (rAny K) := h ▸ cr_any hc
theorem cr_sumK (hc : X.calm = true) (h : X.K = K := by rfl) : CallR X (.builtin "sum") (rSum K) := h ▸ cr_sum hc
theorem call_isiK1 (h : X.K = K := by rfl) : CallR X (.builtin "isinstance") (rIsi K) := h ▸ call_isi
theorem call_isiTK (h : X.K = K := by rfl) : CallR X (.builtin "isinstance") (rIsiT K) := h ▸ call_isiT
/-- sep.join(texts) -/
def rJoinK (K : PySem.W.Frag) : V → List V → Hp → VK → Prop := fun x xs H Q => ∃ a p, ∃ ys : List Str, x = .str a ∧ xs = [.ref p] ∧ (SqL K H p (ys.map V.str) ∨ SqT K H p (ys.map V.str)) ∧ (ys.map (·.length)).sum + ys.length * a.length ≤ 16777216 ∧ Q (.str (Txt.join a ys)) H
theorem mt_joinK (h : X.K = K := by rfl) : MtR X "str.join" (rJoinK K) := h ▸ mt_join
end
end L2

namespace L2
open PySem PySem.Spec PyProof.Rows
/-! ### exceptions that a suite holds, and list(text) -/
section
variable {X : Cx}
/-- the exception at a, of the class cls, its own dict d: an instance of D -/
structure ExAt (K : PySem.W.Frag) (H : Hp) (cls : Value) (d : Option Addr) (D : Addr) : Prop where
  cls : cls = .ref D
  dict : d = none ∨ ∃ dd fs, d = some dd ∧ H dd = some (.xd fs)
  ok : ExcC K D
theorem ExAt.inst {pins : List (Addr × Obj)} {σ : St} {H : Hp} {s : Shared} {cls : Value} {d : Option Addr} {D a : Addr} {oe : Obj} (I : Inv X pins σ H s) (E : ExAt X.K H cls d D) (hz : Zc cls d oe) (hf : ∃ vs, oe.data = .fields vs) (ha : s.heap.get? a = some oe) : ∃ od, PySem.W.InstAt s.heap a oe D od := by
  obtain ⟨vs, hv⟩ := hf
  obtain ⟨oc, odd, oda, osl⟩ := oe
  obtain ⟨h1, h2⟩ := hz
  dsimp only at h1 h2 hv
  have e := E.cls
  subst e h1 h2 hv
  rcases E.dict with rfl | ⟨dd, fs, rfl, hd⟩
  · exact ⟨none, ha, rfl, rfl, trivial⟩
  · obtain ⟨mA, ⟨od, es, ep, e2, _⟩, _⟩ := (show ObjOk X.prog X.w H s.heap dd (.xd fs) from I.hok dd _ hd)
    exact ⟨some od, ha, rfl, rfl, e2⟩
theorem ExcC.kit {K : PySem.W.Frag} {D a : Addr} {oe : Obj} {od : Option Obj} (C : ExcC K D) : PySem.W.KitX K (.ref a) (.ref D) (fun h => PySem.W.InstAt h a oe D od) :=
  PySem.W.kitx_exc (by obtain ⟨cd, hc, _⟩ := PySem.W.any_some C.hd; rw [hc]; rfl) C.hg C.hk C.hs C.ha C.hn C.ht C.hm
/-- isinstance(e, c) -/
def rIsX (K : PySem.W.Frag) (a : Addr) (cls : Value) (d : Option Addr) : List V → Hp → VK → Prop := fun xs H Q => ∃ (D : Addr) (c : V) (cv : Value) (b : Bool), ExAt K H cls d D ∧ xs = [.ref a, c] ∧ ClsV c cv ∧ PySem.W.kitOne K (.ref D) cv = some b ∧ Q (.bl b) H
theorem call_isX {K : PySem.W.Frag} {a : Addr} {cls : Value} {d : Option Addr} {oe : Obj} {pn : List (Addr × Obj)} (hz : Zc cls d oe) (hf : ∃ vs, oe.data = .fields vs) (hK : X.K = K := by rfl) : CallR (X.suite a ((a, oe) :: pn)) (.builtin "isinstance") (rIsX K a cls d) := by
  subst hK
  intro pins s σ H xs us Q I r h
  obtain ⟨D, c, cv, b, E, rfl, hcv, e, q⟩ := h
  obtain ⟨u1, u2, rfl, rx, rt⟩ := vals2 r
  cases rx
  have ec := hcv.eq rt
  subst ec
  obtain ⟨hget, _⟩ := I.pin (a, oe) (List.mem_append.mpr (.inl List.mem_cons_self))
  obtain ⟨od, J⟩ := ExAt.inst (X := X.suite a ((a, oe) :: pn)) I E hz hf hget
  exact PySem.W.kia_one (E.ok.kit) I.kIn J e (fun z => nomatch z) fun tk => ⟨.bl b, H, I.kept (t' := tk) fun _ _ z => z, rfl, q⟩
/-- isinstance(e, (c, ..)) -/
def rIsXT (K : PySem.W.Frag) (a : Addr) (cls : Value) (d : Option Addr) : List V → Hp → VK → Prop := fun xs H Q => ∃ (D tp : Addr) (cs : List V) (us : List Value) (b : Bool), ExAt K H cls d D ∧ xs = [.ref a, .ref tp] ∧ H tp = some (.tup cs) ∧ Paired ClsV cs us ∧ PySem.W.kitAny K (.ref D) us = some b ∧ Q (.bl b) H
theorem call_isXT {K : PySem.W.Frag} {a : Addr} {cls : Value} {d : Option Addr} {oe : Obj} {pn : List (Addr × Obj)} (hz : Zc cls d oe) (hf : ∃ vs, oe.data = .fields vs) (hK : X.K = K := by rfl) : CallR (X.suite a ((a, oe) :: pn)) (.builtin "isinstance") (rIsXT K a cls d) := by
  subst hK
  intro pins s σ H xs us Q I r h
  obtain ⟨D, tp, cs, ws, b, E, rfl, hT, k, e, q⟩ := h
  obtain ⟨u1, u2, rfl, rx, rt⟩ := vals2 r
  cases rx
  cases (show u2 = Value.ref tp from rt)
  obtain ⟨hget, _⟩ := I.pin (a, oe) (List.mem_append.mpr (.inl List.mem_cons_self))
  obtain ⟨od, J⟩ := ExAt.inst (X := X.suite a ((a, oe) :: pn)) I E hz hf hget
  obtain ⟨_, its, rv, o, h1, h2, n, h3⟩ := (show ObjOk X.prog X.w H s.heap tp (.tup cs) from I.hok tp _ hT)
  have e3 := ClsV.all k rv
  subst e3
  obtain ⟨oc, od', dt, sl⟩ := o
  simp only at h2 h3
  subst h2 h3
  exact PySem.W.kia_tup (E.ok.kit) I.kIn J h1 e (fun z => nomatch z) fun tk => ⟨.bl b, H, I.kept (t' := tk) fun _ _ z => z, rfl, q⟩
/-- list(text) -/
def rListS (H : Hp) (z : Str) (Q : VK) : Prop := ∀ l, H l = none → Q (.ref l) (upd H l (.lst (z.cps.toList.map fun c => V.str ⟨#[c]⟩)))
theorem vals_signs : ∀ (l : List Nat) (us : List Value), us.length = l.length → (∀ (i : Nat) (v : Value), us[i]? = some v → ∃ c t, l[i]? = some c ∧ v = .str ⟨#[c]⟩ t) → Vals (l.map fun c => V.str ⟨#[c]⟩) us
  | [], [], _, _ => .nil
  | [], _ :: _, h, _ => by simp at h
  | _ :: _, [], h, _ => by simp at h
  | c :: l, u :: us, h, hv => by
    obtain ⟨c', t, e1, e2⟩ := hv 0 u rfl
    have : c = c' := by simpa using e1
    subst this
    exact .cons ⟨t, e2⟩ (vals_signs l us (by simpa using h) fun i v e => by simpa using hv (i + 1) v (by simpa using e))
theorem call_listS (hc : X.calm = true) : CallR X (.type "list") (fun xs H Q => ∃ z, xs = [.str z] ∧ z.length ≤ sizeLine ∧ rListS H z Q) := by
  intro pins s σ H xs us Q I r h
  obtain ⟨z, rfl, hz, q⟩ := h
  obtain ⟨u, rfl, t, rfl⟩ := vals1 r
  have hh : X.A.handled = none := I.ok.hd hc
  refine call_list_str hh z t (hn := hz) fun h' tk acc' c' hk hS hacc => ?_
  have rv : Vals (z.cps.toList.map fun c => V.str ⟨#[c]⟩) acc'.toList := vals_signs _ _ (by simpa using hacc.1) fun i v e => by
    obtain ⟨c, u, h1, h2⟩ := hacc.2 i v (by simpa using e)
    exact ⟨c, u, by simpa using h1, h2⟩
  refine ⟨.ref s.heap.objs.size, _, I.laid (t' := tk) hk (Nat.le_refl _) (show ObjOk X.prog X.w _ h' _ (.lst _) from ⟨by rw [List.length_map, Array.length_toList]; exact hz, acc'.toList, c', rv, by simpa using hS⟩), rfl, q _ (I.hok.fresh (Nat.le_refl _))⟩
end
end L2
namespace L2
open PySem PySem.Spec PyProof.Rows
/-! ### what the written part says of an own exception class -/
structure ExK (K : PySem.W.Frag) (mg : Str → Option Value) (x : Str) (C : Addr) (bm : List Value) (newId : String) : Prop where
  gC : mg x = some (.ref C)
  xC : PySem.W.excIn K C bm newId = true
  kC : PySem.W.keepIn K (.ref C) = true
  bC : PySem.W.subIn K (.ref C) (.type "BaseException") = some true
  tC : PySem.W.typeIn K (.ref C) = some (.type "type")
  iC : PySem.W.isClsIn K C = true
  sC : PySem.W.subIn K (.ref C) (.ref C) = some true
  ok : ExcC K C
theorem ExK.te {K : PySem.W.Frag} {mg : Str → Option Value} {x : Str} {C : Addr} {bm : List Value} {newId : String} (T : ExK K mg x C bm newId) : PySem.W.exmOne K (.ref C) (.ref C) = some true := by
  have e1 : (PySem.W.subIn K (.ref C) (.type "BaseException") == some true) = true := by rw [T.bC]; rfl
  have e2 : ((PySem.W.clsIn K C).isSome && PySem.W.typeIn K (.ref C) == some (.type "type")) = true := by
    have q : (PySem.W.clsIn K C).isSome = true := T.iC
    rw [q, T.tC]
    rfl
  show (if (PySem.W.subIn K (.ref C) (.type "BaseException") == some true) = true then (if ((PySem.W.clsIn K C).isSome && PySem.W.typeIn K (.ref C) == some (.type "type")) = true then PySem.W.subIn K (.ref C) (.ref C) else none) else none) = some true
  rw [if_pos e1, if_pos e2]
  exact T.sC
section
variable {X : Cx} {CX : CXT} {x : Str} {k : Nat} {f : Addr} {fd : FuncData} {ps : List Str} {sp : Sp} {dvs : List V} {ds : List Value} {E : St → XK} {e : Expr} {es : List Expr} {t : TA} {p pos : Pos}
/-- f(e, ..) in a try's body, defaults behind -/
def tCallSD (sp : Sp) (dvs : List V) (E : St → XK) (t : TA) : TE := fun σ H Q => t σ H fun vs H1 => sp (vs ++ dvs) H1 Q (E σ)
theorem pe_callSD (F : FnOk X.prog X.w X.K X.mg X.base CX k f fd ps sp) (hr : Room k X.A) (hg : Gl X x) (hm : X.mg x = some (.ref f)) (hk : PySem.W.keepIn X.K (.ref f) = true) (hb : Binds X.K fd ps ds) (hd : Vals dvs ds) (hx : ∀ σ, PassesAt CX X σ (E σ))
    (ha : PA X (e :: es) t) (hdb : (x == ("__debug__" : Str)) = false := by decide) (he : starEach (e :: es) X.env = (false, eval e X.env) :: starEach es X.env := by rfl) (hpl : (backTo pos (starEach es X.env)).any (·.1) = false := by rfl) :
    PE X (.Call (.Name x p) (e :: es) [] pos) (tCallSD sp dvs E t) := by
  refine ⟨fun pins s σ H Q I h => ?_⟩
  refine wpAny_Call_Name_kw (ld_glob I hg hm ?_ hdb)
  refine PySem.W.callWith_K (h₀ := X.base) I.ok.mod.kin hk (thn (ha.run pos pins s σ H _ I h) fun us s1 ⟨vs, H1, I1, r, q⟩ => ⟨I1.kIn, ?_⟩) he hpl
  have r2 : Vals (vs ++ dvs) (us ++ ds) := r.append hd
  have hl : (us ++ ds).length = ps.length := by rw [← r2.length]; exact F.len _ _ _ _ q
  refine wpAny_call (codeAny_mono (F.run X.A X.stack s1 H1 ⟨us, []⟩ (us ++ ds) (vs ++ dvs) Q (E σ) hr I1.env0 (hb s1 us I1.kIn hl) r2 q) fun r s' hq => ?_)
  cases r with
  | error er => exact hx σ pins H1 s1 er s' I1 hq
  | ok fl =>
    cases fl with
    | ret u => exact I1.after hq
    | next => exact False.elim hq
    | brk => exact False.elim hq
    | cont => exact False.elim hq
end
end L2

namespace PySem
namespace XB0
open PySem.W
open PySem.HandSPX (excO)
/-- of a built-in exception class B: how its own classes are made (by L's __new__) and begun -/
structure XB (B newId initId : String) (bm : List Value) : Prop where
  nw : ∃ (L iL : String) (bL : List Value), ExcBaseFacts L newId iL bL ∧ bm.contains (.type L) = true
  hasB : bm.contains (.type B) = true
  noA : bm.contains (.type "AttributeError") = false
  noN : bm.contains (.type "NameError") = false
  init : Slot B "__init__" initId
  iE : entryFor table initId = some Builtin.«BaseException.__init__»
  iS : splitId initId = some (B, "__init__")
  iK : builtinKind initId = some .slot
  iR : Manifest.signature? initId = some ⟨.positional, "*", B, .self, [⟨"args", .varPos, false⟩]⟩
  nS : (B != "*") = true
theorem XB.of {B ni ii : String} {bm : List Value} (F : ExcBaseFacts B ni ii bm) : XB B ni ii bm := ⟨⟨B, ii, bm, F, F.hasB⟩, F.hasB, F.noAttr, F.noName, F.init, F.initEntry, F.initSplit, F.initKind, F.initRow, F.noStar⟩
abbrev keTail : List Value := [.type "KeyError", .type "LookupError", .type "Exception", .type "BaseException", .type "object"]
theorem xb_KeyError : XB "KeyError" "LookupError.__new__" "KeyError.__init__" keTail where
  nw := ⟨"LookupError", _, _, F.excBase_LookupError, by decide +kernel⟩
  hasB := by decide +kernel
  noA := by decide +kernel
  noN := by decide +kernel
  init := .of (owner := "KeyError") (n := "__init__") (by rw [typeLookup_type, builtinLookup_eq_fast]; kernel_rfl) (by decide +kernel) (by decide +kernel) (by decide +kernel)
    (by first | exact .inl (by decide +kernel) | exact .inr (by decide +kernel)) (by rw [isSubtype_type]; kernel_rfl)
  iE := by kernel_rfl
  iS := by decide +kernel
  iK := by decide +kernel
  iR := by kernel_rfl
  nS := by decide +kernel
theorem st_KeyError : StoreFacts "KeyError" keTail "object.__setattr__" "object" where
  mro := by kernel_rfl
  slot := .of (owner := "object") (n := "__setattr__") (by rw [typeLookup_type, builtinLookup_eq_fast]; kernel_rfl) (by decide +kernel) (by decide +kernel) (by decide +kernel) (by first | exact .inl (by decide +kernel) | exact .inr (by decide +kernel)) (by rw [isSubtype_type]; kernel_rfl)
  entry := F.entry_object_sa
  kind := by decide +kernel
  split := by decide +kernel
  hasOwner := by decide +kernel
  args := fun x y z => by unfold argsOk; kernel_rfl
  passes := fun x => by kernel_rfl
section
variable {prog : Program} {w : World} {A : Around} {E : Value → Shared → Prop} {R : Result → Shared → Prop} {h : Heap} {g : Array GenState} {d : Drawn} {t : Nat} {os : OsState}
variable {nm q : Str} {C N : Addr} {bs bm bmB : List Value} {hdct : Bool} {sn : List Str} {sub : List Value} {ab : Bool} {col : Option Bool} {dd : Option Addr} {k0 k1 k2 k3 k5 : Option Value} {B ni ii : String}
theorem xb_checkNew (F : XB B ni ii bmB) (hT : ∀ X : String, bm.contains (.type X) = bmB.contains (.type X)) {us : List Value} {Q : Unit → Shared → Prop}
    (hC : h.get? C = some (excClassObj nm q C N bs bm hdct sn sub ab col dd k0 k1 k2 k3 k5 ni)) (z : Q () ⟨h, g, d, t, os⟩) : wpAny (model prog w) A (checkBuiltinCall ni ⟨.ref C :: us, []⟩) Q E ⟨h, g, d, t, os⟩ := by
  obtain ⟨L, iL, bL, G, hL⟩ := F.nw
  have c1 : (Value.ref C :: bm).contains (.type L) = true := by rw [List.contains_cons, hT, hL, Bool.or_true]
  have c2 := G.noStar
  simp only [checkBuiltinCall, G.newKind, G.newSplit, G.newRow]
  repeat (first | refine wpAny_loadPart_at hC ?_ | (refine wpAny_isSubtype_exc hC ?_; rw [c1]) | refine wpAny_staticBase_exc hC ?_ | refine wpAny_madeBy_exc hC ?_ | simp only [bne_self_eq_false, Bool.false_eq_true, if_false] | wp_step)
  exact z
theorem xb_new (F : XB B ni ii bmB) (hT : ∀ X : String, bm.contains (.type X) = bmB.contains (.type X)) {us : List Value}
    (hC : h.get? C = some (excClassObj nm q C N bs bm hdct sn sub ab col dd k0 k1 k2 k3 k5 ni))
    (z : R (.ok (.ret (.ref (h.objs.size + 1)))) ⟨(h.push (PySem.W.kdv_tup us)).push (excO C h.objs.size), g, d, t, os⟩) (hl : us.length ≤ sizeLine) :
    codeAny (model prog w) A (.builtin ni ⟨.ref C :: us, []⟩) R ⟨h, g, d, t, os⟩ := by
  obtain ⟨L, iL, bL, G, hL⟩ := F.nw
  have c0 := G.ends
  have c1 : (Value.ref C :: bm).contains (.type L) = true := by rw [List.contains_cons, hT, hL, Bool.or_true]
  have c2 : (Value.ref C :: bm).contains (.type "AttributeError") = false := by rw [List.contains_cons, hT, F.noA]; rfl
  have c3 : (Value.ref C :: bm).contains (.type "NameError") = false := by rw [List.contains_cons, hT, F.noN]; rfl
  refine codeAny_builtinAt G.entry ?_
  unfold Builtin.«BaseException.__new__»
  refine wpAt_bind ?_
  show wpAt _ _ _ (stack >>= _) _ _ _
  refine wpAt_bind (wpAt_stack fun p below => wpAt_of_wpAny ?_)
  wp_walk
  refine wpAt_of_wpAny ?_
  rw [G.owner]
  repeat (first | with_reducible refine wpAny_madeHere_exc G.canon hC ?_ | with_reducible refine wpAny_loadPart_at hC ?_ | (with_reducible refine wpAny_isSubtype_exc hC ?_; first | rw [c1] | rw [c2] | rw [c3]) | wp_step)
  show R _ _
  rw [Heap.size_push]
  exact z
theorem xb_checkInit (F : XB B ni ii bmB) (hT : ∀ X : String, bm.contains (.type X) = bmB.contains (.type X)) {e : Addr} {oe : Obj} {us : List Value} {Q : Unit → Shared → Prop}
    (hC : h.get? C = some (excClassObj nm q C N bs bm hdct sn sub ab col dd k0 k1 k2 k3 k5 ni)) (he : h.get? e = some oe) (hc : oe.cls = .ref C) (z : Q () ⟨h, g, d, t, os⟩) :
    wpAny (model prog w) A (checkBuiltinCall ii ⟨.ref e :: us, []⟩) Q E ⟨h, g, d, t, os⟩ := by
  have c1 : (Value.ref C :: bm).contains (.type B) = true := by rw [List.contains_cons, hT, F.hasB, Bool.or_true]
  have c2 := F.nS
  simp only [checkBuiltinCall, F.iK, F.iS, F.iR]
  repeat (first | (with_reducible refine wpAny_loadPart_at he ?_; rw [hc]) | with_reducible refine wpAny_loadPart_at hC ?_ | (with_reducible refine wpAny_isSubtype_exc hC ?_; rw [c1]) | wp_step)
  refine wpAny_onRaise ?_
  rw [show ∀ (x y : String) (n : Nat), Bind.check ⟨.positional, "*", B, .self, [⟨"args", .varPos, false⟩]⟩ x y n (List.map (fun v => v.fst) ({ pos := Value.ref e :: us } : Args).kw) = pure () from
    fun x y n => check_star_args _ _ _ _ _ _]
  exact wpAny_pure z
theorem xb_init (F : XB B ni ii bmB) (hT : ∀ X : String, bm.contains (.type X) = bmB.contains (.type X)) {e t0 : Addr} {us : List Value}
    (hC : h.get? C = some (excClassObj nm q C N bs bm hdct sn sub ab col dd k0 k1 k2 k3 k5 ni)) (he : h.get? e = some (excO C t0)) (hl : us.length ≤ sizeLine)
    (z : ∀ h' t1, (∀ b o, b ≠ e → h.get? b = some o → h'.get? b = some o) → h'.get? e = some (excO C t1) → R (.ok (.ret .none)) ⟨h', g, d, t, os⟩) :
    codeAny (model prog w) A (.call (.builtin ii) ⟨.ref e :: us, []⟩) R ⟨h, g, d, t, os⟩ := by
  refine codeAny_call_builtin F.init.plain F.iE (xb_checkInit F hT hC he rfl ?_)
  wp_walk
  refine z _ h.objs.size (fun x o hx ho => ?_) ?_
  · rw [Heap.get?_update_other _ _ (Ne.symm hx)]
    exact Heap.get?_push_of_some _ ho
  · rw [Heap.get?_update_self _ (Heap.get?_push_of_some _ he) rfl]
    rfl
theorem xb_typeCall (F : XB B ni ii bmB) (hT : ∀ X : String, bm.contains (.type X) = bmB.contains (.type X)) {us : List Value} {fI : Addr} {Q : Fin → Shared → Prop}
    (hC : h.get? C = some (excClassObj nm q C N bs bm hdct sn sub ab col dd k0 k1 k2 k3 k5 ni))
    (hi : W.Looks (model prog w) h (typeLookup (.ref C) "__init__") (some (.ref fI))) (hb : ∀ x, W.Looks (model prog w) h (bindSpecial (.ref fI) x) (.ref fI, [x])) (hl : us.length ≤ sizeLine)
    (z : codeAny (model prog w) A (.call (.ref fI) ⟨.ref (h.objs.size + 1) :: us, []⟩)
      (fun r s' => match r with | .ok (.ret v) => v = .none ∧ Q (.done (.ret (.ref (h.objs.size + 1)))) s' | .ok _ => False | .error e => E e s')
      ⟨(h.push (PySem.W.kdv_tup us)).push (excO C h.objs.size), g, d, t, os⟩) :
    wpAny (model prog w) A (Builtin.«type.__call__» ⟨.ref C :: us, []⟩) Q E ⟨h, g, d, t, os⟩ := by
  obtain ⟨L, iL, bL, G, hL⟩ := F.nw
  repeat (first | with_reducible refine wpAny_loadPart_at hC ?_ | with_reducible refine wpAny_madeBy_exc hC ?_ | wp_step)
  refine codeAny_call_builtin_code (Code.quiet_builtin _ G.quiet) (xb_checkNew F hT hC ?_)
  refine xb_new F hT hC ?_ hl
  show wpAny _ _ _ _ _ _
  have k : ∀ b o, h.get? b = some o → ((h.push (PySem.W.kdv_tup us)).push (excO C h.objs.size)).get? b = some o := fun b o e => Heap.get?_push_of_some _ (Heap.get?_push_of_some _ e)
  have c1 := k _ _ hC
  have c2 : ((h.push (PySem.W.kdv_tup us)).push (excO C h.objs.size)).get? (h.objs.size + 1) = some (excO C h.objs.size) := by heap_get
  have c3 : (Value.ref C :: bm).contains (.ref C) = true := by simp
  have i1 := hi.keeps k
  have b1 := (hb (.ref (h.objs.size + 1))).keeps k
  unfold isInstance
  repeat (first | with_reducible refine wpAny_loadPart_at c2 ?_ | (with_reducible refine wpAny_isSubtype_exc c1 ?_; rw [c3]) | wp_step)
  show wpAny _ _ (typeLookup (.ref C) _) _ _ _
  refine i1.at ?_
  refine wpAny_holding (wpAny_bind (b1.at ?_))
  refine wpAny_bind (wpAny_call (codeAny_mono z fun r s' y => ?_))
  rcases r with e | (v | _ | _ | _) <;> first | exact y | exact y.elim | skip
  obtain ⟨rfl, y⟩ := y
  first
    | exact wpAny_pure (wpAny_pure y)
    | (wp_walk; exact y)
theorem xb_call (F : XB B ni ii bmB) (hT : ∀ X : String, bm.contains (.type X) = bmB.contains (.type X)) {us : List Value} {fI : Addr}
    (hC : h.get? C = some (excClassObj nm q C N bs bm hdct sn sub ab col dd k0 k1 k2 k3 k5 ni))
    (hi : W.Looks (model prog w) h (typeLookup (.ref C) "__init__") (some (.ref fI))) (hb : ∀ x, W.Looks (model prog w) h (bindSpecial (.ref fI) x) (.ref fI, [x])) (hl : us.length ≤ sizeLine)
    (z : codeAny (model prog w) (A.under (.builtin "type.__call__" ⟨.ref C :: us, []⟩)) (.call (.ref fI) ⟨.ref (h.objs.size + 1) :: us, []⟩) (W.InitBack (h.objs.size + 1) R)
      ⟨(h.push (PySem.W.kdv_tup us)).push (excO C h.objs.size), g, d, t, os⟩) :
    codeAny (model prog w) A (.call (.ref C) ⟨us, []⟩) R ⟨h, g, d, t, os⟩ := by
  have f1 := tc_lookup
  have f2 := tc_bind (.ref C)
  have f3 : (⟨h, g, d, t, os⟩ : Shared).TypeIs (.ref C) "type" := ⟨_, hC, rfl⟩
  refine codeAny_of_tree ?_
  show wpAny _ _ (callAny (.ref C) _) _ _ _
  repeat (any_goals (first | assumption | with_reducible refine wpAny_loadPart_at hC ?_ | wp_step))
  refine ⟨rfl, ?_⟩
  refine codeAny_call_builtin_at (Code.quiet_builtin _ (by decide +kernel)) entry_typeCall (wpAny_check_type_call_sub hC (xb_typeCall F hT hC hi hb hl ?_))
  refine codeAny_mono z fun r s' y => ?_
  rcases r with e | (v | _ | _ | _) <;> exact y
end
end XB0
end PySem
namespace L2
open PySem PySem.Spec PyProof.Rows
/-! ### own exceptions with fields over any built-in base -/
/-- what is asked of such a class C over the built-in class B -/
structure XiC (K : PySem.W.Frag) (C : Addr) (B newId initId : String) (bmB : List Value) : Prop where
  fb : PySem.XB0.XB B newId initId bmB
  sf : StoreFacts B bmB "object.__setattr__" "object"
  made : PySem.W.excInitIn K C bmB newId = true
  ov : PySem.W.excOver K C bmB = true
  hd : PySem.W.hasDictIn K C = true
  sa : PySem.W.findIn K (.ref C) "__setattr__" = some (some (.builtin "object.__setattr__"))
  bC : PySem.W.subIn K (.ref C) (.type "BaseException") = some true
  tC : PySem.W.typeIn K (.ref C) = some (.type "type")
  kC : PySem.W.keepIn K (.ref C) = true
section
variable {X : Cx} {pins : List (Addr × Obj)} {σ : St} {H : Hp} {s : Shared} {a C dx : Addr} {f : Str} {y : V} {u : Value} {fs : List (Str × V)} {Q : Unit → Shared → Prop} {E : Value → Shared → Prop} {A : Around} {B ni ii : String} {bm : List Value}
/-- e.f = y, the first field: the exception's dict is made -/
theorem xi_first (T : XiC X.K C B ni ii bm) (I : Inv X pins σ H s) (he : H a = some (exo a C none)) (ht : PySem.W.takerIn X.K C f = some none) (ry : RelV y u)
    (k : ∀ dx s', H dx = none → dx ≠ a → Inv X pins σ (upd (upd (upd H dx (exd dx [])) a (exo a C (some dx))) dx (exd dx [(f, y)])) s' → Q () s') : wpAny (model X.prog X.w) A (setAttr (.ref a) f u) Q E s := by
  obtain ⟨t1, ho⟩ := exo_at I.hok he
  obtain ⟨hp, g, dr, t, os⟩ := s
  obtain ⟨cd, hc, hdct⟩ := PySem.W.any_some T.hd
  have lt : a < hp.objs.size := Heap.lt_size ho
  refine PySem.W.set_plain I.kIn (od := none) ⟨ho, rfl, rfl, trivial⟩ T.sa ?_
  refine PySem.W.osa_openX (od := none) T.sf I.kIn ⟨ho, rfl, rfl, trivial⟩ T.ov ht fun b => ?_
  refine wpAny_bind (wpAny_pure (wpAny_bind (PySem.W.instanceDict_exc ho (PySem.W.looks_clsIn I.kIn hc) hdct ?_)))
  show wpAny _ _ (Builtin.ObjectAttr.storeInDict hp.objs.size _ f u) _ _ _
  have gd : (hp.push (PySem.W.dictOf [] 0)).get? hp.objs.size = some (PySem.W.dictOf [] 0) := Heap.get?_push_size _ rfl
  have ns0 : (hp.push (PySem.W.dictOf [] 0)).Ns1 hp.objs.size (fun _ => none) := Heap.Ns1.of_empty ⟨_, #[], _, gd, rfl, fun e he => absurd he (by simp), fun _ => rfl⟩
  have J1 := I.laid (a := hp.objs.size) (o := exd hp.objs.size []) (h' := hp.push (PySem.W.dictOf [] 0)) (t' := t) (fun _ _ q => Heap.get?_push_of_some _ q) (Nat.le_refl _) (exd_ok ns0 fun _ => True.intro)
  have fr : H hp.objs.size = none := I.hok.fresh (Nat.le_refl _)
  have na : hp.objs.size ≠ a := Nat.ne_of_gt lt
  have gx := Heap.get?_update_self (fun o : Obj => { o with dict := some hp.objs.size }) (Heap.get?_push_of_some (PySem.W.dictOf [] 0) ho) rfl
  have J2 := J1.write (x := a) (e := a) (o := exo a C (some hp.objs.size)) (h' := (hp.push (PySem.W.dictOf [] 0)).update a fun o => { o with dict := some hp.objs.size }) (t' := t)
    (by rw [upd_ne na.symm, he]; exact True.intro) (.inl rfl) (fun b o hb q => (Heap.get?_update_ne _ _ _ _ hb).trans q) ⟨_, gx⟩ (exo_ok gx)
  have ns1 : ((hp.push (PySem.W.dictOf [] 0)).update a fun o => { o with dict := some hp.objs.size }).Ns1 hp.objs.size (fun _ => none) :=
    Heap.Ns1.of_empty ⟨_, #[], _, (Heap.get?_update_ne _ _ _ _ na).trans gd, rfl, fun e he => absurd he (by simp), fun _ => rfl⟩
  refine PySem.OEX.store_in_old (ns := []) ns1 Within.nil (by decide) fun h' tk' hn' sb => ?_
  have ex : ∃ o, h'.get? hp.objs.size = some o := by
    obtain ⟨o, _, _, q, _⟩ := hn'
    exact ⟨o, q⟩
  exact k hp.objs.size _ fr na (J2.write (x := hp.objs.size) (e := hp.objs.size) (o := exd hp.objs.size [(f, y)]) (h' := h') (t' := tk')
    (by rw [upd_ne na, upd_same]; exact True.intro) (.inl rfl) (fun b o hb q => (sb.2 b hb).trans q) ex (exd_ok hn' (relO_put (fs := []) ry fun _ => True.intro)))
/-- e.f = y, a later field -/
theorem xi_later (T : XiC X.K C B ni ii bm) (I : Inv X pins σ H s) (he : H a = some (exo a C (some dx))) (hd : H dx = some (exd dx fs)) (hl : fs.length ≤ 900) (ht : PySem.W.takerIn X.K C f = some none) (ry : RelV y u)
    (k : ∀ s', Inv X pins σ (upd H dx (exd dx ((f, y) :: fs))) s' → Q () s') : wpAny (model X.prog X.w) A (setAttr (.ref a) f u) Q E s := by
  obtain ⟨t1, ho⟩ := exo_at I.hok he
  obtain ⟨mA, ns1, rel⟩ := exd_at I.hok hd
  have wi := within_of rel
  obtain ⟨hp, g, dr, t, os⟩ := s
  obtain ⟨cd, hc, hdct⟩ := PySem.W.any_some T.hd
  obtain ⟨oD, _, _, gD, _, _⟩ := ns1.count wi
  refine PySem.W.set_plain I.kIn (od := some oD) ⟨ho, rfl, rfl, gD⟩ T.sa ?_
  refine PySem.W.osa_openX (od := some oD) T.sf I.kIn ⟨ho, rfl, rfl, gD⟩ T.ov ht fun b => ?_
  refine wpAny_bind (wpAny_pure (wpAny_bind (wpAny_bind (wpAny_loadPart ho (wpAny_bind ((PySem.W.looks_clsIn I.kIn hc).at ?_))))))
  rw [hdct]
  refine wpAny_pure (a := some dx) ?_
  refine PySem.OEX.store_in_old ns1 wi (by rw [List.length_map]; omega) fun h' tk' hn' sb => ?_
  have ex : ∃ o, h'.get? dx = some o := by
    obtain ⟨o, _, _, q, _⟩ := hn'
    exact ⟨o, q⟩
  exact k _ (I.write (x := dx) (e := dx) (o := exd dx ((f, y) :: fs)) (h' := h') (t' := tk') (by rw [hd]; exact True.intro) (.inl rfl) (fun b o hb q => (sb.2 b hb).trans q) ex (exd_ok hn' (relO_put ry rel)))
/-- B.__init__(e, ..): nothing of it is told -/
theorem xi_base {us : List Value} {P : Value → Shared → Prop} (T : XiC X.K C B ni ii bm) (I : Inv X pins σ H s) (he : H a = some (exo a C none)) (hl : us.length ≤ sizeLine) (k : ∀ s', Inv X pins σ H s' → P .none s') :
    wpAny (model X.prog X.w) A (call (.builtin ii) (.ref a :: us)) P E s := by
  obtain ⟨nm, N, q, bs, bm', hdct, sn, sub, ab, col, dd, k0, k1, k2, k3, k5, hC, hT⟩ := PySem.W.excInit_of I.kIn T.made
  obtain ⟨t1, ho⟩ := exo_at I.hok he
  obtain ⟨hp, g, d, t, os⟩ := s
  refine wpAny_call (PySem.XB0.xb_init T.fb hT hC ho hl fun h' t2 kp hx => ?_)
  have J := I.write (t' := t) (x := a) (e := a) (o := exo a C none) (by rw [he]; exact True.intro) (.inl rfl) kp ⟨_, hx⟩ (exo_ok hx)
  have same : upd H a (exo a C none) = H := funext fun b => by
    by_cases hb : b = a
    · subst hb; rw [upd_same, he]
    · exact upd_ne hb
  rw [same] at J
  exact k _ J
end
/-- B.__init__(self, ..) -/
def tXi (K : PySem.W.Frag) (B ni ii : String) (bm : List Value) (ta : TA) : TE := fun σ H Q => ta σ H fun vs H1 => ∃ (a C : Addr) (ws : List V), vs = .ref a :: ws ∧ ws.length ≤ 1000 ∧ XiC K C B ni ii bm ∧ H1 a = some (exo a C none) ∧ Q .non H1
/-- self.f = e -/
def tXs (K : PySem.W.Frag) (B ni ii : String) (bm : List Value) (f : Str) (to te : TE) : TS := fun D σ H => te σ H fun y H1 => to σ H1 fun x H2 => ∃ a C : Addr, x = .ref a ∧ XiC K C B ni ii bm ∧ PySem.W.takerIn K C f = some none ∧
  ((H2 a = some (exo a C none) ∧ ∀ dx, H2 dx = none → dx ≠ a → D.nx σ (upd (upd (upd H2 dx (exd dx [])) a (exo a C (some dx))) dx (exd dx [(f, y)]))) ∨
    ∃ (dx : Addr) (fs : List (Str × V)), H2 a = some (exo a C (some dx)) ∧ H2 dx = some (exd dx fs) ∧ fs.length ≤ 900 ∧ D.nx σ (upd H2 dx (exd dx ((f, y) :: fs))))
section
variable {X : Cx} {o e : Expr} {es : List Expr} {to te : TE} {ta : TA} {f : Str} {p p' p1 p2 pos : Pos} {B ni ii : String} {bm : List Value}
theorem pe_xi {x : Str} {pl : Sem Bool} (hg : Gl X x) (hm : X.mg x = none) (hv : bootBuiltins x = some (.type B)) (hn : x ≠ "__name__") (hdb : (x == ("__debug__" : Str)) = false) (ty : typeOf (.type B) = pure (.type "type")) (vV : PySem.W.findCls X.K (.type B) (.type "type") "__init__" = some (.val (.builtin ii))) (ha : PA X (e :: es) ta)
    (stub : Manifest.isStub B = false := by decide +kernel) (hnd : PySem.W.handedIn (.builtin ii) = true := by decide +kernel)
    (hc : eval (.Call (.Attribute (.Name x p1) "__init__" p2) (e :: es) [] pos) X.env = (do
      let ov ← eval (.Name x p1) X.env
      standAt p2.atName
      let (f, first) ← holding [ov] (getMethod ov "__init__" pl)
      callWith pos f first (backTo pos (starEach (e :: es) X.env)) (backToKw pos (keywordEach [] X.env))) := by rfl)
    (he : starEach (e :: es) X.env = (false, eval e X.env) :: starEach es X.env := by rfl) (hpl : (backTo pos (starEach es X.env)).any (·.1) = false := by rfl) :
    PE X (.Call (.Attribute (.Name x p1) "__init__" p2) (e :: es) [] pos) (tXi X.K B ni ii bm ta) := by
  refine ⟨fun pins s σ H Q I h => ?_⟩
  refine PySem.W.methodCall_KW (ld_blt I hg hm hv ?_ hn hdb) hc
  obtain ⟨m, fr⟩ := I.fr
  refine PySem.W.method_type fr I.ok.mod.kin ty stub vV hnd ?_
  show wpAny _ _ (callWith pos (Value.builtin ii) [] (backTo pos (starEach (e :: es) X.env)) []) _ _ _
  refine PyProof.Rows.callWith_method1 (thn (ha.run pos pins _ σ H _ (I.tok _) h) fun us s1 z => ?_) he hpl
  obtain ⟨vs, H1, J, r, a, C, ws, rfl, hl, T, ea, q⟩ := z
  cases r with
  | @cons _ u0 _ ur ra rw' =>
    cases (show u0 = Value.ref a from ra)
    exact xi_base T J ea (by rw [← Paired.length rw', sizeLine_eq]; omega) fun s' J' => ⟨.non, H1, J', rfl, q⟩
theorem ps_xs (ho : PE X o to) (he : PE X e te) (hs : swapsWith e (some (.Attribute o f p')) pos.line X.env = pure false := by rfl) : PS X (.Assign [.Attribute o f p'] e pos) (tXs X.K B ni ii bm f to te) := by
  refine ⟨fun pins s σ H D I h => plainObj_wpAny_Assign_Attribute (thn (he.run pins s σ H _ I h) fun v s1 z1 => ?_) hs⟩
  obtain ⟨y, H1, J1, ry, q1⟩ := z1
  refine thn (ho.run pins s1 σ H1 _ J1 q1) fun u s2 z2 => ?_
  obtain ⟨x, H2, J2, rx, a, C, rfl, T, ht, q⟩ := z2
  cases (show u = Value.ref a from rx)
  rcases q with ⟨ea, q⟩ | ⟨dx, fs, ea, ed, hl, q⟩
  · exact xi_first T J2 ea ht ry fun dx s' n ne J => ⟨σ, _, J, q dx n ne⟩
  · exact xi_later T J2 ea ed hl ht ry fun s' J => ⟨σ, _, J, q⟩
/-- C(e, ..), C's own __init__ keeping sp -/
theorem pmk_xi {CX : CXT} {x : Str} {C fI : Addr} {k : Nat} {fd : FuncData} {ps : List Str} {sp : Sp} {ds : List Value} {dvs : List V} (T : XiC X.K C B ni ii bm) (iC : PySem.W.findIn X.K (.ref C) "__init__" = some (some (.ref fI))) (tI : PySem.W.typeIn X.K (.ref fI) = some (.type "function"))
    (F1 : FnOk X.prog X.w X.K X.mg X.base CX k fI fd ps sp) (hr : Room (k + 1) X.A) (hb : Binds X.K fd ps ds) (hd : Vals dvs ds) (hx : Passes CX X (fun _ _ _ => False)) (hg : Gl X x) (hm : X.mg x = some (.ref C)) (ha : PA X (e :: es) ta)
    (hdb : (x == ("__debug__" : Str)) = false := by decide) (he : starEach (e :: es) X.env = (false, eval e X.env) :: starEach es X.env := by rfl) (hpl : (backTo pos (starEach es X.env)).any (·.1) = false := by rfl) :
    PMk X (.Call (.Name x p) (e :: es) [] pos) (tMkO C sp dvs ta) := by
  intro pins s σ H Q I h
  refine wpAny_Call_Name_kw (ld_glob I hg hm ?_ hdb)
  refine PySem.W.callWith_K (h₀ := X.base) I.ok.mod.kin T.kC (thn (ha.run pos pins s σ H _ I h) fun us s1 z => ?_) he hpl
  obtain ⟨vs, H1, J, r, hz, q⟩ := z
  refine ⟨J.kIn, ?_⟩
  show wpAny _ _ (call (.ref C) us) _ _ _
  obtain ⟨nm, N, qn, bs, bm', hdct, sn, sub, ab, col, dd, k0, k1, k2, k3, k5, hC, hT⟩ := PySem.W.excInit_of J.kIn T.made
  obtain ⟨hp, g, dr, tk, os⟩ := s1
  have n1 : hp.objs.size ≤ hp.objs.size + 1 := Nat.le_succ _
  have Z := q (hp.objs.size + 1) (J.hok.fresh n1)
  have kp : ∀ b o, hp.get? b = some o → ((hp.push (PySem.W.kdv_tup us)).push (PySem.HandSPX.excO C hp.objs.size)).get? b = some o := fun _ _ z => Heap.get?_push_of_some _ (Heap.get?_push_of_some _ z)
  have gt : ((hp.push (PySem.W.kdv_tup us)).push (PySem.HandSPX.excO C hp.objs.size)).get? (hp.objs.size + 1) = some (PySem.HandSPX.excO C hp.objs.size) := by heap_get
  have J2 := J.laid (t' := tk) (a := hp.objs.size + 1) (o := exo (hp.objs.size + 1) C none) (h' := (hp.push (PySem.W.kdv_tup us)).push (PySem.HandSPX.excO C hp.objs.size)) kp n1 (exo_ok gt)
  have r2 : Vals (V.ref (hp.objs.size + 1) :: (vs ++ dvs)) (Value.ref (hp.objs.size + 1) :: (us ++ ds)) := .cons rfl (r.append hd)
  have zl : (Value.ref (hp.objs.size + 1) :: us ++ ds).length = ps.length := (r2.length.symm.trans (F1.len _ _ _ _ Z)).symm ▸ rfl
  refine wpAny_call (PySem.XB0.xb_call T.fb hT hC (PySem.W.looks_findIn J.kIn iC) (fun self => PySem.W.bind_fn J.kIn self tI) (by rw [← Paired.length r, sizeLine_eq]; omega)
    (codeAny_mono (F1.run _ X.stack _ _ ⟨Value.ref (hp.objs.size + 1) :: us, []⟩ (Value.ref (hp.objs.size + 1) :: (us ++ ds)) _ _ (fun _ _ _ => False) (hr.make C us []) (J2.env0.make C us []) (hb _ (Value.ref (hp.objs.size + 1) :: us) J2.kIn zl) r2 Z) fun rs s' z => ?_))
  cases rs with
  | error er => exact hx pins σ _ _ er s' J2 z
  | ok fl =>
    cases fl with
    | ret u =>
      obtain ⟨v, H2, os2, bare2, un2, hok2, rv, ev, d, fs, ea, ed, hd1, q2⟩ := z
      subst ev
      obtain ⟨h2, g2, d2, t2, os'⟩ := s'
      exact ⟨rv, mk_end (raises_own T.bC T.tC) J n1 kp un2 hok2 os2 bare2 ea ed hd1 q2⟩
    | _ => exact False.elim z
end
end L2
namespace L2
open PySem PySem.Spec PyProof.Rows
/-! ### what the written part says of such a class -/
structure ExF (K : PySem.W.Frag) (mg : Str → Option Value) (x : Str) (C : Addr) (B ni ii : String) (bm : List Value) : Prop where
  gC : mg x = some (.ref C)
  xi : XiC K C B ni ii bm
  iC : PySem.W.isClsIn K C = true
  sC : PySem.W.subIn K (.ref C) (.ref C) = some true
  ok : ExcC K C
  xf : XfC K C
section
variable {K : PySem.W.Frag} {mg : Str → Option Value} {x : Str} {C D : Addr} {B ni ii : String} {bm : List Value} {b : Bool} {T : String} {f : Str}
theorem ExF.tC (E : ExF K mg x C B ni ii bm) : PySem.W.typeIn K (.ref C) = some (.type "type") := E.xi.tC
theorem ExF.bC (E : ExF K mg x C B ni ii bm) : PySem.W.subIn K (.ref C) (.type "BaseException") = some true := E.xi.bC
/-- which clause takes an exception -/
theorem exm_of (s : PySem.W.subIn K (.ref C) (.ref D) = some b) (bD : PySem.W.subIn K (.ref D) (.type "BaseException") = some true) (iD : PySem.W.isClsIn K D = true) (tD : PySem.W.typeIn K (.ref D) = some (.type "type")) : PySem.W.exmOne K (.ref C) (.ref D) = some b := by
  have q : (PySem.W.clsIn K D).isSome = true := iD
  show (if (PySem.W.subIn K (.ref D) (.type "BaseException") == some true) = true then (if ((PySem.W.clsIn K D).isSome && PySem.W.typeIn K (.ref D) == some (.type "type")) = true then PySem.W.subIn K (.ref C) (.ref D) else none) else none) = some b
  rw [if_pos (by rw [bD]; rfl), if_pos (by rw [q, tD]; rfl), s]
theorem ExF.te (E : ExF K mg x C B ni ii bm) : PySem.W.exmOne K (.ref C) (.ref C) = some true := exm_of E.sC E.bC E.iC E.tC
theorem kit_exT (s : PySem.W.subIn K (.ref C) (.type T) = some b) (m : PySem.W.kitMeta T = true := by decide +kernel) : PySem.W.kitOne K (.ref C) (.type T) = some b := by
  have n : (Value.ref C == Value.type T) = false := by
    apply beq_eq_false_iff_ne.mpr
    intro z
    cases z
  show (if (Value.ref C == Value.type T) = true then some true else if PySem.W.kitMeta T = true then PySem.W.subIn K (.ref C) (.type T) else none) = some b
  rw [n, if_neg (by decide), if_pos m, s]
theorem kit_exC (s : PySem.W.subIn K (.ref C) (.ref D) = some b) (iD : PySem.W.isClsIn K D = true) (tD : PySem.W.typeIn K (.ref D) = some (.type "type")) (sD : PySem.W.subIn K (.ref D) (.ref D) = some true) : PySem.W.kitOne K (.ref C) (.ref D) = some b := by
  have q : (PySem.W.clsIn K D).isSome = true := iD
  show (if (Value.ref C == Value.ref D) = true then some true else if ((PySem.W.clsIn K D).isSome && PySem.W.typeIn K (.ref D) == some (.type "type")) = true then PySem.W.subIn K (.ref C) (.ref D) else none) = some b
  by_cases e : C = D
  · subst e
    rw [if_pos (by simp)]
    exact sD.symm.trans s
  · rw [if_neg (by simpa using e), if_pos (by rw [q, tD]; rfl), s]
theorem taker_none (h : PySem.W.findIn K (.ref C) f = some none) : PySem.W.takerIn K C f = some none := by
  unfold PySem.W.takerIn
  rw [h]
  rfl
end
/-- what such a class's heap is behind its __init__, once the exception is let go -/
theorem fresh_xd {H : Hp} {a d : Addr} {C : Addr} {fs gs : List (Str × V)} (ha : H a = none) (n : d ≠ a) :
    upd (del (upd (upd (upd (upd H a (exo a C none)) d (exd d gs)) a (exo a C (some d))) d (exd d fs)) a) d (.xd fs) = upd H d (.xd fs) := funext fun b => by
  by_cases h : b = d
  · subst h; rw [upd_same, upd_same]
  · rw [upd_ne h, upd_ne h]
    by_cases h2 : b = a
    · subst h2; rw [del_same, ha]
    · rw [del_ne h2, upd_ne h, upd_ne h2, upd_ne h, upd_ne h2]
end L2

namespace L2
open PySem PySem.Spec PyProof.Rows
/-! ### several except clauses, each with a name or none -/
abbrev Hd := Value × Option Nat × (Addr → Value → Option Addr → TS)
/-- the ends of a suite whose name, slot i, is taken away behind it -/
def outOf (i : Nat) (D : Ends) : Ends := { nx := fun τ G => D.nx (τ.set i none) G, rt := D.rt, bk := fun τ G => D.bk (τ.set i none) G, ct := fun τ G => D.ct (τ.set i none) G }
/-- what the clauses wish of an exception of the body -/
def wLs (K : PySem.W.Frag) (Wout : WX) (D : Ends) : List Hd → WX
  | [] => Wout
  | (c, none, ts) :: r => fun cls d σ H => ∃ b, PySem.W.exmOne K cls c = some b ∧ (b = true → ∀ e, H e = none → ts e cls d D σ H) ∧ (b = false → wLs K Wout D r cls d σ H)
  | (c, some i, ts) :: r => fun cls d σ H => ∃ b, PySem.W.exmOne K cls c = some b ∧ (b = true → ∀ e, H e = none → ts e cls d (outOf i D) (σ.set i (some (.ref e))) H) ∧ (b = false → wLs K Wout D r cls d σ H)
/-- the readings of the clauses -/
inductive HdLs (X : Cx) : List ExceptHandler → List Hd → Prop
  | nil : HdLs X [] []
  | bare {x : Str} {c : Value} {ts : Addr → Value → Option Addr → TS} {st : Stmt} {suite : List Stmt} {np q : Pos} {hds : List ExceptHandler} {l : List Hd} (hc : Names X x c)
      (hs : ∀ (e : Addr) (oe : Obj) (cls : Value) (d : Option Addr) (pn : List (Addr × Obj)), Zc cls d oe → (∃ vs, oe.data = .fields vs) → PSs (X.suite e ((e, oe) :: pn)) (st :: suite) (ts e cls d)) (r : HdLs X hds l) :
      HdLs X (.ExceptHandler (some (.Name x np)) none (st :: suite) q :: hds) ((c, none, ts) :: l)
  | named {x n : Str} {i : Nat} {c : Value} {ts : Addr → Value → Option Addr → TS} {st : Stmt} {suite : List Stmt} {np q : Pos} {hds : List ExceptHandler} {l : List Hd} (hi : X.N[i]? = some n) (hn : X.env.kindOf n = some .local) (hc : Names X x c)
      (hs : ∀ (e : Addr) (oe : Obj) (cls : Value) (d : Option Addr) (pn : List (Addr × Obj)), Zc cls d oe → (∃ vs, oe.data = .fields vs) → PSs (X.suite e ((e, oe) :: pn)) (st :: suite) (ts e cls d)) (r : HdLs X hds l) :
      HdLs X (.ExceptHandler (some (.Name x np)) (some n) (st :: suite) q :: hds) ((c, some i, ts) :: l)
section
variable {X : Cx} {body : List Stmt} {h1 : ExceptHandler} {hds : List ExceptHandler} {l : List Hd} {pos : Pos} {tb : WX → TS} {Wout : WX}
theorem ps_try_ls (nd : X.N.Nodup) (hst : X.stack = X.env :: X.outer) (hfr : X.env.frame = some X.env.locals) (tk : Takes X Wout)
    (hb : ∀ (W : WX) (pn : List (Addr × Obj)) (xe : Value → Shared → Prop), Takes (X.tr pn xe) W → PassesOwn (model X.prog X.w) X.A X.env xe → PSs (X.tr pn xe) body (tb W))
    (hh : HdLs X (h1 :: hds) l) : PS X (.Try body (h1 :: hds) [] [] pos) (fun D σ H => tb (wLs X.K Wout D l) D σ H) := by
  refine ⟨fun pins s σ H D I h => wpAny_Try_except ?_⟩
  have ok := I.ok
  have fA : X.A.frames = some (X.env :: X.outer) := ok.frames.trans (congrArg some hst)
  refine wpAny_mono ((hb (wLs X.K Wout D l) (X.pn ++ pins) (fun e s₁ => wpAny (model X.prog X.w) X.A (noteFrame e X.env) (fun _ s₂ => wpAny (model X.prog X.w) X.A (setFlight e none) (fun _ s₃ =>
    wpAny (model X.prog X.w) X.A (handleBy e X.env (h1 :: hds)) (SP X pins D) X.xe s₃) X.xe s₂) X.xe s₁) (fun u s' z => ?_) PassesOwn.looking).run [] s σ H D (I.toTry _) h) (fun fl s1 z => ?_) (fun _ _ z => z)
  · obtain ⟨x, M, s0, p0, τ, G, cls, d, rfl, J0, nb, up, sky0, nx, os, ag, w⟩ := z
    have J : Inv X pins τ G s0 := J0.ofTry ok
    have sky : Sky M (X.env :: X.outer) x (Zc cls d) X.env.locals s'.heap := hst ▸ sky0
    show wpAny (model X.prog X.w) X.A (noteFrame (.ref x) X.env) _ _ _
    refine Sky.land Zc.steady fA hfr sky fun h3 fl3 up3 => ?_
    have J3 : Inv X pins τ G { s' with heap := h3 } := J.landed nb fl3.1 (up.trans up3) os ag
    obtain ⟨oe3, vs3, ge3, hz3, dd3⟩ := fl3.there
    have nfr : x ∉ frs (X.env :: X.outer) := fun hm => by
      obtain ⟨_, o', e', ne⟩ := fl3.2.2.1.mem hm
      rw [ge3] at e'; cases e'
      exact ne _ dd3
    have nL : x ≠ X.env.locals := fun z => nfr (List.mem_filterMap.mpr ⟨X.env, .head _, by rw [hfr, z]⟩)
    have nF : x ∉ X.fs := fun hm => by
      obtain ⟨v, hv, q⟩ := List.mem_filterMap.mp hm
      exact nfr (List.mem_filterMap.mpr ⟨v, .tail _ hv, q⟩)
    have S3 := J3.suite ge3 dd3 nx nL nF
    have LT : PySem.W.Looks (model X.prog X.w) h3 (typeOf (.ref x)) cls := fun A Q E s k q => wpAny_typeOf_ref (k _ _ ge3) (by rw [hz3.1]; exact q)
    have go : ∀ {us : List ExceptHandler} {m : List Hd}, HdLs X us m → wLs X.K Wout D m cls d τ G → wpAny (model X.prog X.w) X.A (handleBy (.ref x) X.env us) (SP X pins D) X.xe { s' with heap := h3 } := by
      intro us m hk
      have look : ∀ {y : Str} {c : Value} {np : Pos} {Q : Value → Shared → Prop} {E : Value → Shared → Prop}, Names X y c → Q c { s' with heap := h3 } → wpAny (model X.prog X.w) (X.A.mark (some (.ref x))) (eval (.Name y np) X.env) Q E { s' with heap := h3 } := fun {y c np Q E} hc q => by
        obtain ⟨g1, g2, g3 | ⟨g3, g4, g5⟩⟩ := hc
        · exact ld_glob (X := X.suite x ((x, oe3) :: (X.pn ++ pins))) S3 g1 g3 q g2
        · exact ld_blt (X := X.suite x ((x, oe3) :: (X.pn ++ pins))) S3 g1 g3 g4 q g5 g2
      induction hk with
      | nil =>
        intro w
        refine wpAny_handleBy_nil ?_
        obtain ⟨k1, k2, k3, oe, vs, T, oT, ts', he, hz, hd, h1, hr⟩ := id fl3
        unfold PySem.passOn
        refine wpAny_bind (wpAny_field he hd h1 ?_)
        rw [if_neg (show ¬ ((Value.ref T == Value.none) = true) from by simp)]
        have off : wpAny (model X.prog X.w) X.A (setFlight (.ref x) X.env.frame) (fun _ s4 => wpAny (model X.prog X.w) X.A (throw (.ref x) : Sem Flow) (SP X pins D) X.xe s4) X.xe { s' with heap := h3 } := by
          rw [hfr]
          exact HandSPX.setFlight_upZ fl3 fun h4 hh4 up4 => wpAny_throw (tk _ _ ⟨x, M, s0, pins, τ, G, cls, d, rfl, J, nb, (up.trans up3).trans up4, .inr (.inr (by rw [hst]; exact hh4)), nx, os, ag, w⟩)
        first | exact wpAny_bind (wpAny_pure (wpAny_bind off)) | exact wpAny_bind off
      | @bare y c ts st suite np q us2 m2 hc hs r ih =>
        intro w
        obtain ⟨b, hm, hyes, hno⟩ := w
        refine wpAny_handleBy_cons (codeAny_handlers_test (look hc ((PySem.W.exm_one (M := model X.prog X.w) J3.kIn LT hm).here ?_))) (fun z => nomatch z)
        cases b with
        | false => exact ih (hno rfl)
        | true =>
          refine codeAny_handlers_suite (HandSPX.lands_againZ fl3 fun h4 fl4 up4 => ?_)
          obtain ⟨oe4, vs4, ge4, hz4, dd4⟩ := fl4.there
          have S4 := (J.landed nb fl4.1 ((up.trans up3).trans up4) os ag : Inv X pins τ G { s' with heap := h4 }).suite ge4 dd4 nx nL nF
          refine wpAny_mono ((hs x oe4 cls d (X.pn ++ pins) hz4 ⟨_, dd4⟩).run [] _ _ G _ S4 (hyes rfl x nx)) (fun f s6 z => ?_) (fun _ _ z => z.elim)
          cases f with
          | ret u => exact let ⟨v6, τ6, G6, S6, r6, q6⟩ := z; ⟨v6, τ6, G6, S6.unsuite ok, r6, q6⟩
          | _ => exact let ⟨τ6, G6, S6, q6⟩ := z; ⟨τ6, G6, S6.unsuite ok, q6⟩
      | @named y n i c ts st suite np q us2 m2 hi hn hc hs r ih =>
        intro w
        obtain ⟨b, hm, hyes, hno⟩ := w
        refine wpAny_handleBy_cons (codeAny_handlers_test (look hc ((PySem.W.exm_one (M := model X.prog X.w) J3.kIn LT hm).here ?_))) (fun z => nomatch z)
        cases b with
        | false => exact ih (hno rfl)
        | true =>
          refine codeAny_handlers_suite_as (HandSPX.lands_againZ fl3 fun h4 fl4 up4 => ?_)
          obtain ⟨oe4, vs4, ge4, hz4, dd4⟩ := fl4.there
          have S4 := (J.landed nb fl4.1 ((up.trans up3).trans up4) os ag : Inv X pins τ G { s' with heap := h4 }).suite ge4 dd4 nx nL nF
          refine store_ok (X := X.suite x ((x, oe4) :: (X.pn ++ pins))) (v := .ref x) S4 nd hi (.inl hn) rfl (fun s5 S5 => ?_) (.inr hn)
          refine wpAny_mono ((hs x oe4 cls d (X.pn ++ pins) hz4 ⟨_, dd4⟩).run [] s5 _ G _ S5 (hyes rfl x nx)) (fun f s6 z => ?_) (fun _ _ z => z.elim)
          have away : ∀ {τ6 : St} {G6 : Hp} {Q : Shared → Prop}, Inv (X.suite x ((x, oe4) :: (X.pn ++ pins))) [] τ6 G6 s6 → (∀ s7, Inv X pins (τ6.set i none) G6 s7 → Q s7) →
              wpAny (model X.prog X.w) X.A (do bindName X.env n .none; unbindBehindTheSuite X.env n q) (fun _ s7 => Q s7) X.xe s6 := fun {τ6 G6 Q} S6 hq => gone_ok (S6.unsuite ok) nd hi hn hq
          cases f with
          | ret u => exact let ⟨v6, τ6, G6, S6, r6, q6⟩ := z; away S6 fun s7 J7 => ⟨v6, _, _, J7, r6, q6⟩
          | _ => exact let ⟨τ6, G6, S6, q6⟩ := z; away S6 fun s7 J7 => ⟨_, _, J7, q6⟩
    exact go hh w
  · cases fl with
    | next => exact let ⟨τ, G, J, q⟩ := z; wpAny_execs_nil ⟨τ, G, J.ofTry ok, q⟩
    | ret u => exact let ⟨v, τ, G, J, r, q⟩ := z; ⟨v, τ, G, J.ofTry ok, r, q⟩
    | _ => exact let ⟨τ, G, J, q⟩ := z; ⟨τ, G, J.ofTry ok, q⟩
end
end L2

namespace L2
open PySem PySem.Spec PyProof.Rows
/-- a def with defaults that lets nothing out -/
theorem FunD.ok0 {P : Program} {w : World} {K : PySem.W.Frag} {mg : Str → Option Value} {base : Heap} {x qual : Str} {st : Stmt} {dvs : List V} {f : Addr} {fd : FuncData} {N ps : List Str} {k : Nat} {sp : Sp}
    (F : FunD K x qual (defArgs st) (defBody st) (defScope st) dvs [] f fd) (S : FnScope N ps (defScope st)) (len : ∀ vs H Q E, sp vs H Q E → vs.length = ps.length)
    (hbody : ∀ (cdv : Value) (A : Around) (outer : List Env) (s : Shared) (H : Hp) (vs : List V) (Q : VK) (E : XK), Room k (A.deeper (envOfC qual (defScope st) s.heap.objs.size f cdv)) → sp vs H Q E →
      ∃ t, PSs (cxOf CX0 P w K mg base N qual (defScope st) f cdv A outer s H E).nox (defBody st) t ∧ t { nx := fun _ H' => Q .non H', rt := Q } (start N vs) H) : FnOk P w K mg base CX0 (k + 1) f fd ps sp :=
  F.ok S len fun cdv A outer s H vs Q E hr hsp => by
    obtain ⟨t, h, q⟩ := hbody cdv A outer s H vs Q E hr hsp
    exact ⟨t, h.nox, q⟩
theorem funD_mk {K : PySem.W.Frag} {x qual : Str} {st : Stmt} {f T : Addr} {oc : Value} {od an : Option Addr} {osl : Array (Option Value)} {kV doc pm cdv ct : Value} {o : Obj} {its : List Value} {n : Nat} {dvs : List V}
    (l : K.lookup f = some ⟨oc, od, .func (PySem.W.fnOf x qual (defArgs st) (defBody st) (defScope st) (.ref T) kV doc pm an cdv ct), osl⟩)
    (c : PySem.W.codeIn K cdv qual = true) (k : PySem.W.keepIn K (.ref f) = true) (lT : K.lookup T = some o) (oT : o.data = .seq its.toArray n) (hv : Vals dvs its) (hd : dvs ≠ []) :
    FunD K x qual (defArgs st) (defBody st) (defScope st) dvs [] f (PySem.W.fnOf x qual (defArgs st) (defBody st) (defScope st) (.ref T) kV doc pm an cdv ct) :=
  ⟨⟨oc, od, .ref T, kV, doc, pm, an, cdv, ct, osl, rfl, l, c, .inr ⟨hd, T, o, its, n, rfl, lT, oT, hv⟩, .inl rfl⟩, k⟩
end L2

namespace L2
open PySem PySem.Spec PyProof.Rows
/-! ### a method called in a try's body; what is asked of an own class -/
section
variable {X : Cx} {CX : CXT} {k : Nat} {f C : Addr} {fd : FuncData} {ps : List Str} {sp : Sp} {dvs : List V} {ds : List Value} {E : St → XK} {o e : Expr} {es : List Expr} {ta : TE} {t : TA} {m : Str} {apos pos : Pos}
/-- o.m(e, ..) in a try's body -/
def tMethSD (C : Addr) (m : Str) (sp : Sp) (dvs : List V) (E : St → XK) (ta : TE) (t : TA) : TE := fun σ H Q => ta σ H fun x H1 => ∃ a dx fs, x = .ref a ∧ H1 a = some (.ins C dx fs) ∧ fs.lookup m = none ∧ t σ H1 fun vs H2 => sp (x :: (vs ++ dvs)) H2 Q (E σ)
theorem pe_methSD {pl : Sem Bool} (he : PE X o ta) (c : Cls X.K C) (hm : Meth X.K C m f) (F : FnOk X.prog X.w X.K X.mg X.base CX k f fd ps sp) (hr : Room k X.A) (hb : Binds X.K fd ps ds) (hd : Vals dvs ds) (hx : ∀ σ, PassesAt CX X σ (E σ)) (ha : PA X (e :: es) t)
    (hst : starEach (e :: es) X.env = (false, eval e X.env) :: starEach es X.env := by rfl) (hpl : (backTo pos (starEach es X.env)).any (·.1) = false := by rfl)
    (ht : eval (.Call (.Attribute o m apos) (e :: es) [] pos) X.env = (do
      let ov ← eval o X.env
      standAt apos.atName
      let (f, first) ← holding [ov] (getMethod ov m pl)
      callWith pos f first (backTo pos (starEach (e :: es) X.env)) (backToKw pos (keywordEach [] X.env))) := by rfl) :
    PE X (.Call (.Attribute o m apos) (e :: es) [] pos) (tMethSD C m sp dvs E ta t) := by
  refine ⟨fun pins s σ H Q I h => PySem.W.methodCall_KW (pl := pl) (thn (he.run pins s σ H _ I h) fun u s1 z => ?_) ht⟩
  obtain ⟨x, H1, J, rx, a, dx, fs, rfl, ea, l, q⟩ := z
  cases (show u = Value.ref a from rx)
  refine getmeth_ok J ea c hm l ?_
  refine PySem.W.callWith_K (first := [.ref a]) (h₀ := X.base) J.ok.mod.kin hm.kp (thn (ha.run pos pins s1 σ H1 _ J q) fun us s2 z => ?_) hst hpl
  obtain ⟨vs, H2, J2, r, q2⟩ := z
  have rr : Vals (V.ref a :: (vs ++ dvs)) (Value.ref a :: (us ++ ds)) := .cons rfl (r.append hd)
  refine ⟨J2.kIn, wpAny_call (codeAny_mono (F.run X.A X.stack s2 H2 ⟨.ref a :: us, []⟩ (.ref a :: (us ++ ds)) (.ref a :: (vs ++ dvs)) Q (E σ) hr J2.env0 (hb s2 (.ref a :: us) J2.kIn (rr.length.symm.trans (F.len _ _ _ _ q2))) rr q2) fun r s' z => ?_)⟩
  cases r with
  | error er => exact hx σ pins H2 s2 er s' J2 z
  | ok fl =>
    cases fl with
    | ret u => exact J2.after z
    | _ => exact False.elim z
end
/-- what the written part says of an own class -/
structure OwnK (K : PySem.W.Frag) (mg : Str → Option Value) (x : Str) (C : Addr) : Prop where
  gC : mg x = some (.ref C)
  cls : Cls K C
  made : PySem.W.makesIn K C = true
  kC : PySem.W.keepIn K (.ref C) = true
end L2

namespace L2
open PySem PySem.Spec PyProof.Rows
/-! ### text * number -/
section
variable {X : Cx}
theorem op_repS : OpR X (binaryOp .Mult) (fun x y H Q => ∃ (z : Str) (n : Int), x = .str z ∧ y = .int n ∧ MulOk z n ∧ Q (.str (Txt.mul z n)) H) := by
  intro pins s σ H x y v u Q I rx ry h
  obtain ⟨z, n, rfl, rfl, ok, q⟩ := h
  obtain ⟨t, rfl⟩ := rx
  obtain ⟨t', rfl⟩ := ry
  exact SB.mul ok fun t' tk => ⟨.str (Txt.mul z n), H, I.tok _, ⟨_, rfl⟩, q⟩
end
theorem rep_one (c : Nat) : ∀ (n : Nat) (a : Array Nat), ((List.replicate n (#[c] : Array Nat)).foldl (· ++ ·) a) = a ++ (List.replicate n c).toArray
  | 0, a => by simp
  | n + 1, a => by
    rw [List.replicate_succ, List.foldl_cons, rep_one c n, List.replicate_succ]
    apply Array.ext'
    simp
theorem mul_one {c n : Nat} (h : 2 ≤ n) : Txt.mul (⟨#[c]⟩ : Str) (n : Int) = ⟨(List.replicate n c).toArray⟩ := by
  unfold Txt.mul
  have e2 : ((n : Int) == 1 || (⟨#[c]⟩ : Str).length == 0) = false := by
    have : ((n : Int) == 1) = false := beq_eq_false_iff_ne.mpr (by omega)
    rw [this]
    rfl
  rw [if_neg (by omega), e2, if_neg (by decide), Int.toNat_natCast, rep_one]
  simp
end L2

namespace Evl
open PySem L2
/-! ### what evaluates to what: texts -/
section
variable {K : PySem.W.Frag} {σ : L2.St} {H H' : Hp} {ta tb te tl : TE} {t : TT} {x y z v : V}
theorem ev_m0 {C : Str → Prop} {g : Str → V} {a : Str} (h : Ev te σ H (.str a)) (c : C a) : Ev (tM0 (fun x xs H Q => ∃ a, x = .str a ∧ xs = [] ∧ C a ∧ Q (g a) H) te) σ H (g a) := fun H1 e Q q =>
  h H1 e _ fun H2 e2 => ⟨⟨a, rfl⟩, a, rfl, rfl, c, q H2 e2⟩
theorem ev_m1 {g : Str → Str → V} {a b : Str} (h : Ev te σ H (.str a)) (h2 : Ev ta σ H (.str b)) : Ev (tM1 (fun x xs H Q => ∃ a b, x = .str a ∧ xs = [.str b] ∧ Q (g a b) H) te ta) σ H (g a b) := fun H1 e Q q =>
  h H1 e _ fun H2 e2 => ⟨⟨a, rfl⟩, h2 H2 (e.trans e2) _ fun H3 e3 => ⟨a, b, rfl, rfl, q H3 (e2.trans e3)⟩⟩
theorem ev_join {a : Str} {ys : List Str} (h : Ev te σ H (.str a)) (h2 : EvL tl σ H (ys.map V.str)) (hz : (ys.map (·.length)).sum + ys.length * a.length ≤ 16777216) :
    Ev (tM1 (rJoinK K) te tl) σ H (.str (Txt.join a ys)) := fun H1 e Q q =>
  h H1 e _ fun H2 e2 => ⟨⟨a, rfl⟩, h2 H2 (e.trans e2) _ fun p H3 _ e3 h3 => ⟨a, p, ys, rfl, rfl, .inl (sq_of h3), hz, q H3 (e2.trans e3)⟩⟩
theorem rv_addS {a b : Str} (h : a.length + b.length ≤ 100000) : RV (fun x y H Q => ∃ i j, x = .str i ∧ y = .str j ∧ i.length + j.length ≤ sizeLine ∧ Q (.str (i ++ j)) H) (.str a) (.str b) H (.str (a ++ b)) := fun H1 _ _ q => ⟨a, b, rfl, rfl, sz_of h, q H1 (Ex.refl H1)⟩
theorem rv_inS {c : Nat} {z : Str} : RV (fun x y H Q => ∃ (c : Nat) (z : Str), x = .str ⟨#[c]⟩ ∧ y = .str z ∧ Q (.bl (decide (c ∈ z.cps.toList))) H) (.str ⟨#[c]⟩) (.str z) H (.bl (decide (c ∈ z.cps.toList))) := fun H1 _ _ q => ⟨c, z, rfl, rfl, q H1 (Ex.refl H1)⟩
theorem rv_niS {c : Nat} {z : Str} : RV (fun x y H Q => ∃ (c : Nat) (z : Str), x = .str ⟨#[c]⟩ ∧ y = .str z ∧ Q (.bl (!decide (c ∈ z.cps.toList))) H) (.str ⟨#[c]⟩) (.str z) H (.bl (!decide (c ∈ z.cps.toList))) := fun H1 _ _ q => ⟨c, z, rfl, rfl, q H1 (Ex.refl H1)⟩
theorem rv_ltS {a b : Str} : RV (fun x y H Q => ∃ i j, x = .str i ∧ y = .str j ∧ Q (.bl (decide (i.cps.toList < j.cps.toList))) H) (.str a) (.str b) H (.bl (decide (a.cps.toList < b.cps.toList))) := fun H1 _ _ q => ⟨a, b, rfl, rfl, q H1 (Ex.refl H1)⟩
theorem ev_revS {a : Str} (h : Ev te σ H (.str a)) (hz : a.length ≤ 100000) : Ev (tRevS te) σ H (.str ⟨a.cps.toList.reverse.toArray⟩) := fun H1 e Q q => h H1 e _ fun H2 e2 => ⟨a, rfl, sz_of hz, q H2 e2⟩
theorem ev_slS {a : Str} {t1 t2 : TO} {lo hi : Option Int} (h : Ev te σ H (.str a)) (h1 : EvO t1 σ H lo) (h2 : EvO t2 σ H hi) (hz : a.length ≤ 100000) : Ev (tSl rSlS te t1 t2) σ H (.str (cutS a lo hi)) := fun H1 e Q q =>
  h H1 e _ fun H2 e2 => h1 H2 (e.trans e2) _ fun H3 e3 => h2 H3 ((e.trans e2).trans e3) _ fun H4 e4 => ⟨a, rfl, sz_of hz, q H4 ((e2.trans e3).trans e4)⟩
theorem ev_lenS {a : Str} (h : Ev te σ H (.str a)) (hz : a.length ≤ 100000) : Ev (tCB (fun xs H Q => ∃ z, xs = [.str z] ∧ z.length ≤ sizeLine ∧ Q (.int z.length) H) (tCons te tNil)) σ H (.int a.length) := fun H1 e Q q =>
  h H1 e _ fun H2 e2 => ⟨a, rfl, sz_of hz, q H2 e2⟩
theorem ev_intB {b : Bool} (h : Ev te σ H (.bl b)) : Ev (tCB (fun xs H Q => (∃ i, xs = [.int i] ∧ Q (.int i) H) ∨ ∃ k, xs = [.bl k] ∧ Q (.int (if k then 1 else 0)) H) (tCons te tNil)) σ H (.int (if b then 1 else 0)) := fun H1 e Q q =>
  h H1 e _ fun H2 e2 => .inr ⟨b, rfl, q H2 e2⟩
theorem ev_ixNew {xs : List V} {i : Int} (ha : EvL ta σ H xs) (hb : ∀ H1, Ex H H1 → Ev tb σ H1 (.int i)) (hi : atI xs i = some v) : Ev (tOp (rIxL K) ta tb) σ H v := ev_opL1 ha hb fun p H1 hp e => rv_ixL (sq_of hp) hi
theorem ev_isi {tc : TE} {c : V} {ty u : Value} {b : Bool} (h : Ev te σ H x) (h2 : Ev tc σ H c) (hc : ClsV c u) (hx : ∀ H1, Ex H H1 → TyX K H1 x ty) (hb : PySem.W.kitOne K ty u = some b) : Ev (tCB (rIsi K) (tCons te (tCons tc tNil))) σ H (.bl b) := fun H1 e Q q =>
  h H1 e _ fun H2 e2 => h2 H2 (e.trans e2) _ fun H3 e3 => ⟨x, c, ty, u, b, rfl, hc, hx H3 ((e.trans e2).trans e3), hb, q H3 (e2.trans e3)⟩
theorem ev_isiN {tc : TE} {c : V} {xs : List V} {ty u : Value} {b : Bool} (h : EvL te σ H xs) (h2 : ∀ H1, Ex H H1 → Ev tc σ H1 c) (hc : ClsV c u) (hx : ∀ p H1, H1 p = some (.lst xs) → TyX K H1 (.ref p) ty) (hb : PySem.W.kitOne K ty u = some b) : Ev (tCB (rIsi K) (tCons te (tCons tc tNil))) σ H (.bl b) := fun H1 e Q q =>
  h H1 e _ fun p H2 _ e2 hp => h2 H2 (e.trans e2) H2 (Ex.refl H2) _ fun H3 e3 => ⟨.ref p, c, ty, u, b, rfl, hc, hx p H3 (e3 _ _ hp), hb, q H3 (e2.trans e3)⟩
theorem ev_allN {bs : List Bool} (h : EvL te σ H (bs.map V.bl)) : Ev (tCB (rAll K) (tCons te tNil)) σ H (.bl (bs.all id)) := fun H1 e Q q =>
  h H1 e _ fun p H2 _ e2 hp => ⟨p, bs, rfl, sq_of hp, q H2 e2⟩
theorem ev_ifv {b : Bool} {v w : V} (h : EvT t σ H b) (h1 : b = true → Ev ta σ H v) (h2 : b = false → Ev tb σ H w) : Ev (tIf t ta tb) σ H (if b = true then v else w) := by
  refine ev_if h (fun e => ?_) (fun e => ?_)
  · rw [if_pos e]; exact h1 e
  · rw [if_neg (by rw [e]; decide)]; exact h2 e
theorem et_yes : EvT tYes σ H true := fun H1 _ _ q => q H1 (Ex.refl H1)
theorem given_all (n : Nat) (v : Nat → V) : given n (fun _ => true) v = (List.range n).map v := by
  unfold given
  congr 1
  exact List.filter_eq_self.mpr fun _ _ => rfl
theorem range_map {α : Type} (l : List α) (g : α → V) (d : α) : (List.range l.length).map (fun i => g (l.getD i d)) = l.map g := by
  apply List.ext_getElem
  · simp
  · intro i h1 h2
    simp at h1
    simp [List.getD, h1]
/-- [e for sign in text] -/
theorem el_lcS {s : Str} {j : Nat} {vs : List Nat} (f : Nat → Bool) (v : Nat → V) (h : Ev tl σ H (.str s)) (hz : s.length ≤ 40000) (hw : ∀ x, wipe ((wipe σ vs).set j (some x)) vs = wipe σ vs)
    (ht : ∀ (i c : Nat) H1, Ex H H1 → s.cps.toList[i]? = some c → EvT t ((wipe σ vs).set j (some (.str ⟨#[c]⟩))) H1 (f i))
    (he : ∀ (i c : Nat) H1, Ex H H1 → s.cps.toList[i]? = some c → f i = true → Ev te ((wipe σ vs).set j (some (.str ⟨#[c]⟩))) H1 (v i)) :
    EvL (tLc (iStr tl) (gName j) t te vs) σ H (given s.length f v) := fun H0 e Q q => h H0 e _ fun H1 e1 => ⟨s, rfl, fun Dl hD =>
  lc_it walk_str (Cw H1 f v Dl) ⟨hD, Ex.new hD, upd_same⟩ (fun _ _ _ _ => trivial) (fun i x H2 H' hi p hy => by
    obtain ⟨rfl, c, hc, rfl⟩ := hy
    have hc' : s.cps.toList[i]? = some c := by rw [Array.getElem?_toList]; exact hc
    exact ⟨hw _, cw_turn p (by have : s.length = s.cps.size := rfl; omega) (ht i c H1 (e.trans e1) hc') (fun hf => he i c H1 (e.trans e1) hc' hf)⟩)
    (fun H' p => q Dl H' (fresh_back e1 p.1) (e1.trans p.2.1) p.2.2)⟩
theorem el_mapS {s : Str} {j : Nat} {vs : List Nat} (g : Nat → V) (h : Ev tl σ H (.str s)) (hz : s.length ≤ 40000) (hw : ∀ x, wipe ((wipe σ vs).set j (some x)) vs = wipe σ vs)
    (he : ∀ (c : Nat) H1, Ex H H1 → c ∈ s.cps.toList → Ev te ((wipe σ vs).set j (some (.str ⟨#[c]⟩))) H1 (g c)) :
    EvL (tLc (iStr tl) (gName j) tYes te vs) σ H (s.cps.toList.map g) := by
  have := el_lcS (te := te) (t := tYes) (fun _ => true) (fun i => g (s.cps.toList.getD i 0)) h hz hw (fun _ _ _ _ _ => et_yes) (fun i c H1 e hc _ => by
    have : s.cps.toList.getD i 0 = c := by rw [List.getD_eq_getElem?_getD, hc]; rfl
    rw [this]
    exact he c H1 e (List.mem_of_getElem? hc))
  rw [given_all] at this
  have e2 : s.length = s.cps.toList.length := rfl
  rw [e2, range_map] at this
  exact this
end
end Evl

namespace L2
open PySem PySem.Spec PyProof.Rows
/-! ### sorted(list) of data that can be ordered -/
section
variable {X : Cx}
def rSortD (K : PySem.W.Frag) : List V → Hp → VK → Prop := fun vs H Q => ∃ (p : Addr) (bs : List (V × PyData)), vs = [.ref p] ∧ SqL K H p (bs.map (·.1)) ∧ (∀ b ∈ bs, Dp K H b.1 b.2) ∧ PySem.W.AllAlike (bs.map (·.2)) ∧ PySem.W.Sortable (bs.map (·.2)) ∧ bs.length ≤ sizeLine ∧ (∀ b ∈ bs, b.2.depth ≤ 50) ∧
  ∀ q, H q = none → Q (.ref q) (upd H q (.lst ((bs.mergeSort (PySem.W.dataLe false (·.2))).map (·.1))))
theorem each_of {R : Value → V × PyData → Prop} : ∀ {bs : List (V × PyData)} {us : List Value}, Vals (bs.map (·.1)) us → (∀ b ∈ bs, ∀ u, RelV b.1 u → R u b) → PySem.W.EachIs R us bs
  | [], _, r, _ => by cases r; exact .nil
  | b :: bs, _, r, h => by
    cases r with
    | cons a t => exact .cons (h b List.mem_cons_self _ a) (each_of t fun c hc => h c (List.mem_cons_of_mem _ hc))
theorem vals_each : ∀ {bs : List (V × PyData)} {us : List Value}, PySem.W.EachIs (fun u (b : V × PyData) => RelV b.1 u) us bs → Vals (bs.map (·.1)) us
  | _, _, .nil => .nil
  | _, _, .cons a t => .cons a (vals_each t)
theorem call_sortD {K : PySem.W.Frag} (hu : X.A.units + 64 < cLine) (hK : X.K = K := by rfl) : CallR X (.builtin "sorted") (rSortD K) := by
  subst hK
  intro pins s σ H xs us Q I r h
  obtain ⟨p, bs, rfl, hS, hD, al, so, hz, dp, q⟩ := h
  obtain ⟨u, rfl, ru⟩ := vals1 r
  cases (show u = Value.ref p from ru)
  obtain ⟨its, rv, hl, _⟩ := I.list hS
  refine PySem.W.sorted_data (R := fun u (b : V × PyData) => RelV b.1 u) (enc := fun b : V × PyData => b.2) (bs := bs) hl.isList (each_of rv fun b _ u ru => ru) (each_of rv fun b hb u ru => Dp.reads I b.2 b.1 u (hD b hb) ru) al so hz (fun b hb => by have := dp b hb; omega) fun out hlen ho => ?_
  obtain ⟨ep, he⟩ := PyProof.Rows.sortedAll_at s.heap its out.toArray
  have rv2 := vals_each ho
  exact ⟨.ref _, upd H (s.heap.objs.size + 1) (.lst ((bs.mergeSort (PySem.W.dataLe false (·.2))).map (·.1))), I.laid (t' := s.toks) (fun _ _ => PyProof.Rows.sortedAll_old) (Nat.le_succ _) ⟨by rw [List.length_map, List.length_mergeSort]; exact hz, out, ep, rv2, by simpa using he⟩, rfl, q _ (I.hok.fresh (Nat.le_succ _))⟩
end
end L2

namespace L2
open PySem PySem.Spec PyProof.Rows
/-! ### e.f, over a fixed written part; != of lists whose items are the same; repr of any data -/
section
variable {X : Cx} {K : PySem.W.Frag}
theorem pe_fldK {e : Expr} {f : Str} {pos : Pos} {ta : TE} (he : PE X e ta) (hb : attributeBase e f X.env (eval e X.env) = eval e X.env) (hK : X.K = K := by rfl) : PE X (.Attribute e f pos) (tFld K ta f) := hK ▸ pe_fld he hb
/-- xs != ys, item by item the same -/
def SelfV : V → Bool
  | .ref _ => true
  | v => flatB v
def rNeS (K : PySem.W.Frag) : R2 := fun x y H Q => ∃ a b xs, x = .ref a ∧ y = .ref b ∧ SqL K H a xs ∧ SqL K H b xs ∧ xs.all SelfV = true ∧ Q (.bl false) H
theorem self_eq {A : Around} {s : Shared} {x : V} {v u : Value} (h : SelfV x = true) (rx : RelV x v) (ry : RelV x u) : SeqAt.EqAt A s v u true := by
  cases x with
  | ref a =>
    cases (show v = Value.ref a from rx)
    cases (show u = Value.ref a from ry)
    exact SeqAt.EqAt.same _
  | _ => exact eqAt_same rx ry h
theorem op_neS (hu64 : X.A.units + 64 < cLine) (hK : X.K = K := by rfl) : OpR X (compareOp .NotEq) (rNeS K) := by
  have hu : X.A.units < cLine := by omega
  subst hK
  intro pins s σ H x y v u Q I rx ry h
  obtain ⟨a, b, xs, rfl, rfl, ha, hb, hs, q⟩ := h
  cases (show v = Value.ref a from rx)
  cases (show u = Value.ref b from ry)
  obtain ⟨us, r1, p1, _⟩ := I.list ha
  obtain ⟨ws, r2, p2, _⟩ := I.list hb
  have hsz : us.toArray.size = ws.toArray.size := by rw [List.size_toArray, List.size_toArray, ← r1.length, ← r2.length]
  have key := SeqAt.RcNeAt.lists (A := X.A) (e := fun _ => true) p1.isList p2.isList hsz hu fun j h1 h2 => ?_
  · refine key _ _ _ _ ?_
    rw [show ((List.range us.toArray.size).all fun _ => true) = true from List.all_eq_true.mpr fun _ _ => rfl]
    exact ⟨.bl false, H, I, rfl, q⟩
  · have hj : j < xs.length := by
      have := r1.length
      simp only [List.size_toArray] at h1
      omega
    obtain ⟨u1, e1, x1⟩ := r1.get (i := j) (x := xs[j]) (List.getElem?_eq_getElem hj)
    obtain ⟨u2, e2, x2⟩ := r2.get (i := j) (x := xs[j]) (List.getElem?_eq_getElem hj)
    have f1 : us.toArray[j] = u1 := by
      have := (List.getElem?_eq_some_iff.mp e1).2
      simpa using this
    have f2 : ws.toArray[j] = u2 := by
      have := (List.getElem?_eq_some_iff.mp e2).2
      simpa using this
    rw [f1, f2]
    exact self_eq (List.all_eq_true.mp hs _ (List.getElem_mem hj)) x1 x2
end
end L2

namespace L2
open PySem PySem.Spec PyProof.Rows
/-! ### defs that ask what is being shown: called where no repr is under way -/
/-- no repr is under way -/
def NoRp (A : Around) : Prop := A.guards = some []
/-- a def's promise where no repr is under way -/
structure FnG (P : Program) (w : World) (K : PySem.W.Frag) (mg : Str → Option Value) (base : Heap) (CX : CXT) (k : Nat) (f : Addr) (fd : FuncData) (ps : List Str) (sp : Sp) : Prop where
  len : ∀ vs H Q E, sp vs H Q E → vs.length = ps.length
  run : ∀ (A : Around) (outer : List Env) (s : Shared) (H : Hp) (as : Args) (us : List Value) (vs : List V) (Q : VK) (E : XK), NoRp A → Room k A → Env0 P w K mg base A outer s H → BindsTo s fd as (ps.zip us) → Vals vs us → sp vs H Q E →
    codeAny (model P w) A (.call (.ref f) as) (CR CX outer P w H s Q E) s
theorem fn_ofG {CX : CXT} {P : Program} {w : World} {K : PySem.W.Frag} {mg : Str → Option Value} {base : Heap} {k : Nat} {f : Addr} {nm ql : Str} {params : Arguments} {body : List Stmt} {scope : Scope} {dV kV doc pm cdv ct oc : Value} {an od : Option Addr}
    {osl : Array (Option Value)} {N ps : List Str} {sp : Sp} (lk : K.lookup f = some ⟨oc, od, .func (PySem.W.fnOf nm ql params body scope dV kV doc pm an cdv ct), osl⟩) (hcd : PySem.W.codeIn K cdv ql = true) (S : FnScope N ps scope)
    (len : ∀ vs H Q E, sp vs H Q E → vs.length = ps.length)
    (go : ∀ (A : Around) (outer : List Env) (s : Shared) (H : Hp) (vs : List V) (Q : VK) (E : XK), NoRp A → Room k (A.deeper (envOfC ql scope s.heap.objs.size f cdv)) → sp vs H Q E →
      ∃ t, PSs (cxOf CX P w K mg base N ql scope f cdv A outer s H E) body t ∧ t { nx := fun _ H' => Q .non H', rt := Q } (start N vs) H) :
    FnG P w K mg base CX (k + 1) f (PySem.W.fnOf nm ql params body scope dV kV doc pm an cdv ct) ps sp := by
  refine ⟨len, fun A outer s H as us vs Q E g room e0 hb r z => ?_⟩
  have inK : K.In s.heap := e0.mod.kin.keeps fun b o e => (e0.bs b o e).1
  have noLim : s.heap.NoLimit := e0.mod.nolimit.keeps fun b o e => (e0.bs b o e).1
  have kinds : ∀ y ∈ ps.zip us, scope.names.lookup y.1 = some .local ∨ (scope.names.lookup y.1 = some .cell ∧ ((cellsFrom (s.heap.objs.size + 1) scope.names []).lookup y.1).isSome = true) := fun y hy => by
    obtain ⟨n, v⟩ := y
    exact (S.par n (List.of_mem_zip hy).1).imp id fun q => ⟨q, PySem.W.cellsFrom_some _ _ _ (.inl q)⟩
  refine codeAny_call_function room.depth (inK _ _ lk) rfl S.co S.gen rfl (PySem.W.codeRec_of inK hcd) (hb _ _ _ _ ?_)
  refine wpAny_newFunctionEnv_cells S.kind kinds fun env he s1 x => ?_
  subst he
  refine ⟨noLim.keeps x.toInCall.keep, codeAny_func ?_⟩
  obtain ⟨t, ht, q⟩ := go A outer s H vs Q E g (room.deeper _) z
  have I := inv_start (CX := CX) (E := E) S room.hd e0 (len _ _ _ _ z) r x
  refine wpAny_mono (ht.run [] s1 (start N vs) H _ I q) (fun fl s' hs => ?_) fun _ _ hs => hs
  cases fl with
  | ret u => exact let ⟨v, σ', H', J, rv, q⟩ := hs; ⟨v, H', J.os, J.bare, J.base, J.hok, rv, q⟩
  | next => exact let ⟨σ', H', J, q⟩ := hs; ⟨V.non, H', J.os, J.bare, J.base, J.hok, rfl, q⟩
  | brk => exact let ⟨_, _, _, q⟩ := hs; False.elim q
  | cont => exact let ⟨_, _, _, q⟩ := hs; False.elim q
section
variable {P : Program} {w : World} {K : PySem.W.Frag} {mg : Str → Option Value} {base : Heap}
theorem Fun.okG {x ql : Str} {st : Stmt} {f : Addr} {fd : FuncData} {N ps : List Str} {k : Nat} {sp : Sp} (F : Fun K x ql st f fd) (S : FnScope N ps (defScope st)) (len : ∀ vs H Q E, sp vs H Q E → vs.length = ps.length)
    (go : ∀ (cdv : Value) (A : Around) (outer : List Env) (s : Shared) (H : Hp) (vs : List V) (Q : VK) (E : XK), NoRp A → Room k (A.deeper (envOfC ql (defScope st) s.heap.objs.size f cdv)) → sp vs H Q E →
      ∃ t, PSs (cxOf CX0 P w K mg base N ql (defScope st) f cdv A outer s H E).nox (defBody st) t ∧ t { nx := fun _ H' => Q .non H', rt := Q } (start N vs) H) : FnG P w K mg base CX0 (k + 1) f fd ps sp := by
  obtain ⟨oc, od, kV, doc, pm, an, cdv, ct, osl, rfl, lk, hcd⟩ := F.ex
  refine fn_ofG lk hcd S len fun A outer s H vs Q E g room z => ?_
  obtain ⟨t, h, q⟩ := go cdv A outer s H vs Q E g room z
  exact ⟨t, h.nox, q⟩
end
section
variable {X : Cx} {CX : CXT} {x : Str} {k : Nat} {f : Addr} {fd : FuncData} {ps : List Str} {sp : Sp} {dvs : List V} {ds : List Value} {E : XK} {e : Expr} {es : List Expr} {t : TA} {p pos : Pos}
/-- f(e, ..) where f is such a def -/
theorem pe_callG (F : FnG X.prog X.w X.K X.mg X.base CX k f fd ps sp) (g : NoRp X.A) (hr : Room k X.A) (hg : Gl X x) (hm : X.mg x = some (.ref f)) (hk : PySem.W.keepIn X.K (.ref f) = true) (hb : Binds X.K fd ps ds) (hd : Vals dvs ds) (hx : Passes CX X E)
    (ha : PA X (e :: es) t) (hdb : (x == ("__debug__" : Str)) = false := by decide) (he : starEach (e :: es) X.env = (false, eval e X.env) :: starEach es X.env := by rfl) (hpl : (backTo pos (starEach es X.env)).any (·.1) = false := by rfl) :
    PE X (.Call (.Name x p) (e :: es) [] pos) (tCall sp dvs E t) := by
  refine ⟨fun pins s σ H Q I h => wpAny_Call_Name_kw (ld_glob I hg hm ?_ hdb)⟩
  refine PySem.W.callWith_K (h₀ := X.base) I.ok.mod.kin hk (thn (ha.run pos pins s σ H _ I h) fun us s1 z => ?_) he hpl
  obtain ⟨vs, H1, J, r, q⟩ := z
  have rr : Vals (vs ++ dvs) (us ++ ds) := r.append hd
  refine ⟨J.kIn, wpAny_call (codeAny_mono (F.run X.A X.stack s1 H1 ⟨us, []⟩ (us ++ ds) (vs ++ dvs) Q E g hr J.env0 (hb s1 us J.kIn (rr.length.symm.trans (F.len _ _ _ _ q))) rr q) fun r s' z => ?_)⟩
  cases r with
  | error er => exact hx pins σ H1 s1 er s' J z
  | ok fl =>
    cases fl with
    | ret u => exact J.after z
    | _ => exact False.elim z
/-- repr(e) of data -/
def rRepr (K : PySem.W.Frag) : List V → Hp → VK → Prop := fun vs H Q => ∃ (a : Addr) (d : PyData), vs = [.ref a] ∧ Dp K H (.ref a) d ∧ d.showable = true ∧ d.hasDict = false ∧ d.shown.length ≤ sizeLine ∧ d.depth ≤ 60 ∧ Q (.str d.shown) H
theorem call_reprD {K : PySem.W.Frag} (g : NoRp X.A) (hu : X.A.units + 64 < cLine) (hK : X.K = K := by rfl) : CallR X (.builtin "repr") (rRepr K) := by
  subst hK
  intro pins s σ H xs us Q I r h
  obtain ⟨a, d, rfl, hd, h1, h2, h3, h4, q⟩ := h
  obtain ⟨u, rfl, ru⟩ := vals1 r
  obtain ⟨as, rd⟩ := Dp.reads I d _ u hd ru
  cases (show u = Value.ref a from ru)
  exact repr_of_reads' rd h1 (PyData.noDict_hsm h2) g (by omega) (fun _ _ e => e) (fun h' u tk kp => ⟨.str d.shown, H, I.kept (t' := tk) kp, ⟨_, rfl⟩, q⟩) h3
end
/-! ### the head of a law that is such a def -/
theorem law_callG {P : Program} {w : World} {K : PySem.W.Frag} {mg mb : Str → Option Value} {k : Nat} {fa a : Addr} {fd : FuncData} {x : Str} {sp : Sp} {s : Shared} {vs : List Value} {ns : List Int}
    (inK : K.In s.heap) (hns : s.heap.Ns mainGlobals mg) (hb : s.heap.Ns builtinsNs mb) (hbb : ∀ x : Str, x ≠ "__name__" → mb x = bootBuiltins x) (hlim : s.heap.NoLimit) (hg : s.gens = #[])
    (ha : s.heap.get? a = some { cls := .type "list", data := .seq vs.toArray }) (hi : IntsAre vs ns) (hl : ns.length ≤ sizeLine) (hr : Room k callerA)
    (F : ∀ base : Heap, K.In base → base.Ns mainGlobals mg → FnG P w K mg base CX0 k fa fd [x] sp) (bind : ∀ (s : Shared) (u : Value), BindsTo s fd ⟨[u], []⟩ [(x, u)])
    (hsp : ∀ H : Hp, Only H → SqL K H a (ns.map V.int) → sp [.ref a] H (fun v _ => v = .bl true) fun _ _ _ => False) :
    codeAny (model P w) callerA (.call (.ref fa) ⟨[.ref a], []⟩) (fun r s' => r = .ok (.ret (.bool true)) ∧ OldK s.heap s'.heap ∧ s'.os = s.os ∧ AllBare s'.gens) s := by
  have main : ∀ H : Hp, Only H → SqL K H a (ns.map V.int) → HOk P w H s.heap → (∀ b, H b ≠ none → b = a) → (H a ≠ none → K.lookup a = none) →
      codeAny (model P w) callerA (.call (.ref fa) ⟨[.ref a], []⟩) (fun r s' => r = .ok (.ret (.bool true)) ∧ OldK s.heap s'.heap ∧ s'.os = s.os ∧ AllBare s'.gens) s := by
    intro H only sq ok hA hK
    have free : ∀ {b : Addr} {o : Obj} {es : Array DictEntry} {ep : Nat}, s.heap.get? b = some o → o.data = .dict es ep → H b = none := fun {b o es ep} e d => Classical.byContradiction fun nn => by
      rw [hA b nn, ha] at e
      injection e with e
      rw [← e] at d
      exact nomatch d
    have ns' : ∀ {b : Addr} {m : Str → Option Value}, s.heap.Ns b m → (hidT s.heap H).Ns b m := fun {b m} z => let ⟨o, es, ep, e, d, r⟩ := z; ⟨o, es, ep, hidT_get e (free e d), d, r⟩
    have inB : K.In (hidT s.heap H) := fun b o e => hidT_get (inK b o e) (Classical.byContradiction fun nn => by
      have eb := hA b nn
      subst eb
      rw [hK nn] at e
      cases e)
    have mod : Mod K mg (hidT s.heap H) := ⟨inB, ns' hns, ⟨mb, ns' hb, hbb⟩, let ⟨mc, z1, z2⟩ := hlim; ⟨mc, ns' z1, z2⟩⟩
    have e0 : Env0 P w K mg (hidT s.heap H) callerA [] s H := ⟨rfl, mod, fun b o e => of_hidT e, Nat.le_of_eq (hidT_size _ _), trivial, fun b z => (List.not_mem_nil (show b ∈ ([] : List Addr) from z)).elim, ok, .of_eq hg⟩
    refine codeAny_mono ((F _ inB (ns' hns)).run callerA [] s H ⟨[.ref a], []⟩ [.ref a] [.ref a] _ _ rfl hr e0 (bind s (.ref a)) (.cons rfl .nil) (hsp H only sq)) fun r s' z => ?_
    rcases r with e | (_ | _ | _ | u)
    · exact z.elim
    all_goals first | exact False.elim z | skip
    obtain ⟨v, H', os, bare, un, ok', rv, q⟩ := z
    cases (show v = .bl true from q)
    cases (show u = Value.bool true from rv)
    refine ⟨rfl, OldK.of_keep fun b o e => ?_, os, bare⟩
    rcases only b with n | ⟨ob, xs, y⟩
    · exact un.keep b o e n (fun z => (List.not_mem_nil (show b ∈ ([] : List Addr) from z)).elim) (by simp)
    · obtain ⟨g1, _⟩ := ok b _ y
      obtain ⟨g2, _⟩ := ok' b _ (un.frzs b ob _ y)
      rw [e] at g1
      cases g1
      exact g2
  have rv := vals_ints hi
  by_cases hk : K.lookup a = none
  · let H0 : Hp := fun b => if b = a then some (.frz { cls := .type "list", data := .seq vs.toArray } (.lst (ns.map V.int))) else none
    have at_a : H0 a = some (.frz { cls := .type "list", data := .seq vs.toArray } (.lst (ns.map V.int))) := if_pos rfl
    have off : ∀ {b}, b ≠ a → H0 b = none := fun h => if_neg h
    refine main H0 (fun b => ?_) (.inl (.inr ⟨_, at_a⟩)) (fun b u z => ?_) (fun b z => Classical.byContradiction fun h => z (off h)) fun _ => hk
    · by_cases h : b = a
      · subst h; exact .inr ⟨_, _, at_a⟩
      · exact .inl (off h)
    · by_cases h : b = a
      · subst h
        rw [at_a] at z
        cases z
        exact ⟨ha, by rw [List.length_map]; exact hl, vs, _, rv, ha⟩
      · rw [off h] at z
        cases z
  · obtain ⟨o, ho⟩ := Option.ne_none_iff_exists'.mp hk
    have e := inK a o ho
    rw [ha] at e
    cases e
    exact main (fun _ => none) (fun _ => .inl rfl) (.inr ⟨_, vs.toArray, _, ho, rfl, rfl, rfl, by rw [List.size_toArray, hi.length]; exact hl, by simpa using rv⟩) (fun b u z => nomatch (show (none : Option HO) = some u from z)) (fun b z => absurd rfl z) fun z => absurd rfl z
theorem walk_ofG {l : PySem.W.OpenLaw} {n k : Nat} {q : Program} {loose : List Str} {XP : (Str → Option Value) → Heap → Prop} {YP : World → Heap → Prop} {d : DefRec} {K : Params → PySem.W.Frag} {sp : World → Sp} {x : Str}
    (hn : l.most = some n) (hn2 : n ≤ sizeLine) (hdf : d.params.defaults = []) (hr : Room k callerA) (hY : ∀ (w : World) (h : Heap), YP w h → (K w.params).In h)
    (F : ∀ (w : World) (mg : Str → Option Value) (fa : Addr) (h : Heap), (K w.params).In h → h.Ns mainGlobals mg → mg d.name = some (.ref fa) →
      ∃ fd : FuncData, (∀ (s : Shared) (u : Value), BindsTo s fd ⟨[u], []⟩ [(x, u)]) ∧ ∀ base : Heap, (K w.params).In base → base.Ns mainGlobals mg → FnG l.prog w (K w.params) mg base CX0 k fa fd [x] (sp w))
    (hsp : ∀ (w : World) (H : Hp) (a : Addr) (ns : List Int), ns.length ≤ n → Only H → SqL (K w.params) H a (ns.map V.int) → sp w [.ref a] H (fun v _ => v = .bl true) fun _ _ _ => False) :
    PySem.W.WalkO q loose XP YP l.row.toRowW d [] (fun f vs => PySem.call f vs) := by
  refine Att.attach_call hn hdf fun w s₀ s₁ mg mb fa o pm cd doc a vs ns G Y ho hd hcd hmg hobj hints hlen hg => ?_
  obtain ⟨fd, hb, hF⟩ := F w mg fa _ (hY w _ Y) G.T.g hmg
  exact law_callG (hY w _ Y) G.T.g G.T.b G.T.builtins G.T.nolimit hg hobj hints (Nat.le_trans hlen hn2) hr hF hb fun H hO hS => hsp w H a ns hlen hO hS
end L2

namespace L2
open PySem PySem.Spec PyProof.Rows
/-! ### repr of any data -/
section
variable {X : Cx}
def rReprV (K : PySem.W.Frag) : List V → Hp → VK → Prop := fun vs H Q => ∃ (x : V) (d : PyData), vs = [x] ∧ Dp K H x d ∧ d.showable = true ∧ d.hasDict = false ∧ d.shown.length ≤ sizeLine ∧ d.depth ≤ 60 ∧ Q (.str d.shown) H
theorem call_reprV {K : PySem.W.Frag} (g : NoRp X.A) (hu : X.A.units + 64 < cLine) (hK : X.K = K := by rfl) : CallR X (.builtin "repr") (rReprV K) := by
  subst hK
  intro pins s σ H xs us Q I r h
  obtain ⟨x, d, rfl, hd, h1, h2, h3, h4, q⟩ := h
  obtain ⟨u, rfl, ru⟩ := vals1 r
  have ref : ∀ a, u = .ref a → wpAny (model X.prog X.w) X.A (call (.builtin "repr") [u]) (EP X pins σ Q) X.xe s := fun a e => by
    obtain ⟨as, rd⟩ := Dp.reads I d _ u hd ru
    subst e
    exact repr_of_reads' rd h1 (PyData.noDict_hsm h2) g (by omega) (fun _ _ e => e) (fun h' u tk kp => ⟨.str d.shown, H, I.kept (t' := tk) kp, ⟨_, rfl⟩, q⟩) h3
  cases hd with
  | non => cases (show u = Value.none from ru); exact PySem.P.repr_of_none ⟨.str "None", H, I.tok _, ⟨_, rfl⟩, q⟩
  | bl b => cases (show u = Value.bool b from ru); exact PySem.P.repr_of_bool ⟨.str (if b then "True" else "False"), H, I.tok _, ⟨_, rfl⟩, q⟩
  | int i => obtain ⟨t, rfl⟩ := ru; exact PySem.P.repr_of_int (of_decide_eq_true h1) ⟨.str (toString i), H, I.tok _, ⟨_, rfl⟩, q⟩
  | str z => obtain ⟨t, rfl⟩ := ru; exact PySem.P.repr_of_str ⟨.str (reprText z), H, I.tok _, ⟨_, rfl⟩, q⟩ h3
  | lst _ _ => exact ref _ ru
  | tup _ _ => exact ref _ ru
end
end L2

namespace L2
open PySem PySem.Spec PyProof.Rows
/-! ### d.pop(k), k a tuple that is there -/
section
variable {K : Type} [DecidableEq K] {prog : Program} {w : World} {knd : HeapKind prog w K}
theorem meetsPop1 {d b : Addr} {k : K} (hd : (d == sysModules) = false) :
    MeetsIn prog w (Builtin.«dict.pop» ⟨[.ref d, .ref b], []⟩) (fun A R s => ∃ (xs : List (K × Addr × Value)) (p : Addr × Value), knd.room A.in1 ∧ knd.is s.heap k b ∧ s.heap.DictOfH knd d xs ∧ xs.length ≤ sizeLine ∧ atKey xs k = some p ∧
      ∀ h' tk, h'.DictOfH knd d (DT.dropH xs k) → Heap.SameBut d s.heap h' → R (.ok (.ret p.2)) { s with heap := h', toks := tk }) :=
  .of_wp fun A R s ⟨xs, p, hu, hkey, hm, hsz, hp, hsome⟩ => by
    obtain ⟨o, es, ep, ho, hc, hdat, he, his, hn⟩ := id hm
    have hes : es.size = xs.length := size_of_entries he
    have hpart : (keyPart (Value.ref b)).isSome = false := rfl
    unfold Builtin.«dict.pop»
    refine wpAny_bind ?_
    unfold Builtin.Dict.keyAndDefault
    refine wpAny_bind (wpAny_notOrdered_dict hm.typeIs ?_)
    show wpAny _ _ (pure (d, Value.ref b, none)) _ _ s
    refine wpAny_pure ?_
    simp only [hpart, Bool.false_eq_true, if_false]
    refine wpAny_bind (wpAny_dictEntries ho hdat (wpAny_bind (wpAny_pure ?_)))
    cases hem : es.isEmpty with
    | true =>
      exfalso
      have h0 : xs = [] := by
        have z : es.size = 0 := by simpa using hem
        exact List.length_eq_zero_iff.mp (by omega)
      rw [h0] at hp
      cases hp
    | false =>
      simp only [Bool.false_eq_true, if_false]
      refine wpAny_bind (DT.takeH hu hkey hm hsz (fun hno => ?_) fun p' e hp' hev h' hm' hs' => ?_)
      · rw [hno] at hp
        cases hp
      · simp only [Option.isNone_some, Bool.false_eq_true, if_false]
        rw [hp] at hp'
        cases hp'
        exact wpAny_bind (wpAny_letGo (wpAny_pure ⟨e.val, rfl, by rw [hev]; exact hsome h' _ hm' hs'⟩))
end
section
variable {X : Cx}
def rPopT1 : V → List V → Hp → VK → Prop := fun x xs H Q => ∃ (a : Addr) (kvs : List (List L2.Key × V)) (k : List L2.Key) (b : Addr) (v : V), x = .ref a ∧ xs = [.ref b] ∧ H a = some (.dT kvs) ∧ H b = some (.tup (k.map kV)) ∧
  valV kvs k = some v ∧ Q v (upd H a (.dT (dropK kvs k)))
theorem mt_popT1 (hu : X.A.units + 1 < cLine) : MtR X "dict.pop" rPopT1 := by
  intro pins s σ H x xs v us Q I rx rxs h
  obtain ⟨a, kvs, k, b, v0, rfl, rfl, ha, hb, ev, q1⟩ := h
  cases rx
  obtain ⟨u1, rfl, r1⟩ := vals1 rxs
  cases (show u1 = Value.ref b from r1)
  obtain ⟨z, hd, xs', rel, dd⟩ := dt_of I.hok ha
  have hz : xs'.length ≤ sizeLine := by rw [← Paired.length rel]; exact z
  have r := rel.val k
  rw [ev] at r
  obtain ⟨p, hp, rv⟩ : ∃ p, atKey xs' k = some p ∧ RelV v0 p.2 := by
    cases ep : atKey xs' k with
    | none =>
      rw [ep] at r
      exact (show False from r).elim
    | some p =>
      rw [ep] at r
      exact ⟨p, rfl, r⟩
  refine call_meetsIn PySem.F.slot_dict_pop dd.typeIs PySem.F.entry_dict_pop (PySem.F.args_dict_pop_2 _ _) (meetsPop1 (knd := tupleKind (mixKind X.prog X.w)) (k := k) hd)
    ⟨xs', p, tupleKind_room_in1 hu, key_of I.hok hb, dd, hz, hp, fun h' tk dd' hs => ?_⟩
  obtain ⟨o, es, ep, hq, h2, h3, h4, _, h5⟩ := dd'
  have I2 : Inv X pins σ (upd H a (.dT (dropK kvs k))) { s with heap := h', toks := tk } :=
    d_write I (by rw [ha]; exact True.intro) hs ⟨o, hq⟩ ⟨Nat.le_trans (dropK_le kvs k) z, hd, _, (DX.KT_drop k rel).keeps (fun c ys ec => (by rw [upd_ne (ne_of ec ha (fun z => nomatch z))]; exact ec)), o, es, ep, hq, h2, h3, h4, h5⟩
  show EP X pins σ Q p.2 _
  exact ⟨v0, _, I2, rv, q1⟩
end
end L2

namespace L2
open PySem PySem.Spec PyProof.Rows
/-! ### len(range(e)) -/
def tLenR (ta : TE) : TE := fun σ H Q => ta σ H fun x H1 => ∃ j : Int, x = .int j ∧ 0 ≤ j ∧ j < 2 ^ 62 ∧ Q (.int j) H1
theorem pe_lenR {X : Cx} {a : Expr} {ta : TE} {p p2 q pos : Pos} (hg : Gl X "len") (hm : X.mg "len" = none) (hg2 : Gl X "range") (hm2 : X.mg "range" = none) (ha : PE X a ta)
    (na : starEach [a] X.env = (false, eval a X.env) :: starEach [] X.env := by rfl) : PE X (.Call (.Name "len" p) [.Call (.Name "range" p2) [a] [] q] [] pos) (tLenR ta) := by
  refine ⟨fun pins s σ H Q I h => ?_⟩
  refine Call_ (ld_blt I hg hm boot_len ?_)
  refine PyProof.Rows.callWith_builtin1 (PyProof.Rows.args_cons ?_ rfl) rfl rfl
  refine Call_ (ld_blt I hg2 hm2 boot_range ?_)
  refine PyProof.Rows.callWith_type1 (PyProof.Rows.args_cons (thn (ha.run pins s σ H _ I h) fun v s1 ⟨x, H1, I1, r1, q1⟩ => PyProof.Rows.args_nil ?_) na) na rfl
  obtain ⟨j, rfl, h0, h1, q1⟩ := q1
  obtain ⟨t, rfl⟩ := r1
  refine call_range_1 (PyProof.Rows.args_nil ?_)
  refine call_len_range (n := j.toNat) (IsRange.new ..) ?_ (by omega) ?_
  · rw [rangeSize_one]
    split <;> omega
  · refine ⟨.int j, H1, ?_, ⟨_, by rw [Int.toNat_of_nonneg h0]⟩, q1⟩
    exact I1.kept fun b o e => Heap.get?_push_of_some _ e
end L2

namespace L2
open PySem PySem.Spec PyProof.Rows
/-! ### len(x) by an own __len__ -/
section
variable {X : Cx}
/-- an own function called from within a builtin -/
theorem own_run {CX : CXT} {n : Nat} {f : Addr} {fd : FuncData} {ps : List Str} {sp : Sp} {E : XK} {A : Around} {pins : List (Addr × Obj)} {σ : St} {H : Hp} {s : Shared} {vs : List V} {us : List Value} {Q : VK}
    (F : FnOk X.prog X.w X.K X.mg X.base CX n f fd ps sp) (hb : Binds X.K fd ps []) (hx : Passes CX X E) (sb : Sub X n A) (I : Inv X pins σ H s) (r : Vals vs us) (hsp : sp vs H Q E) :
    wpAny (model X.prog X.w) A (call (.ref f) us) (fun u s' => ∃ v H', Inv X pins σ H' s' ∧ RelV v u ∧ Q v H') X.xe s := by
  have e0 : Env0 X.prog X.w X.K X.mg X.base A X.stack s H := by
    have e := I.env0
    exact ⟨by rw [sb.fr]; exact e.frames, e.mod, e.bs, e.bsz, e.funs, e.frf, e.hok, e.bare⟩
  have hl := F.len _ _ _ _ hsp
  refine wpAny_call (codeAny_mono (F.run A X.stack s H ⟨us, []⟩ us vs _ E sb.room e0 (by
    have := hb s us I.kIn (by rw [List.append_nil, ← r.length]; exact hl)
    simpa using this) r hsp) fun r s' hq => ?_)
  cases r with
  | error e => exact hx pins σ H s e s' I hq
  | ok fl =>
    cases fl with
    | ret w => exact I.after hq
    | next => exact False.elim hq
    | brk => exact False.elim hq
    | cont => exact False.elim hq
def rLenO (C : Addr) (sp : Sp) (E : XK) : List V → Hp → VK → Prop := fun vs H Q => ∃ (a dx : Addr) (fs : List (Str × V)), vs = [.ref a] ∧ H a = some (.ins C dx fs) ∧
  sp [.ref a] H (fun v H' => ∃ n : Nat, v = .int n ∧ n < 9223372036854775808 ∧ Q (.int n) H') E
theorem call_lenO {CX : CXT} {n : Nat} {C f : Addr} {fd : FuncData} {ps : List Str} {ds : List Value} {sp : Sp} {E : XK} (hs : PySem.W.findIn X.K (.ref C) "__len__" = some (some (.ref f))) (hf : PySem.W.isFn X.K (.ref f) = true)
    (F : FnOk X.prog X.w X.K X.mg X.base CX n f fd ps sp) (hr : Room (n + 1) X.A) (hb : Binds X.K fd ps ds) (hd : Vals [] ds) (hx : Passes CX X E) : CallR X (.builtin "len") (rLenO C sp E) := by
  cases hd
  intro pins s σ H xs us Q I r h
  obtain ⟨a, dx, fs, rfl, ha, hsp⟩ := h
  obtain ⟨u, rfl, ru⟩ := vals1 r
  cases (show u = Value.ref a from ru)
  obtain ⟨mA, J, _⟩ := ins_get I.hok ha
  obtain ⟨od, J, _⟩ := J.look
  refine Calls.call_function_entry kind_len plain_len entry_len (args_len1 _) ?_
  unfold Builtin.«len»
  refine wpAny_bind (m := oneArg "len" _) (wpAny_pure ?_)
  refine wpAny_bind (m := callSpecial? (.ref a) (Str.ofString "__len__")) (PySem.W.special_fn (name := "__len__") I.kIn J hs (beq_iff_eq.mp hf) ?_)
  refine wpAny_mono (own_run F hb hx (Sub.in1 ⟨hr, rfl⟩) I (show Vals [V.ref a] [Value.ref a] from .cons rfl .nil) hsp) (fun v s' z => ?_) fun _ _ e => e
  obtain ⟨x, H', I', rx, m, rfl, hm, q⟩ := z
  obtain ⟨tk, rfl⟩ := rx
  refine wpAny_bind (wpAny_holding (wpAny_pure ?_))
  refine wpAny_bind (wpAny_letGo ?_)
  show wpAny _ _ (if ((m : Nat) : Int) < 0 then _ else _) _ _ _
  rw [if_neg (by omega)]
  show wpAny _ _ (if ((m : Nat) : Int) ≥ 2 ^ 63 then _ else _) _ _ _
  rw [if_neg (by omega)]
  exact wpAny_bind (wpAny_mkInt (wpAny_pure ⟨_, rfl, ⟨.int m, H', I'.tok _, ⟨_, rfl⟩, q⟩⟩))
/-- == by an own __eq__ -/
def rEqO (C : Addr) (sp : Sp) (E : XK) : V → V → Hp → VK → Prop := fun x y H Q => ∃ (a b dx dy : Addr) (fs gs : List (Str × V)), x = .ref a ∧ y = .ref b ∧ H a = some (.ins C dx fs) ∧ H b = some (.ins C dy gs) ∧
  sp [.ref a, .ref b] H (fun v H' => ∃ r : Bool, v = .bl r ∧ Q (.bl r) H') E
theorem op_eqO {CX : CXT} {n : Nat} {C f : Addr} {fd : FuncData} {ps : List Str} {ds : List Value} {sp : Sp} {E : XK} (hs : PySem.W.findIn X.K (.ref C) "__eq__" = some (some (.ref f))) (hf : PySem.W.isFn X.K (.ref f) = true)
    (F : FnOk X.prog X.w X.K X.mg X.base CX n f fd ps sp) (hr : Room n X.A) (hb : Binds X.K fd ps ds) (hd : Vals [] ds) (hx : Passes CX X E) : OpR X (compareOp .Eq) (rEqO C sp E) := by
  cases hd
  intro pins s σ H x y v u Q I rx ry h
  obtain ⟨a, b, dx, dy, fs, gs, rfl, rfl, ha, hb', hsp⟩ := h
  cases rx
  cases ry
  obtain ⟨mA, J, _⟩ := ins_get I.hok ha
  obtain ⟨mB, J', _⟩ := ins_get I.hok hb'
  obtain ⟨od, J, _⟩ := J.look
  obtain ⟨od', J', _⟩ := J'.look
  obtain ⟨m, hF⟩ := I.fr
  show wpAny (model X.prog X.w) X.A (richCompare .Eq (.ref a) (.ref b)) (EP X pins σ Q) X.xe s
  refine PySem.W.cmp_K (op := .Eq) (tb := .ref C) hr.units0 hF I.ok.mod.kin J J'.type (by simp [PySem.W.notFirst]) hs hf ?_
  refine wpAny_mono (own_run F hb hx ⟨hr, rfl⟩ I (show Vals [V.ref a, V.ref b] [Value.ref a, Value.ref b] from .cons rfl (.cons rfl .nil)) hsp) (fun v s' z => ?_) fun _ _ e => e
  obtain ⟨x, H', I', rv, r, rfl, q⟩ := z
  cases rv
  exact ⟨.bl r, H', I', rfl, q⟩
end
end L2

namespace L2
open PySem PySem.Spec PyProof.Rows
/-! ### in a try's body: a method without arguments, an own thing made -/
section
variable {X : Cx} {CX : CXT} {k : Nat} {f C : Addr} {fd : FuncData} {ps : List Str} {sp : Sp} {dvs : List V} {ds : List Value} {E : St → XK} {o e : Expr} {es : List Expr} {ta : TE} {t : TA} {m x : Str} {p apos pos : Pos}
theorem pe_methSD0 {pl : Sem Bool} (he : PE X o ta) (c : Cls X.K C) (hm : Meth X.K C m f) (F : FnOk X.prog X.w X.K X.mg X.base CX k f fd ps sp) (hr : Room k X.A) (hb : Binds X.K fd ps ds) (hd : Vals dvs ds) (hx : ∀ σ, PassesAt CX X σ (E σ))
    (ht : eval (.Call (.Attribute o m apos) [] [] pos) X.env = (do
      let ov ← eval o X.env
      standAt apos.atName
      let (f, first) ← holding [ov] (getMethod ov m pl)
      callWith pos f first (backTo pos (starEach [] X.env)) (backToKw pos (keywordEach [] X.env))) := by rfl) :
    PE X (.Call (.Attribute o m apos) [] [] pos) (tMethSD C m sp dvs E ta tNil) := by
  refine ⟨fun pins s σ H Q I h => PySem.W.methodCall_KW (pl := pl) (thn (he.run pins s σ H _ I h) fun u s1 z => ?_) ht⟩
  obtain ⟨y, H1, J, rx, a, dx, fs, rfl, ea, l, q⟩ := z
  cases (show u = Value.ref a from rx)
  refine getmeth_ok J ea c hm l ?_
  have rr : Vals (V.ref a :: ([] ++ dvs)) ([Value.ref a] ++ ds) := .cons rfl hd
  refine PySem.W.callWith_K0 (first := [.ref a]) J.kIn hm.kp (wpAny_call (codeAny_mono (F.run X.A X.stack s1 H1 ⟨[.ref a], []⟩ ([.ref a] ++ ds) (.ref a :: ([] ++ dvs)) Q (E σ) hr J.env0 (hb s1 [.ref a] J.kIn (rr.length.symm.trans (F.len _ _ _ _ q))) rr q) fun r s' z => ?_))
  cases r with
  | error er => exact hx σ pins H1 s1 er s' J z
  | ok fl =>
    cases fl with
    | ret u => exact J.after z
    | _ => exact False.elim z
def tMakeSD (C : Addr) (sp : Sp) (dvs : List V) (E : St → XK) (t : TA) : TE := fun σ H Q => t σ H fun vs H1 => ∀ x dx, H1 x = none → H1 dx = none → dx ≠ x → sp (.ref x :: (vs ++ dvs)) (upd (upd H1 dx (.own x)) x (.ins C dx [])) (fun v H2 => v = .non ∧ Q (.ref x) H2) (E σ)
theorem pe_makeSD (M : Mk X.K C f) (F : FnOk X.prog X.w X.K X.mg X.base CX k f fd ps sp) (hr : Room (k + 1) X.A) (hg : Gl X x) (hm : X.mg x = some (.ref C)) (hb : Binds X.K fd ps ds) (hd : Vals dvs ds) (hx : ∀ σ, PassesAt CX X σ (E σ))
    (ha : PA X (e :: es) t) (hdb : (x == ("__debug__" : Str)) = false := by decide) (he : starEach (e :: es) X.env = (false, eval e X.env) :: starEach es X.env := by rfl) (hpl : (backTo pos (starEach es X.env)).any (·.1) = false := by rfl) :
    PE X (.Call (.Name x p) (e :: es) [] pos) (tMakeSD C sp dvs E t) := by
  refine ⟨fun pins s σ H Q I h => ?_⟩
  refine wpAny_Call_Name_kw (ld_glob I hg hm ?_ hdb)
  refine PySem.W.callWith_K (h₀ := X.base) I.ok.mod.kin M.kp (thn (ha.run pos pins s σ H _ I h) fun us s1 z => ?_) he hpl
  obtain ⟨vs, H1, J, r, z⟩ := z
  refine ⟨J.kIn, ?_⟩
  have hq := z (s1.heap.objs.size + 1) s1.heap.objs.size (J.hok.fresh (Nat.le_succ _)) (J.hok.fresh (Nat.le_refl _)) (Nat.ne_of_lt (Nat.lt_succ_self _))
  have J2 := Inv.made (C := C) J
  have r2 : Vals (V.ref (s1.heap.objs.size + 1) :: (vs ++ dvs)) (Value.ref (s1.heap.objs.size + 1) :: (us ++ ds)) := .cons rfl (r.append hd)
  have hl : (Value.ref (s1.heap.objs.size + 1) :: us ++ ds).length = ps.length := (r2.length.symm.trans (F.len _ _ _ _ hq).symm.symm)
  refine wpAny_call (make_map (f := f) J.kIn M.makes M.init (beq_iff_eq.mp M.fn) (codeAny_mono (F.run _ X.stack _ _ ⟨Value.ref (s1.heap.objs.size + 1) :: us, []⟩ (Value.ref (s1.heap.objs.size + 1) :: (us ++ ds)) _ _ (E σ) (hr.make C us [])
    (J2.env0.make C us []) (hb _ (Value.ref (s1.heap.objs.size + 1) :: us) J2.kIn hl) r2 hq) fun r s' y => ?_))
  cases r with
  | error er => exact hx σ pins _ _ er s' J2 y
  | ok fl =>
    cases fl with
    | ret u =>
      obtain ⟨v, H', I3, rv, ev, q3⟩ := J2.after y
      subst ev
      exact ⟨rv, ⟨V.ref (s1.heap.objs.size + 1), H', I3, rfl, q3⟩⟩
    | _ => exact False.elim y
end
end L2

namespace Toy
open PySem L2

def top (i : Nat) : Stmt := PySem.Challenge.pw_undotrees_k11_worlds_refused.main.body.getD i (.Pass ⟨0, 0, 0, 0⟩)
abbrev s_law_pool : Stmt := top 21
abbrev s_law_take : Stmt := top 22
abbrev s_is_whole : Stmt := top 13
abbrev s_NoNumber___init__ : Stmt := inClass (top 5) 0
abbrev s_World___init__ : Stmt := inClass (top 19) 0
abbrev s_World___len__ : Stmt := inClass (top 19) 12
abbrev s_law_made : Stmt := top 23
abbrev s_Full___init__ : Stmt := inClass (top 8) 0
abbrev s_World_add : Stmt := inClass (top 19) 3
abbrev s_law_added : Stmt := top 24
abbrev s_NoDeed___init__ : Stmt := inClass (top 3) 0
abbrev s_World_look_at_deed : Stmt := inClass (top 19) 2
abbrev s_NoThing___init__ : Stmt := inClass (top 4) 0
abbrev s_World_look_at_thing : Stmt := inClass (top 19) 1
abbrev s_Taken___init__ : Stmt := inClass (top 7) 0
abbrev s_World_lay : Stmt := inClass (top 19) 4
abbrev s_Bare___init__ : Stmt := inClass (top 6) 0
abbrev s_World_lift : Stmt := inClass (top 19) 5
abbrev s_law_asked : Stmt := top 25
abbrev s_World_laid : Stmt := inClass (top 19) 6
abbrev s_law : Stmt := top 26
open RowM (sgns con ix Row)
open TL
/-- the reading, as far as it goes by itself -/
local macro_rules | `(tactic| walk_at "rd") => `(tactic| repeat (first
  | refine ⟨_, rfl, ?_⟩
  | refine ⟨_, _, rfl, rfl, ?_⟩
  | refine ⟨rfl, ?_⟩
  | refine ⟨(by show (0 : Int) < _; omega), ?_⟩
  | refine ⟨⟨by omega, by omega⟩, ?_⟩
  | refine ⟨(by decide), ?_⟩
  | refine ⟨(by omega), ?_⟩))
/-- the text of a list of signs' numbers -/
abbrev S (l : List Nat) : Str := ⟨l.toArray⟩
/-- all but the object at p is as it was -/
def Off (p : Addr) (H H' : Hp) : Prop := ∀ b o, b ≠ p → H b = some o → H' b = some o
theorem Off.refl (p : Addr) (H : Hp) : Off p H H := fun _ _ _ h => h
theorem Off.trans {p : Addr} {H H1 H2 : Hp} (a : Off p H H1) (b : Off p H1 H2) : Off p H H2 := fun c o n h => b c o n (a c o n h)
theorem off_of {p : Addr} {H H' : Hp} (a : Same H H') : Off p H H' := fun c o _ h => a c o h
theorem Off.upd {p : Addr} {H H' : Hp} {o : HO} (a : Off p H H') : Off p H (upd H' p o) := fun c u n h => by
  rw [upd_ne n]
  exact a c u n h
/-- the law's own pool of draws -/
def Pool (H : Hp) (p : Addr) : Prop := ∃ c n : Int, H p = some (.lst [.int c, .int n]) ∧ 0 ≤ n ∧ n < 2147483647
theorem Pool.same {H H' : Hp} {p : Addr} (h : Pool H p) (s : Same H H') : Pool H' p := by
  obtain ⟨c, n, e, r⟩ := h
  exact ⟨c, n, s _ _ e, r⟩
theorem Same.new {H : Hp} {p : Addr} {o : HO} (h : H p = none) : Same H (upd H p o) := fun b u e => by
  rw [upd_ne (ne_of_none e h)]
  exact e
theorem atI0 {α : Type} {a : α} {l : List α} : atI (a :: l) 0 = some a := atI_nat (xs := a :: l) (j := 0) rfl
theorem atI1 {α : Type} {a b : α} {l : List α} : atI (a :: b :: l) 1 = some b := atI_nat (xs := a :: b :: l) (j := 1) rfl
theorem one_le {c : Nat} : (⟨#[c]⟩ : Str).length ≤ 5592405 := by show 1 ≤ _; decide
/-! ### signs -/
open RowM (lo up)
theorem low1 : ∀ c ∈ sgns, Txt.lower (S [c]) = S [lo c] := by decide +kernel
theorem up1 : ∀ c ∈ sgns, Txt.upper (S [c]) = S [up c] := by decide +kernel
theorem isup1 : ∀ c ∈ sgns, Txt.isupper (S [c]) = decide (c < 97) := by decide +kernel
theorem islo1 : ∀ c ∈ sgns, Txt.islower (S [c]) = decide (97 ≤ c) := by decide +kernel
theorem six1 : ∀ c ∈ sgns, ∃ r, Builtin.Str.occurrences "aAbBcCdDeEfF" (S [c]) 0 12 1 = ix c :: r := by
  intro c hc
  have h : ∀ c ∈ sgns, (Builtin.Str.occurrences "aAbBcCdDeEfF" (S [c]) 0 12 1).head? = some (ix c) := by decide +kernel
  have := h c hc
  cases e : Builtin.Str.occurrences "aAbBcCdDeEfF" (S [c]) 0 12 1 with
  | nil => rw [e] at this; cases this
  | cons a r => rw [e] at this; cases this; exact ⟨r, rfl⟩
theorem sgns_at : ∀ i : Nat, i < 12 → ∃ c, (Str.ofString "aAbBcCdDeEfF").cps.toList[i]? = some c ∧ c ∈ sgns ∧ ix c = i := by
  have h : ∀ i ∈ List.range 12, (Str.ofString "aAbBcCdDeEfF").cps.toList[i]? = sgns[i]? ∧ (sgns[i]?).isSome = true ∧ ix (sgns.getD i 0) = i := by decide +kernel
  intro i hi
  obtain ⟨h1, h2, h3⟩ := h i (List.mem_range.mpr hi)
  have h4 : i < sgns.length := hi
  refine ⟨sgns[i], by rw [h1, List.getElem?_eq_getElem h4], List.getElem_mem _, ?_⟩
  rw [List.getD_eq_getElem?_getD, List.getElem?_eq_getElem h4] at h3
  exact h3
theorem sgns_mem : ∀ c : Nat, (c ∈ (Str.ofString "aAbBcCdDeEfF").cps.toList) = (c ∈ sgns) := by
  have h : (Str.ofString "aAbBcCdDeEfF").cps.toList = sgns := by decide +kernel
  intro c
  rw [h]
theorem sign_of_at {i : Int} {z : Str} (h0 : 0 ≤ i) (h1 : i < 12) (hz : z = Str.ofString "aAbBcCdDeEfF") : ∃ c, atI z.cps.toList i = some c ∧ c ∈ sgns ∧ (ix c : Int) = i := by
  subst hz
  obtain ⟨c, e, hc, hi⟩ := sgns_at i.toNat (by omega)
  refine ⟨c, ?_, hc, by omega⟩
  have : i = (i.toNat : Int) := by omega
  rw [this]
  exact atI_nat e
theorem el_is {te : TE} {σ : L2.St} {H : Hp} {xs ys : List V} (h : Evl.EvL te σ H xs) (e : xs = ys) : Evl.EvL te σ H ys := e ▸ h
theorem len_S (l : List Nat) : (S l).length = l.length := by simp [S, Str.length]
theorem add_S (l m : List Nat) : S l ++ S m = S (l ++ m) := ext_tl (by rw [tl_append])
theorem joinL_nil : ∀ ps : List (List Nat), joinL [] ps = ps.flatten
  | [] => rfl
  | [p] => by simp [joinL]
  | p :: q :: r => by rw [joinL, joinL_nil (q :: r)]; simp
theorem join_S (a : Str) (ha : tl a = []) (l : List Nat) : Txt.join a (l.map fun c => S [c]) = S l := by
  refine ext_tl ?_
  rw [join_eq, tl_join, ha, joinL_nil]
  show _ = l
  induction l with
  | nil => rfl
  | cons c l ih => simp [tl] at ih ⊢; exact ih
theorem sum_ones (l : List Nat) : ((l.map fun c => S [c]).map (·.length)).sum = l.length := by
  induction l with
  | nil => rfl
  | cons c l ih => simp only [List.map_cons, List.sum_cons, List.length_cons, ih, len_S]; simp; omega
section
open Evl
variable {K : PySem.W.Frag} {σ : L2.St} {H : Hp} {te tl' to : TE} {j : Nat} {vs : List Nat}
/-- "".join([e for sign in text]), each e a sign -/
theorem ev_joinMap {a s : Str} (g : Nat → Nat) (ho : Ev to σ H (.str a)) (ha : tl a = []) (h : Ev tl' σ H (.str s)) (hz : s.length ≤ 40000) (hw : ∀ x, wipe ((wipe σ vs).set j (some x)) vs = wipe σ vs)
    (he : ∀ (c : Nat) H1, Ex H H1 → c ∈ s.cps.toList → Ev te ((wipe σ vs).set j (some (.str ⟨#[c]⟩))) H1 (.str (S [g c]))) :
    Ev (tM1 (rJoinK K) to (tLc (iStr tl') (gName j) tYes te vs)) σ H
      (.str (S (s.cps.toList.map g))) := by
  have e1 : s.cps.toList.map (fun c => V.str (S [g c])) = ((s.cps.toList.map g).map fun c => S [c]).map V.str := by simp [List.map_map, Function.comp]
  have e2 : a.length = 0 := by rw [len_tl, ha]; rfl
  have z : s.cps.toList.length = s.length := rfl
  refine ev_is (ev_join ho (el_is (el_mapS (fun c => .str (S [g c])) h hz hw he) e1) ?_) (by rw [join_S a ha])
  rw [sum_ones, e2, List.length_map, z]
  omega
end
/-- [sign.upper(), sign.lower()][int(sign.isupper())] -/
theorem at_turn {c : Nat} (hc : c ∈ sgns) : atI [V.str (Txt.upper (S [c])), V.str (Txt.lower (S [c]))] (if Txt.isupper (S [c]) then 1 else 0) = some (.str (S [con c])) := by
  rw [up1 c hc, low1 c hc, isup1 c hc]
  unfold con up lo
  by_cases h : c < 97
  · have h2 : ¬ 97 ≤ c := by omega
    rw [if_neg h2, if_neg h2, if_neg h2, decide_eq_true h]
    exact atI1
  · have h2 : 97 ≤ c := by omega
    rw [if_pos h2, if_pos h2, if_pos h2, decide_eq_false h]
    exact atI0
theorem sz_str {l m : List Nat} (h1 : l.length < 40000) (h2 : m.length < 40000) : (S l).length + (S m).length ≤ sizeLine := by
  rw [len_S, len_S]
  exact Nat.le_trans (by omega : _ ≤ 100000) (by decide)
theorem row_snoc {l : List Nat} {c : Nat} (h : Row l) (hc : c ∈ sgns) : Row (l ++ [c]) := fun d hd => by
  rcases List.mem_append.mp hd with q | q
  · exact h d q
  · rw [List.mem_singleton.mp q]; exact hc
theorem all_snoc {P : Nat → Prop} {l : List Nat} {c : Nat} (h : ∀ d ∈ l, P d) (hc : P c) : ∀ d ∈ l ++ [c], P d := fun d hd => by
  rcases List.mem_append.mp hd with q | q
  · exact h d q
  · rw [List.mem_singleton.mp q]; exact hc
theorem at_last {m : List Nat} {d : Nat} : atI (S (m ++ [d])).cps.toList (-(1 : Int)) = some d := by
  show atI (m ++ [d]) (-1) = some d
  unfold atI ixN
  have h : -(((m ++ [d]).length : Nat) : Int) ≤ -1 := by simp; omega
  rw [if_neg (by decide), if_pos h]
  have e : ((-1 : Int) + ((m ++ [d]).length : Nat)).toNat = m.length := by simp; omega
  rw [e]
  simp
theorem cut_S (l : List Nat) (lo hi : Option Int) : cutS (S l) lo hi = S ((l.drop (HT.sIx l.length 0 lo)).take (HT.sIx l.length l.length hi - HT.sIx l.length 0 lo)) := by
  unfold cutS
  rw [len_S]
theorem cut_last {m : List Nat} {d : Nat} : cutS (S (m ++ [d])) none (some (-1)) = S m := by
  rw [cut_S, HT.sIx_none]
  have e : HT.sIx (m ++ [d]).length (m ++ [d]).length (some (-1)) = m.length := by
    show (if (-1 : Int) < 0 then ((-1 : Int) + ((m ++ [d]).length : Nat)).toNat else min (-1 : Int).toNat (m ++ [d]).length) = _
    rw [if_pos (by decide)]
    simp
    omega
  rw [e, List.drop_zero, Nat.sub_zero]
  simp
theorem sz_of' {n : Nat} (h : n ≤ 100000) : n ≤ sizeLine := Nat.le_trans h (by decide)
theorem exists_snoc {α : Type} {m : List α} (h : m ≠ []) : ∃ l d, m = l ++ [d] := ⟨m.dropLast, m.getLast h, (List.dropLast_concat_getLast h).symm⟩
theorem ix_con {c : Nat} (h : c ∈ sgns) : ix (con c) / 2 = ix c / 2 := by
  have : ∀ c ∈ sgns, ix (con c) / 2 = ix c / 2 := by decide
  exact this c h
/-! ### the rank of a row, as data -/
def intsD (xs : List Nat) : List PyData := xs.map fun (c : Nat) => .int (c : Int)
def rankD (l : List Nat) : PyData := .tuple [.int l.length, .list (intsD (l.map ix))]
theorem alike_ints : ∀ xs ys : List Nat, PySem.W.alikeAll (intsD xs) (intsD ys) = true
  | [], _ => by simp [intsD, PySem.W.alikeAll]
  | _ :: _, [] => by simp [intsD, PySem.W.alikeAll]
  | x :: xs, y :: ys => by
    have ih := alike_ints xs ys
    simp only [intsD] at ih ⊢
    simp [PySem.W.alikeAll, PySem.W.alike, ih]
theorem alike_rank (l m : List Nat) : PySem.W.alike (rankD l) (rankD m) = true := by
  simp [rankD, PySem.W.alike, PySem.W.alikeAll, alike_ints]
theorem eqv_int (a b : Int) : PyData.eqv (.int a) (.int b) = decide (a = b) := by
  simp [PyData.eqv]
  by_cases h : a = b <;> simp [h]
theorem lex_ints : ∀ xs ys : List Nat, xs.length = ys.length → PyProof.Rows.lexLt PyProof.Rows.itemOrd (PySem.W.keyToksAll (intsD xs)) (PySem.W.keyToksAll (intsD ys)) = RowM.lexI xs ys
  | [], [], _ => by decide
  | [], _ :: _, h => by simp at h
  | _ :: _, [], h => by simp at h
  | x :: xs, y :: ys, h => by
    have ih := lex_ints xs ys (by simpa using h)
    show PyProof.Rows.lexLt PyProof.Rows.itemOrd (PySem.W.keyToksAll (.int (x : Int) :: intsD xs)) (PySem.W.keyToksAll (.int (y : Int) :: intsD ys)) = _
    by_cases e : x = y
    · rw [PySem.W.dataLt_all_yes rfl (by rw [eqv_int]; simp [e]), ih, RowM.lexI, if_pos e]
    · rw [PySem.W.dataLt_all_no rfl (by rw [eqv_int]; simp; omega), PySem.W.dataLt_int, RowM.lexI, if_neg e]
      congr 1
      simp
theorem eqv_list_len : ∀ xs ys : List Nat, PyData.eqvAll (intsD xs) (intsD ys) = true → xs = ys
  | [], [], _ => rfl
  | [], _ :: _, h => by simp [intsD, PyData.eqvAll] at h
  | _ :: _, [], h => by simp [intsD, PyData.eqvAll] at h
  | x :: xs, y :: ys, h => by
    have h2 : PyData.eqvAll (.int (x : Int) :: intsD xs) (.int (y : Int) :: intsD ys) = true := h
    rw [PySem.W.eqv_all_cons, Bool.and_eq_true, eqv_int] at h2
    have := eqv_list_len xs ys h2.2
    have e := of_decide_eq_true h2.1
    rw [this]
    congr 1
    omega
theorem lt_rank {l m : List Nat} : PySem.W.dataLt (rankD l) (rankD m) = RowM.before l m := by
  unfold rankD
  rw [PySem.W.dataLt_tuple]
  unfold RowM.before
  by_cases e : l.length = m.length
  · rw [if_pos e, PySem.W.dataLt_all_yes rfl (by rw [eqv_int]; simp [e])]
    by_cases q : PyData.eqv (.list (intsD (l.map ix))) (.list (intsD (m.map ix))) = true
    · rw [PySem.W.dataLt_all_yes (by rw [PySem.W.alike]; exact alike_ints _ _) q]
      have : l.map ix = m.map ix := eqv_list_len _ _ (by simpa [PyData.eqv] using q)
      rw [this]
      have z : ∀ n : List Nat, RowM.lexI n n = false := by
        intro n
        induction n with
        | nil => rfl
        | cons a n ih => simp [RowM.lexI, ih]
      rw [z]
      decide
    · rw [PySem.W.dataLt_all_no (by rw [PySem.W.alike]; exact alike_ints _ _) (by simpa using q), PySem.W.dataLt_list, lex_ints _ _ (by simpa using e)]
  · rw [if_neg e, PySem.W.dataLt_all_no rfl (by rw [eqv_int]; simp; omega), PySem.W.dataLt_int]
    congr 1
    simp
section
variable {K : PySem.W.Frag} {H : Hp}
theorem dp_ints : ∀ xs : List Nat, DpAll K H (xs.map fun (c : Nat) => V.int (c : Int)) (intsD xs)
  | [] => .nil
  | x :: xs => .cons (.int _) (dp_ints xs)
theorem dp_rank {t q : Addr} {l : List Nat} (ht : H t = some (.tup [.int l.length, .ref q])) (hq : H q = some (.lst (l.map fun c => V.int (ix c : Nat)))) : Dp K H (.ref t) (rankD l) :=
  .tup (SqT.of ht) (.cons (.int _) (.cons (.lst (SqL.of hq) (by
    have := dp_ints (K := K) (H := H) (l.map ix)
    rw [List.map_map] at this
    exact this)) .nil))
end
theorem depth_ints : ∀ xs : List Nat, PyData.depthAll (intsD xs) = 0
  | [] => rfl
  | x :: xs => by
    have := depth_ints xs
    simp only [intsD, List.map_cons, PyData.depthAll, PyData.depth] at this ⊢
    omega
theorem depth_rank (l : List Nat) : (rankD l).depth ≤ 60 := by
  simp [rankD, PyData.depth, PyData.depthAll, depth_ints]
def isRow (l : List Nat) : Bool := decide (l.length ≤ 60) && l.all fun c => decide (c ∈ sgns)
theorem isRow_iff {l : List Nat} : isRow l = true ↔ l.length ≤ 60 ∧ Row l := by
  simp [isRow, RowM.Row]
theorem turns_ok (x t : Int) (h : 1 ≤ t) : 1 ≤ (if (if t < x then t else x) > 1 then (if t < x then t else x) else 1) ∧ (if (if t < x then t else x) > 1 then (if t < x then t else x) else 1) ≤ t := by
  by_cases a : t < x
  · rw [if_pos a]
    by_cases b : t > 1
    · rw [if_pos b]; omega
    · rw [if_neg b]; omega
  · rw [if_neg a]
    by_cases b : x > 1
    · rw [if_pos b]; omega
    · rw [if_neg b]; omega
theorem at2 {α : Type} {a b : α} {v : Int} (h0 : 0 ≤ v) (h1 : v < 2) : ∃ x, atI [a, b] v = some x ∧ (x = a ∨ x = b) := by
  have : v = 0 ∨ v = 1 := by omega
  rcases this with rfl | rfl
  · exact ⟨a, atI0, .inl rfl⟩
  · exact ⟨b, atI1, .inr rfl⟩
theorem cut_to {l : List Nat} {k : Nat} (h : k ≤ l.length) : cutS (S l) none (some (k : Int)) = S (l.take k) := by
  rw [cut_S, HT.sIx_none, HT.sIx_nat, Nat.min_eq_left h, List.drop_zero, Nat.sub_zero]
theorem cut_from {l : List Nat} {k : Nat} : cutS (S l) (some (k : Int)) none = S (l.drop k) := by
  rw [cut_S, HT.sIx_none, HT.sIx_nat]
  congr 1
  by_cases h : k ≤ l.length
  · rw [Nat.min_eq_left h]
    have : (l.drop k).length = l.length - k := List.length_drop ..
    rw [← this, List.take_length]
  · have h2 : l.length ≤ k := by omega
    rw [Nat.min_eq_right h2, List.drop_eq_nil_of_le h2, Nat.sub_self, List.take_zero]
theorem str_dec {c d : Nat} : decide (V.str (S [c]) = V.str (S [d])) = decide (c = d) := by
  apply decide_eq_decide.mpr
  constructor
  · intro h
    have h1 := congrArg (fun v => match v with | V.str z => z.cps.toList | _ => []) h
    simpa using h1
  · intro h; rw [h]
theorem row_sub {l m : List Nat} (h : Row l) (s : ∀ c ∈ m, c ∈ l) : Row m := fun c hc => h c (s c hc)
theorem row_app {l m : List Nat} (h : Row l) (h2 : Row m) : Row (l ++ m) := fun c hc => by
  rcases List.mem_append.mp hc with q | q
  · exact h c q
  · exact h2 c q
theorem at2of3 {α : Type} {a b c : α} {l : List α} : atI (a :: b :: c :: l) 2 = some c := atI_nat (xs := a :: b :: c :: l) (j := 2) rfl
theorem at3 {α : Type} {a b c : α} {v : Int} (h0 : 0 ≤ v) (h1 : v < 3) : ∃ x, atI [a, b, c] v = some x ∧ (x = a ∨ x = b ∨ x = c) := by
  have : v = 0 ∨ v = 1 ∨ v = 2 := by omega
  rcases this with rfl | rfl | rfl
  · exact ⟨a, atI0, .inl rfl⟩
  · exact ⟨b, atI1, .inr (.inl rfl)⟩
  · exact ⟨c, at2of3, .inr (.inr rfl)⟩
theorem at4 {α : Type} {a b c d : α} {v : Int} (h0 : 0 ≤ v) (h1 : v < 4) : ∃ x, atI [a, b, c, d] v = some x ∧ (x = a ∨ x = b ∨ x = c ∨ x = d) := by
  have : v = 0 ∨ v = 1 ∨ v = 2 ∨ v = 3 := by omega
  rcases this with rfl | rfl | rfl | rfl
  · exact ⟨a, atI0, .inl rfl⟩
  · exact ⟨b, atI1, .inr (.inl rfl)⟩
  · exact ⟨c, at2of3, .inr (.inr (.inl rfl))⟩
  · exact ⟨d, atI_nat (xs := [a, b, c, d]) (j := 3) rfl, .inr (.inr (.inr rfl))⟩
theorem Pool.ne {H : Hp} {p d : Addr} (h : Pool H p) (hd : H d = none) : p ≠ d := fun e => by
  obtain ⟨_, _, q, _⟩ := h
  rw [e, hd] at q
  cases q
theorem Pool.new {H : Hp} {p d : Addr} {o : HO} (h : Pool H p) (hd : H d = none) : Pool (upd H d o) p := h.same (Same.new hd)
/-- what stood ahead of the pool stands -/
theorem Off.same {H0 H H' : Hp} {p : Addr} (hp : H0 p = none) (s : Same H0 H) (o : Off p H H') : Same H0 H' := fun b u e => o b u (fun q => by rw [q, hp] at e; cases e) (s b u e)
/-! ### things of any kind -/
def NotStr (H : Hp) (x : V) : Prop := x = .non ∨ (∃ i, x = .int i) ∨ (∃ b, x = .bl b) ∨ ∃ a, x = .ref a ∧ ((∃ xs, H a = some (.lst xs)) ∨ (∃ xs, H a = some (.tup xs)) ∨ ∃ kvs, H a = some (.dK kvs))
theorem NotStr.same {H H' : Hp} {x : V} (h : NotStr H x) (s : Same H H') : NotStr H' x := by
  rcases h with h | h | h | ⟨a, e, ⟨xs, h⟩ | ⟨xs, h⟩ | ⟨xs, h⟩⟩
  · exact .inl h
  · exact .inr (.inl h)
  · exact .inr (.inr (.inl h))
  · exact .inr (.inr (.inr ⟨a, e, .inl ⟨xs, s _ _ h⟩⟩))
  · exact .inr (.inr (.inr ⟨a, e, .inr (.inl ⟨xs, s _ _ h⟩)⟩))
  · exact .inr (.inr (.inr ⟨a, e, .inr (.inr ⟨xs, s _ _ h⟩)⟩))
theorem NotStr.ty {K : PySem.W.Frag} {H : Hp} {x : V} (h : NotStr H x) : ∃ t : String, TyX K H x (.type t) ∧ kitB t "str" = some false := by
  rcases h with rfl | ⟨i, rfl⟩ | ⟨b, rfl⟩ | ⟨a, rfl, ⟨xs, h⟩ | ⟨xs, h⟩ | ⟨xs, h⟩⟩
  · exact ⟨_, .base .non, by decide +kernel⟩
  · exact ⟨_, .base (.int _), by decide +kernel⟩
  · exact ⟨_, .base (.bl _), by decide +kernel⟩
  · exact ⟨_, .base (.lst h), by decide +kernel⟩
  · exact ⟨_, .base (.tup h), by decide +kernel⟩
  · exact ⟨_, .base (.dK h), by decide +kernel⟩
/-- whether x is a text of at most so many of the twelve signs -/
def IsRowW (H : Hp) (x : V) (most : Int) (r : Bool) : Prop := (∃ l : List Nat, x = .str (S l) ∧ l.length ≤ 40000 ∧ r = (decide ((l.length : Int) ≤ most) && l.all fun c => decide (c ∈ sgns))) ∨ (NotStr H x ∧ r = false)
def IsRowV (H : Hp) (x : V) (r : Bool) : Prop := (∃ l : List Nat, x = .str (S l) ∧ l.length ≤ 40000 ∧ r = isRow l) ∨ (NotStr H x ∧ r = false)
theorem IsRowV.same {H H' : Hp} {x : V} {r : Bool} (h : IsRowV H x r) (s : Same H H') : IsRowV H' x r := by
  rcases h with h | ⟨h, e⟩
  · exact .inl h
  · exact .inr ⟨h.same s, e⟩
theorem IsRowV.w {H : Hp} {x : V} {r : Bool} (h : IsRowV H x r) : IsRowW H x 60 r := by
  rcases h with ⟨l, e, z, q⟩ | h
  · refine .inl ⟨l, e, z, ?_⟩
    rw [q]
    unfold isRow
    have z : decide ((l.length : Int) ≤ 60) = decide (l.length ≤ 60) := decide_eq_decide.mpr (by omega)
    rw [z]
  · exact .inr h
theorem Off.mut {p D : Addr} {H H' : Hp} {o : HO} (a : Off p H H') (hD : H D = none) : Off p H (L2.upd H' D o) := fun b u n h => by
  rw [L2.upd_ne (ne_of_none h hD)]
  exact a b u n h
theorem str_at {z : Str} {u : Int} (h0 : 0 ≤ u) (h1 : u < (z.length : Int)) : ∃ c, atI z.cps.toList u = some c ∧ c ∈ z.cps.toList := by
  obtain ⟨n, rfl⟩ : ∃ n : Nat, u = (n : Int) := ⟨u.toNat, by omega⟩
  have h2 : n < z.cps.toList.length := by
    have : z.cps.toList.length = z.length := rfl
    omega
  exact ⟨z.cps.toList[n], atI_nat (List.getElem?_eq_getElem h2), List.getElem_mem _⟩
/-! ### the ten things that are no texts -/
def oddL (t1 l1 d1 l2 t2 l3 : Addr) : List V := [.non, .int 0, .bl true, .ref t1, .ref l1, .ref d1, .ref l2, .ref t2, .ref l3, .int ((10 : Int) ^ (30 : Int).toNat)]
def oddH (H : Hp) (t1 l1 d1 l2 t2 l3 O : Addr) : Hp := upd (upd (upd (upd (upd (upd (upd H t1 (.tup [])) l1 (.lst [])) d1 (.dK [])) l2 (.lst [.str (Str.ofString "a")])) t2 (.tup [.str (Str.ofString "a")])) l3 (.lst [.str (Str.ofString "a"), .str (Str.ofString "b")])) O (.lst (oddL t1 l1 d1 l2 t2 l3))
theorem oddH_ok {H H1 H2 H3 H4 H5 H6 : Hp} {t1 l1 d1 l2 t2 l3 O : Addr} (e1 : H1 = upd H t1 (.tup [])) (e2 : H2 = upd H1 l1 (.lst [])) (e3 : H3 = upd H2 d1 (.dK [])) (e4 : H4 = upd H3 l2 (.lst [.str (Str.ofString "a")])) (e5 : H5 = upd H4 t2 (.tup [.str (Str.ofString "a")])) (e6 : H6 = upd H5 l3 (.lst [.str (Str.ofString "a"), .str (Str.ofString "b")]))
    (n1 : H t1 = none) (n2 : H1 l1 = none) (n3 : H2 d1 = none) (n4 : H3 l2 = none) (n5 : H4 t2 = none) (n6 : H5 l3 = none) (n7 : H6 O = none) :
    Same H (oddH H t1 l1 d1 l2 t2 l3 O) ∧ oddH H t1 l1 d1 l2 t2 l3 O O = some (.lst (oddL t1 l1 d1 l2 t2 l3)) ∧ ∀ x ∈ oddL t1 l1 d1 l2 t2 l3, NotStr (oddH H t1 l1 d1 l2 t2 l3 O) x := by
  have eH : oddH H t1 l1 d1 l2 t2 l3 O = upd H6 O (.lst (oddL t1 l1 d1 l2 t2 l3)) := by rw [e6, e5, e4, e3, e2, e1]; rfl
  rw [eH]
  have s6 : Same H6 (upd H6 O (.lst (oddL t1 l1 d1 l2 t2 l3))) := Same.new n7
  have s5 : Same H5 _ := Same.trans (e6 ▸ Same.new n6) s6
  have s4 : Same H4 _ := Same.trans (e5 ▸ Same.new n5) s5
  have s3 : Same H3 _ := Same.trans (e4 ▸ Same.new n4) s4
  have s2 : Same H2 _ := Same.trans (e3 ▸ Same.new n3) s3
  have s1 : Same H1 _ := Same.trans (e2 ▸ Same.new n2) s2
  have s0 : Same H _ := Same.trans (e1 ▸ Same.new n1) s1
  refine ⟨s0, upd_same, fun x hx => ?_⟩
  simp only [oddL, List.mem_cons, List.not_mem_nil, or_false] at hx
  rcases hx with rfl | rfl | rfl | rfl | rfl | rfl | rfl | rfl | rfl | rfl
  · exact .inl rfl
  · exact .inr (.inl ⟨_, rfl⟩)
  · exact .inr (.inr (.inl ⟨_, rfl⟩))
  · exact .inr (.inr (.inr ⟨_, rfl, .inr (.inl ⟨_, s1 _ _ (by rw [e1]; exact upd_same)⟩)⟩))
  · exact .inr (.inr (.inr ⟨_, rfl, .inl ⟨_, s2 _ _ (by rw [e2]; exact upd_same)⟩⟩))
  · exact .inr (.inr (.inr ⟨_, rfl, .inr (.inr ⟨_, s3 _ _ (by rw [e3]; exact upd_same)⟩)⟩))
  · exact .inr (.inr (.inr ⟨_, rfl, .inl ⟨_, s4 _ _ (by rw [e4]; exact upd_same)⟩⟩))
  · exact .inr (.inr (.inr ⟨_, rfl, .inr (.inl ⟨_, s5 _ _ (by rw [e5]; exact upd_same)⟩)⟩))
  · exact .inr (.inr (.inr ⟨_, rfl, .inl ⟨_, s6 _ _ (by rw [e6]; exact upd_same)⟩⟩))
  · exact .inr (.inl ⟨_, rfl⟩)
/-- a sign among the twelve, in a list of them -/
theorem inV_signs (c : Nat) : inV (V.str (S [c])) ((Str.ofString "aAbBcCdDeEfF").cps.toList.map fun d => V.str ⟨#[d]⟩) = decide (c ∈ sgns) := by
  have h : (Str.ofString "aAbBcCdDeEfF").cps.toList = sgns := by decide +kernel
  rw [h]
  unfold inV
  rw [List.any_map]
  have e : ∀ d : Nat, eqV (V.str ⟨#[d]⟩) (V.str (S [c])) = decide (d = c) := fun d => by
    show ((⟨#[d]⟩ : Str) == S [c]) = decide (d = c)
    by_cases q : d = c
    · subst q; simp
    · rw [decide_eq_false q]
      apply beq_eq_false_iff_ne.mpr
      intro z
      have := congrArg (fun z : Str => z.cps.toList) z
      simp at this
      exact q this
  rw [show (sgns.any ((fun y => eqV y (V.str (S [c]))) ∘ fun d => V.str ⟨#[d]⟩)) = sgns.any fun d => decide (d = c) from by congr 1; funext d; exact e d]
  by_cases q : c ∈ sgns
  · rw [decide_eq_true q]
    exact List.any_eq_true.mpr ⟨c, q, by simp⟩
  · rw [decide_eq_false q]
    exact List.any_eq_false.mpr fun d hd => by simp; intro z; subst z; exact q hd
theorem dp_strs {K : PySem.W.Frag} {H : Hp} : ∀ zs : List Str, DpAll K H (zs.map V.str) (zs.map PyData.str)
  | [] => .nil
  | z :: zs => .cons (.str z) (dp_strs zs)
theorem eqv_nil : ∀ ds : List PyData, PyData.eqv (.list ds) (.list []) = ds.isEmpty
  | [] => by simp [PyData.eqv, PyData.eqvAll]
  | _ :: _ => by simp [PyData.eqv, PyData.eqvAll]
/-- a list of code points that a text may hold -/
def Chs (l : List Nat) : Prop := ∀ c ∈ l, c < 1114112
theorem chs_in {l m : List Nat} (h : ∀ c ∈ l, c ∈ m) (g : (m.all fun c => decide (c < 1114112)) = true) : Chs l := fun c hc => of_decide_eq_true (List.all_eq_true.mp g c (h c hc))
theorem chs_sgns : (sgns.all fun c => decide (c < 1114112)) = true := by decide
theorem Chs.app {l m : List Nat} (a : Chs l) (b : Chs m) : Chs (l ++ m) := fun c h => by
  rcases List.mem_append.mp h with h | h
  · exact a c h
  · exact b c h
theorem shaped_strs (zs : List Str) (hz : zs.all PyData.strOk = true) : SeqAt.shaped (.list (zs.map PyData.str)) = true := by
  have h1 : PyData.canLayAll0 (zs.map PyData.str) = true := by
    induction zs with
    | nil => rfl
    | cons z zs ih =>
      simp only [List.all_cons, Bool.and_eq_true] at hz
      simp [PyData.canLayAll0, PyData.canLay0, hz.1, ih hz.2]
  have h2 : ∀ zs : List Str, PyData.depthAll (zs.map PyData.str) = 0 := by
    intro zs
    induction zs with
    | nil => rfl
    | cons z zs ih => simp [PyData.depthAll, PyData.depth, ih]
  simp [SeqAt.shaped, PyData.canLay0, h1, PyData.depth, h2]
/-- the signs of a text that are none of the twelve -/
def strays (l : List Nat) : List Str := ((List.range l.length).filter fun i => !decide (l.getD i 0 ∈ sgns)).map fun i => S [l.getD i 0]
theorem given_strays (l : List Nat) : Evl.given l.length (fun i => !decide (l.getD i 0 ∈ sgns)) (fun i => V.str (S [l.getD i 0])) = (strays l).map V.str := by
  unfold Evl.given strays
  rw [List.map_map]
  rfl
theorem getD_mem {l : List Nat} {i : Nat} (h : i < l.length) : l.getD i 0 ∈ l := by
  rw [List.getD_eq_getElem?_getD, List.getElem?_eq_getElem h]
  exact List.getElem_mem _
theorem strays_ok {l : List Nat} (h : Chs l) : (strays l).all PyData.strOk = true := by
  refine List.all_eq_true.mpr fun z hz => ?_
  unfold strays at hz
  obtain ⟨i, hi, rfl⟩ := List.mem_map.mp hz
  have hi := (List.mem_filter.mp hi).1
  have := h _ (getD_mem (List.mem_range.mp hi))
  simp [PyData.strOk]
  simpa using this
theorem strays_none (l : List Nat) : (strays l).isEmpty = l.all fun c => decide (c ∈ sgns) := by
  by_cases h : ∀ c ∈ l, c ∈ sgns
  · have e : strays l = [] := by
      unfold strays
      rw [List.map_eq_nil_iff, List.filter_eq_nil_iff]
      intro i hi
      have := h _ (getD_mem (List.mem_range.mp hi))
      simpa using this
    rw [e, List.all_eq_true.mpr fun c hc => decide_eq_true (h c hc)]
    rfl
  · rw [show (l.all fun c => decide (c ∈ sgns)) = false from by
      cases q : l.all fun c => decide (c ∈ sgns)
      · rfl
      · exact absurd (fun c hc => of_decide_eq_true (List.all_eq_true.mp q c hc)) h]
    cases q : (strays l).isEmpty
    · rfl
    · refine absurd (fun c hc => ?_) h
      obtain ⟨i, hi, e⟩ := List.getElem_of_mem hc
      have z := List.isEmpty_iff.mp q
      unfold strays at z
      rw [List.map_eq_nil_iff, List.filter_eq_nil_iff] at z
      have := z i (List.mem_range.mpr hi)
      rw [List.getD_eq_getElem?_getD, List.getElem?_eq_getElem hi] at this
      simpa [e] using this
/-! ### worlds: the dict of the ways, keys (sign, thing) -/
abbrev Kvs := List (List Key × V)
def ky (c : Nat) (i : Int) : List Key := [.inr (S [c]), .inl i]
theorem ky_inj {c e : Nat} {i j : Int} (h : ky c i = ky e j) : c = e ∧ i = j := by
  unfold ky at h
  injection h with h1 h2
  injection h2 with h2 _
  injection h1 with h1
  injection h2 with h2
  refine ⟨?_, h2⟩
  have := congrArg (fun z : Str => z.cps.toList) h1
  simpa using this
/-- what the ways are: they lead things to things, and back -/
structure Ways (kvs : Kvs) (n : Nat) : Prop where
  val : ∀ k v, valV kvs k = some v → ∃ (c : Nat) (i j : Nat), k = ky c i ∧ c ∈ sgns ∧ v = .int (j : Int) ∧ i < n ∧ j < n
  sym : ∀ (c : Nat) (i j : Int), valV kvs (ky c i) = some (.int j) → valV kvs (ky (con c) j) = some (.int i)
theorem Ways.nil {n : Nat} : Ways [] n := ⟨fun k v h => (by rw [valV_nil] at h; cases h), fun c i j h => (by rw [valV_nil] at h; cases h)⟩
theorem Ways.lay {kvs : Kvs} {n c i j : Nat} (w : Ways kvs n) (hc : c ∈ sgns) (hi : i < n) (hj : j < n) (h1 : valV kvs (ky c i) = none) (h2 : valV kvs (ky (con c) j) = none) :
    Ways (putK (putK kvs (ky c i) (.int (j : Int))) (ky (con c) j) (.int (i : Int))) n := by
  have hcc := RowM.con_mem hc
  have ne := RowM.con_ne hc
  refine ⟨fun k v h => ?_, fun e a b h => ?_⟩
  · rw [valV_put] at h
    by_cases q : k = ky (con c) j
    · rw [if_pos q] at h
      injection h with h
      exact ⟨con c, j, i, q, hcc, h.symm, hj, hi⟩
    · rw [if_neg q, valV_put] at h
      by_cases q2 : k = ky c i
      · rw [if_pos q2] at h
        injection h with h
        exact ⟨c, i, j, q2, hc, h.symm, hi, hj⟩
      · rw [if_neg q2] at h
        exact w.val k v h
  · rw [valV_put] at h
    by_cases q : ky e a = ky (con c) j
    · rw [if_pos q] at h
      obtain ⟨rfl, rfl⟩ := ky_inj q
      injection h with h
      injection h with h
      subst h
      rw [RowM.con_con hc, valV_put, if_neg (fun z => ne (ky_inj z).1.symm), valV_put, if_pos rfl]
    · rw [if_neg q, valV_put] at h
      by_cases q2 : ky e a = ky c i
      · rw [if_pos q2] at h
        obtain ⟨rfl, rfl⟩ := ky_inj q2
        injection h with h
        injection h with h
        subst h
        rw [valV_put, if_pos rfl]
      · rw [if_neg q2] at h
        have s := w.sym e a b h
        rw [valV_put, if_neg (fun z => by rw [z, h2] at s; cases s), valV_put, if_neg (fun z => by rw [z, h1] at s; cases s)]
        exact s
/-- the thing to which a sign leads -/
def stepW (kvs : Kvs) (o : Option Int) (c : Nat) : Option Int := o.bind fun i => match valV kvs (ky c i) with
  | some (.int j) => some j
  | _ => none
def ledW (kvs : Kvs) (l : List Nat) (o : Option Int) : Option Int := l.foldl (stepW kvs) o
theorem ledW_none (kvs : Kvs) : ∀ l, ledW kvs l none = none
  | [] => rfl
  | c :: l => ledW_none kvs l
theorem ledW_app (kvs : Kvs) (l m : List Nat) (o : Option Int) : ledW kvs (l ++ m) o = ledW kvs m (ledW kvs l o) := by simp [ledW, List.foldl_append]
theorem stepW_back {kvs : Kvs} {n : Nat} (w : Ways kvs n) {c : Nat} {i j : Int} (h : stepW kvs (some i) c = some j) : stepW kvs (some j) (con c) = some i := by
  have e : valV kvs (ky c i) = some (.int j) := by
    unfold stepW at h
    simp only [Option.bind_some] at h
    split at h
    · rename_i j' q
      injection h with h
      rw [q, h]
    · cases h
  have s := w.sym c i j e
  unfold stepW
  simp only [Option.bind_some, s]
theorem ledW_back {kvs : Kvs} {n : Nat} (w : Ways kvs n) : ∀ (l : List Nat) (i j : Int), ledW kvs l (some i) = some j → ledW kvs (RowM.turn l) (some j) = some i
  | [], i, j, h => by
    injection h with h
    subst h
    rfl
  | c :: l, i, j, h => by
    have h2 : ledW kvs l (stepW kvs (some i) c) = some j := h
    cases e : stepW kvs (some i) c with
    | none => rw [e, ledW_none] at h2; cases h2
    | some m =>
      rw [e] at h2
      rw [RowM.turn_cons, ledW_app, ledW_back w l m j h2]
      exact stepW_back w e
theorem ledW_loop {kvs : Kvs} {n : Nat} (w : Ways kvs n) (u v : List Nat) (o : Option Int) : ledW kvs (((u ++ RowM.turn u) ++ u) ++ v) o = ledW kvs (u ++ v) o := by
  cases o with
  | none => rw [ledW_none, ledW_none]
  | some i =>
    rw [ledW_app, ledW_app, ledW_app, ledW_app kvs u v]
    congr 1
    cases e : ledW kvs u (some i) with
    | none => rw [ledW_none, ledW_none]
    | some j => rw [ledW_back w u i j e, e]
theorem ledW_range {kvs : Kvs} {n : Nat} (w : Ways kvs n) : ∀ (l : List Nat) (i j : Int), 0 ≤ i → i < n → ledW kvs l (some i) = some j → 0 ≤ j ∧ j < n
  | [], i, j, h0, h1, h => by
    injection h with h
    omega
  | c :: l, i, j, h0, h1, h => by
    have h2 : ledW kvs l (stepW kvs (some i) c) = some j := h
    cases e : stepW kvs (some i) c with
    | none => rw [e, ledW_none] at h2; cases h2
    | some m =>
      rw [e] at h2
      have q : valV kvs (ky c i) = some (.int m) := by
        unfold stepW at e
        simp only [Option.bind_some] at e
        split at e
        · rename_i j' q
          injection e with e
          rw [q, e]
        · cases e
      obtain ⟨_, _, b, _, _, e2, _, hb⟩ := w.val _ _ q
      injection e2 with e2
      exact ledW_range w l m j (by omega) (by omega) h2
def optV : Option Int → V
  | some i => .int i
  | none => .non
/-- the things from which a row can be done, with those to which it comes -/
def pairsW (kvs : Kvs) (l : List Nat) (n : Nat) : List (Int × Int) := (List.range n).filterMap fun (t : Nat) => (ledW kvs l (some (t : Int))).map fun s => ((t : Int), s)
theorem pairs_eq {f g : Nat → Option Int} : ∀ n : Nat, ((List.range n).filterMap fun t => (f t).map fun s => ((t : Int), s)) = ((List.range n).filterMap fun t => (g t).map fun s => ((t : Int), s)) ↔ ∀ t, t < n → f t = g t
  | 0 => by simp
  | n + 1 => by
    have fst : ∀ (h : Nat → Option Int) (m : Nat), ∀ p ∈ (List.range m).filterMap (fun t => (h t).map fun s => ((t : Int), s)), p.1 < (m : Int) := fun h m p hp => by
      obtain ⟨t, ht, e⟩ := List.mem_filterMap.mp hp
      obtain ⟨s, _, e⟩ := Option.map_eq_some_iff.mp e
      have := List.mem_range.mp ht
      rw [← e]
      show (t : Int) < m
      omega
    constructor
    · intro h
      rw [List.range_succ, List.filterMap_append, List.filterMap_append] at h
      have key : ((List.range n).filterMap fun t => (f t).map fun s => ((t : Int), s)) = ((List.range n).filterMap fun t => (g t).map fun s => ((t : Int), s)) ∧ f n = g n := by
        have cut : ∀ (a b : List (Int × Int)) (x y : Option Int), (∀ p ∈ a, p.1 < (n : Int)) → (∀ p ∈ b, p.1 < (n : Int)) → a ++ (x.map fun s => ((n : Int), s)).toList = b ++ (y.map fun s => ((n : Int), s)).toList → a = b ∧ x = y := by
          intro a b x y ha hb e
          have fl : ∀ (a : List (Int × Int)) (x : Option Int), (∀ p ∈ a, p.1 < (n : Int)) → (a ++ (x.map fun s => ((n : Int), s)).toList).filter (fun p => decide (p.1 < (n : Int))) = a ∧ (a ++ (x.map fun s => ((n : Int), s)).toList).filter (fun p => !decide (p.1 < (n : Int))) = (x.map fun s => ((n : Int), s)).toList := by
            intro a x ha
            have h1 : a.filter (fun p => decide (p.1 < (n : Int))) = a := List.filter_eq_self.mpr fun p hp => decide_eq_true (ha p hp)
            have h2 : a.filter (fun p => !decide (p.1 < (n : Int))) = [] := List.filter_eq_nil_iff.mpr fun p hp => by simp [ha p hp]
            rw [List.filter_append, List.filter_append, h1, h2]
            cases x <;> simp
          obtain ⟨p1, p2⟩ := fl a x ha
          obtain ⟨q1, q2⟩ := fl b y hb
          rw [e] at p1 p2
          refine ⟨p1.symm.trans q1, ?_⟩
          have := p2.symm.trans q2
          cases x <;> cases y <;> simp_all
        refine cut _ _ _ _ (fst f n) (fst g n) ?_
        have one : ∀ x : Option Int, (List.filterMap (fun t : Nat => (if t = n then x else none).map fun s => ((t : Int), s)) [n]) = (x.map fun s => ((n : Int), s)).toList := fun x => by cases x <;> simp
        have h1 : ∀ h : Nat → Option Int, List.filterMap (fun t : Nat => (h t).map fun s => ((t : Int), s)) [n] = ((h n).map fun s => ((n : Int), s)).toList := fun h => by cases e : h n <;> simp [e]
        rw [← h1, ← h1]
        exact h
      intro t ht
      rcases Nat.lt_succ_iff_lt_or_eq.mp ht with w | rfl
      · exact (pairs_eq n).mp key.1 t w
      · exact key.2
    · intro h
      have cg : ∀ l : List Nat, (∀ t ∈ l, f t = g t) → (l.filterMap fun t => (f t).map fun s => ((t : Int), s)) = (l.filterMap fun t => (g t).map fun s => ((t : Int), s)) := by
        intro l
        induction l with
        | nil => intro _; rfl
        | cons a l ih =>
          intro hl
          rw [List.filterMap_cons, List.filterMap_cons, hl a List.mem_cons_self, ih fun t ht => hl t (List.mem_cons_of_mem _ ht)]
      exact cg _ fun t ht => h t (List.mem_range.mp ht)
/-! ### a world in the heap -/
def wfs (n : Nat) (dw : Addr) : List (Str × V) := [(Str.ofString "own_many", .int (n : Int)), (Str.ofString "own_ways", .ref dw)]
def WAt (C : Addr) (H : Hp) (a dw : Addr) (n : Nat) (kvs : Kvs) : Prop := (∃ dx, H a = some (.ins C dx (wfs n dw))) ∧ H dw = some (.dT kvs)
theorem WAt.same {C : Addr} {H H' : Hp} {a dw : Addr} {n : Nat} {kvs : Kvs} (h : WAt C H a dw n kvs) (s : Same H H') : WAt C H' a dw n kvs := ⟨let ⟨dx, e⟩ := h.1; ⟨dx, s _ _ e⟩, s _ _ h.2⟩
theorem WAt.ne {C : Addr} {H : Hp} {a dw : Addr} {n : Nat} {kvs : Kvs} (h : WAt C H a dw n kvs) : a ≠ dw := fun e => by
  obtain ⟨⟨dx, q⟩, r⟩ := h
  rw [e, r] at q
  cases q
/-- the deeds' small letters -/
def Deed (c : Nat) : Prop := c ∈ sgns ∧ 97 ≤ c
theorem deed_in : ∀ c ∈ sgns, 97 ≤ c → c ∈ (Str.ofString "abcdef").cps.toList := by decide +kernel
theorem deed_up : ∀ c ∈ sgns, 97 ≤ c → up c = con c := by decide
theorem kV_ky (c : Nat) (i : Int) : (ky c i).map kV = [.str (S [c]), .int i] := rfl
/-- tuples of two numbers -/
inductive TP (H : Hp) : List Addr → List (Int × Int) → Prop
  | nil : TP H [] []
  | snoc {ts : List Addr} {ps : List (Int × Int)} {t : Addr} {p : Int × Int} (h : TP H ts ps) (e : H t = some (.tup [.int p.1, .int p.2])) : TP H (ts ++ [t]) (ps ++ [p])
theorem TP.same {H H' : Hp} {ts : List Addr} {ps : List (Int × Int)} (h : TP H ts ps) (s : ∀ b xs, H b = some (.tup xs) → H' b = some (.tup xs)) : TP H' ts ps := by
  induction h with
  | nil => exact .nil
  | snoc _ e ih => exact .snoc ih (s _ _ e)
def pD (ps : List (Int × Int)) : List PyData := ps.map fun p => .tuple [.int p.1, .int p.2]
theorem dpall_app {K : PySem.W.Frag} {H : Hp} : ∀ {vs ws : List V} {ds es : List PyData}, DpAll K H vs ds → DpAll K H ws es → DpAll K H (vs ++ ws) (ds ++ es)
  | _, _, _, _, .nil, h => h
  | _, _, _, _, .cons a b, h => .cons a (dpall_app b h)
theorem TP.dp {K : PySem.W.Frag} {H : Hp} {ts : List Addr} {ps : List (Int × Int)} (h : TP H ts ps) : DpAll K H (ts.map V.ref) (pD ps) := by
  induction h with
  | nil => exact .nil
  | @snoc ts ps t p _ e ih =>
    unfold pD at *
    rw [List.map_append, List.map_append]
    exact dpall_app ih (.cons (.tup (Evl.st_of e) (.cons (.int _) (.cons (.int _) .nil))) .nil)
theorem eqv_pD : ∀ ps qs : List (Int × Int), PyData.eqvAll (pD ps) (pD qs) = decide (ps = qs)
  | [], [] => by simp [pD, PyData.eqvAll]
  | [], _ :: _ => by simp [pD, PyData.eqvAll]
  | _ :: _, [] => by simp [pD, PyData.eqvAll]
  | (a, b) :: ps, (c, d) :: qs => by
    have ih := eqv_pD ps qs
    unfold pD at ih ⊢
    simp only [List.map_cons, PyData.eqvAll, PyData.eqv, eqv_int, ih]
    by_cases h1 : a = c
    · by_cases h2 : b = d
      · by_cases h3 : ps = qs
        · simp [h1, h2, h3]
        · simp [h1, h2, h3]
      · simp [h1, h2]
    · simp [h1]
theorem shaped_pD (ps : List (Int × Int)) : SeqAt.shaped (.list (pD ps)) = true := by
  have h1 : PyData.canLayAll0 (pD ps) = true := by
    unfold pD
    induction ps with
    | nil => rfl
    | cons p ps ih => simp [PyData.canLayAll0, PyData.canLay0, ih]
  have h2 : ∀ ps : List (Int × Int), PyData.depthAll (pD ps) ≤ 1 := by
    intro ps
    unfold pD
    induction ps with
    | nil => simp [PyData.depthAll]
    | cons p ps ih =>
      have e : PyData.depth (.tuple [.int p.1, .int p.2]) = 1 := by simp [PyData.depth, PyData.depthAll]
      rw [List.map_cons, PyData.depthAll, e]
      omega
  have h2 := h2 ps
  have h3 : PyData.depth (.list (pD ps)) ≤ 2 := by
    rw [PyData.depth]
    omega
  simp only [SeqAt.shaped, PyData.canLay0, h1, Bool.true_and, decide_eq_true_eq]
  exact Nat.le_trans h3 (by decide)
/-! ### the law's world: the world at a, its dict at dw, the law's own dict at dl, the pool at p -/
structure Apart (H0 : Hp) (p a dw dl : Addr) : Prop where
  ap : a ≠ p
  wp : dw ≠ p
  lp : dl ≠ p
  lw : dl ≠ dw
  aw : a ≠ dw
  al : a ≠ dl
  fw : H0 dw = none
  fl : H0 dl = none
structure WS (C : Addr) (H0 H : Hp) (p a dw dl : Addr) (n : Nat) (kw kl : Kvs) : Prop where
  w : WAt C H a dw n kw
  l : H dl = some (.dT kl)
  pl : Pool H p
  old : ∀ b o, b ≠ p → H0 b = some o → H b = some o
section
variable {C : Addr} {H0 H H' : Hp} {p a dw dl : Addr} {n : Nat} {kw kl k2 : Kvs}
theorem WS.same (h : WS C H0 H p a dw dl n kw kl) (s : Same H H') : WS C H0 H' p a dw dl n kw kl := ⟨h.w.same s, s _ _ h.l, h.pl.same s, fun b o n e => s _ _ (h.old b o n e)⟩
theorem WS.off (h : WS C H0 H p a dw dl n kw kl) (d : Apart H0 p a dw dl) (o : Off p H H') (q : Pool H' p) : WS C H0 H' p a dw dl n kw kl :=
  ⟨⟨let ⟨dx, e⟩ := h.w.1; ⟨dx, o _ _ d.ap e⟩, o _ _ d.wp h.w.2⟩, o _ _ d.lp h.l, q, fun b u n e => o _ _ n (h.old b u n e)⟩
theorem WS.putW (h : WS C H0 H p a dw dl n kw kl) (d : Apart H0 p a dw dl) (o : Off dw H H') (g : H' dw = some (.dT k2)) : WS C H0 H' p a dw dl n k2 kl :=
  ⟨⟨let ⟨dx, e⟩ := h.w.1; ⟨dx, o _ _ d.aw e⟩, g⟩, o _ _ d.lw h.l, let ⟨c, m, e, r⟩ := h.pl; ⟨c, m, o _ _ d.wp.symm e, r⟩, fun b u n e => o _ _ (ne_of_none e d.fw) (h.old b u n e)⟩
theorem WS.putL (h : WS C H0 H p a dw dl n kw kl) (d : Apart H0 p a dw dl) : WS C H0 (upd H dl (.dT k2)) p a dw dl n kw k2 :=
  ⟨⟨let ⟨dx, e⟩ := h.w.1; ⟨dx, by rw [upd_ne d.al]; exact e⟩, by rw [upd_ne d.lw.symm]; exact h.w.2⟩, upd_same, let ⟨c, m, e, r⟩ := h.pl; ⟨c, m, by rw [upd_ne d.lp.symm]; exact e, r⟩,
    fun b u n e => by rw [upd_ne (ne_of_none e d.fl)]; exact h.old b u n e⟩
end
theorem putK_le (kvs : Kvs) (k : List Key) (v : V) : (putK kvs k v).length ≤ kvs.length + 1 := by
  unfold putK
  split <;> simp
theorem deed_at : ∀ i : Nat, i < 6 → ∃ c, (Str.ofString "abcdef").cps.toList[i]? = some c ∧ Deed c := by
  have h : ∀ i : Nat, i < 6 → ∃ c ∈ sgns, (Str.ofString "abcdef").cps.toList[i]? = some c ∧ 97 ≤ c := by decide +kernel
  intro i hi
  obtain ⟨c, h1, h2, h3⟩ := h i hi
  exact ⟨c, h2, h1, h3⟩
theorem WS.offN {C : Addr} {H0 H H' : Hp} {p a dw dl : Addr} {n : Nat} {kw kl : Kvs} (h : WS C H0 H p a dw dl n kw kl) (d : a ≠ p ∧ dw ≠ p ∧ dl ≠ p) (o : Off p H H') (q : Pool H' p) : WS C H0 H' p a dw dl n kw kl :=
  ⟨⟨let ⟨dx, e⟩ := h.w.1; ⟨dx, o _ _ d.1 e⟩, o _ _ d.2.1 h.w.2⟩, o _ _ d.2.2 h.l, q, fun b u n e => o _ _ n (h.old b u n e)⟩
/-! ### what is due -/
def optD : Option Int → PyData
  | some i => .int i
  | none => .none
theorem eqv_optD : ∀ xs ys : List (Option Int), PyData.eqvAll (xs.map optD) (ys.map optD) = decide (xs = ys)
  | [], [] => by simp [PyData.eqvAll]
  | [], _ :: _ => by simp [PyData.eqvAll]
  | _ :: _, [] => by simp [PyData.eqvAll]
  | x :: xs, y :: ys => by
    rw [List.map_cons, List.map_cons, PyData.eqvAll, eqv_optD xs ys]
    have e : PyData.eqv (optD x) (optD y) = decide (x = y) := by
      cases x <;> cases y <;> simp [optD, PyData.eqv, eqv_int]
    rw [e]
    by_cases h1 : x = y
    · by_cases h2 : xs = ys
      · simp [h1, h2]
      · simp [h1, h2]
    · simp [h1]
def dueW (kvs : Kvs) (l : List Nat) (n : Nat) : List (Option Int) := (List.range n).map fun (t : Nat) => ledW kvs l (some (t : Int))
theorem due_eq (kvs : Kvs) (l m : List Nat) (n : Nat) : PyData.eqv (.list ((dueW kvs l n).map optD)) (.list ((dueW kvs m n).map optD)) = decide (pairsW kvs l n = pairsW kvs m n) := by
  rw [PyData.eqv, eqv_optD]
  refine decide_eq_decide.mpr ?_
  unfold dueW pairsW
  rw [pairs_eq, List.map_inj_left]
  exact ⟨fun h t ht => h t (List.mem_range.mpr ht), fun h t ht => h t (List.mem_range.mp ht)⟩
theorem dp_due {K : PySem.W.Frag} {H : Hp} : ∀ xs : List (Option Int), DpAll K H (xs.map optV) (xs.map optD)
  | [] => .nil
  | none :: xs => .cons .non (dp_due xs)
  | some i :: xs => .cons (.int i) (dp_due xs)
theorem shaped_due (xs : List (Option Int)) : SeqAt.shaped (.list (xs.map optD)) = true := by
  have h1 : ∀ xs : List (Option Int), PyData.canLayAll0 (xs.map optD) = true := by
    intro xs
    induction xs with
    | nil => rfl
    | cons x xs ih => cases x <;> simp [PyData.canLayAll0, PyData.canLay0, optD, ih]
  have h2 : ∀ xs : List (Option Int), PyData.depthAll (xs.map optD) = 0 := by
    intro xs
    induction xs with
    | nil => rfl
    | cons x xs ih => cases x <;> simp [PyData.depthAll, PyData.depth, optD, ih]
  simp [SeqAt.shaped, PyData.canLay0, h1, PyData.depth, h2]
theorem due_succ (kvs : Kvs) (l : List Nat) (i : Nat) : (dueW kvs l (i + 1)).map optV = (dueW kvs l i).map optV ++ [optV (ledW kvs l (some (i : Int)))] := by
  unfold dueW
  rw [List.range_succ, List.map_append, List.map_append]
  rfl
theorem due_len (kvs : Kvs) (l : List Nat) (i : Nat) : (dueW kvs l i).length = i := by simp [dueW]
theorem pairs_loop {kvs : Kvs} {n m : Nat} (w : Ways kvs m) (u v : List Nat) : pairsW kvs (((u ++ RowM.turn u) ++ u) ++ v) n = pairsW kvs (u ++ v) n := by
  unfold pairsW
  exact (pairs_eq n).mpr fun t _ => ledW_loop w u v _
theorem S_inj {l m : List Nat} (h : V.str (S l) = .str (S m)) : l = m := by
  injection h with h
  have := congrArg (fun z : Str => z.cps.toList) h
  simpa using this
theorem WS.mutN {C : Addr} {H0 H : Hp} {p a dw dl R : Addr} {n : Nat} {kw kl : Kvs} {o : HO} (h : WS C H0 H p a dw dl n kw kl) (n1 : a ≠ R) (n2 : dw ≠ R) (n3 : dl ≠ R) (n4 : p ≠ R) (f : H0 R = none) : WS C H0 (upd H R o) p a dw dl n kw kl :=
  ⟨⟨let ⟨dx, e⟩ := h.w.1; ⟨dx, by rw [upd_ne n1]; exact e⟩, by rw [upd_ne n2]; exact h.w.2⟩, by rw [upd_ne n3]; exact h.l, let ⟨c, m, e, r⟩ := h.pl; ⟨c, m, by rw [upd_ne n4]; exact e, r⟩,
    fun b u nb e => by rw [upd_ne (ne_of_none e f)]; exact h.old b u nb e⟩
/-! ### lists of pairs -/
theorem TP.len {H : Hp} {ts : List Addr} {ps : List (Int × Int)} (h : TP H ts ps) : ts.length = ps.length := by
  induction h with
  | nil => rfl
  | snoc _ _ ih => simp [ih]
theorem TP.get {H : Hp} {ts : List Addr} {ps : List (Int × Int)} (h : TP H ts ps) : ∀ (i : Nat) (t : Addr), ts[i]? = some t → ∃ p, ps[i]? = some p ∧ H t = some (.tup [.int p.1, .int p.2]) := by
  induction h with
  | nil => intro i t h; simp at h
  | @snoc ts ps u p h e ih =>
    intro i t hi
    have hl := h.len
    by_cases q : i < ts.length
    · rw [List.getElem?_append_left q] at hi
      rw [List.getElem?_append_left (by omega)]
      exact ih i t hi
    · have il : i < ts.length + 1 := by
        have := (List.getElem?_eq_some_iff.mp hi).1
        simpa using this
      have ei : i = ts.length := by omega
      subst ei
      rw [List.getElem?_append_right (Nat.le_refl _), Nat.sub_self] at hi
      injection hi with hi
      subst hi
      exact ⟨p, by rw [List.getElem?_append_right (by omega), hl]; simp, e⟩
theorem TP.mono {H H' : Hp} {ts : List Addr} {ps : List (Int × Int)} (h : TP H ts ps) (s : Same H H') : TP H' ts ps := h.same fun b xs e => s b _ e
/-- one pair more -/
theorem tp_more {H : Hp} {D u : Addr} {us : List Addr} {ps : List (Int × Int)} {p : Int × Int} (hD : H D = some (.lst (us.map V.ref))) (tp : TP H us ps) (hu : H u = none) :
    (upd (upd H u (.tup [.int p.1, .int p.2])) D (.lst (us.map V.ref ++ [.ref u]))) D = some (.lst ((us ++ [u]).map V.ref)) ∧ TP (upd (upd H u (.tup [.int p.1, .int p.2])) D (.lst (us.map V.ref ++ [.ref u]))) (us ++ [u]) (ps ++ [p]) := by
  have nD : D ≠ u := ne_of_none hD hu
  refine ⟨by rw [upd_same, List.map_append]; rfl, .snoc (tp.same fun b xs hb => ?_) ?_⟩
  · rw [upd_ne (fun e => by rw [e, hD] at hb; cases hb), upd_ne (ne_of_none hb hu)]
    exact hb
  · rw [upd_ne nD.symm]
    exact upd_same
theorem same_more {H1 H : Hp} {D u : Addr} {o o' : HO} (s : Same H1 H) (nD : H1 D = none) (hu : H u = none) : Same H1 (upd (upd H u o) D o') := fun b x hb => by
  have := s _ _ hb
  rw [upd_ne (ne_of_none hb nD), upd_ne (ne_of_none this hu)]
  exact this
theorem take_more {α β : Type} {ps : List α} {i : Nat} {p : α} (f : α → Option β) (h : ps[i]? = some p) : (ps.take (i + 1)).filterMap f = (ps.take i).filterMap f ++ (f p).toList := by
  rw [List.take_add_one, h, List.filterMap_append]
  cases e : f p <;> simp [e]
/-- sorted pairs -/
def leP (p q : Int × Int) : Bool := decide (p.1 < q.1 ∨ (p.1 = q.1 ∧ p.2 ≤ q.2))
def pDat (c : Addr × (Int × Int)) : V × PyData := (.ref c.1, .tuple [.int c.2.1, .int c.2.2])
theorem le_pDat (c d : Addr × (Int × Int)) : PySem.W.dataLe false (fun b : V × PyData => b.2) (pDat c) (pDat d) = leP c.2 d.2 := by
  have := congrFun (congrFun (PySem.W.dataLe_ii (β := Addr × (Int × Int)) (fun c => c.2.1) (fun c => c.2.2)) c) d
  exact this
theorem zip_fst : ∀ (us : List Addr) (ps : List (Int × Int)), us.length = ps.length → ((us.zip ps).map pDat).map (·.1) = us.map V.ref
  | [], [], _ => rfl
  | [], _ :: _, h => by simp at h
  | _ :: _, [], h => by simp at h
  | u :: us, p :: ps, h => by
    simp only [List.zip_cons_cons, List.map_cons, zip_fst us ps (by simpa using h)]
    rfl
theorem zip_snd : ∀ (us : List Addr) (ps : List (Int × Int)), us.length = ps.length → (us.zip ps).map (·.2) = ps
  | [], [], _ => rfl
  | [], _ :: _, h => by simp at h
  | _ :: _, [], h => by simp at h
  | u :: us, p :: ps, h => by
    simp only [List.zip_cons_cons, List.map_cons, zip_snd us ps (by simpa using h)]
theorem dpall_of {K : PySem.W.Frag} {H : Hp} : ∀ {bs : List (V × PyData)}, (∀ b ∈ bs, Dp K H b.1 b.2) → DpAll K H (bs.map (·.1)) (bs.map (·.2))
  | [], _ => .nil
  | b :: bs, h => .cons (h b List.mem_cons_self) (dpall_of fun c hc => h c (List.mem_cons_of_mem _ hc))
theorem sort_pD {us : List Addr} {ps : List (Int × Int)} (h : us.length = ps.length) : (((us.zip ps).map pDat).mergeSort (PySem.W.dataLe false (·.2))).map (·.2) = pD (ps.mergeSort leP) := by
  have e1 : (((us.zip ps).mergeSort fun c d => leP c.2 d.2).map pDat) = ((us.zip ps).map pDat).mergeSort (PySem.W.dataLe false (·.2)) := List.map_mergeSort fun a _ b _ => (le_pDat a b).symm
  have e2 : (((us.zip ps).mergeSort fun c d => leP c.2 d.2).map (·.2)) = ((us.zip ps).map (·.2)).mergeSort leP := List.map_mergeSort fun a _ b _ => rfl
  rw [zip_snd us ps h] at e2
  rw [← e1, List.map_map, ← e2]
  unfold pD
  rw [List.map_map]
  rfl
theorem pDat_dp {K : PySem.W.Frag} {H : Hp} {us : List Addr} {ps : List (Int × Int)} (tp : TP H us ps) : ∀ b ∈ (us.zip ps).map pDat, Dp K H b.1 b.2 := by
  intro b hb
  obtain ⟨c, hc, rfl⟩ := List.mem_map.mp hb
  obtain ⟨i, hi⟩ := List.mem_iff_getElem?.mp hc
  obtain ⟨t, p⟩ := c
  rw [List.getElem?_zip_eq_some] at hi
  obtain ⟨q, hq, e⟩ := tp.get i t hi.1
  rw [hi.2] at hq
  injection hq with hq
  subst hq
  exact .tup (Evl.st_of e) (.cons (.int _) (.cons (.int _) .nil))
theorem pDat_alike (cs : List (Addr × (Int × Int))) : PySem.W.AllAlike ((cs.map pDat).map (·.2)) := fun d hd d' hd' => by
  simp only [List.map_map, List.mem_map, Function.comp] at hd hd'
  obtain ⟨c, _, rfl⟩ := hd
  obtain ⟨c', _, rfl⟩ := hd'
  simp [pDat, PySem.W.alike, PySem.W.alikeAll]
theorem pDat_sortable (cs : List (Addr × (Int × Int))) : PySem.W.Sortable ((cs.map pDat).map (·.2)) := .inl fun d hd => by
  simp only [List.map_map, List.mem_map, Function.comp] at hd
  obtain ⟨c, _, rfl⟩ := hd
  exact ⟨_, _, rfl⟩
theorem pDat_depth (cs : List (Addr × (Int × Int))) : ∀ b ∈ cs.map pDat, b.2.depth ≤ 50 := fun b hb => by
  obtain ⟨c, _, rfl⟩ := List.mem_map.mp hb
  simp [pDat, PyData.depth, PyData.depthAll]
/-! ### pairs of a row and of its contrary -/
theorem mem_pairsW {kvs : Kvs} {l : List Nat} {n : Nat} {p : Int × Int} : p ∈ pairsW kvs l n ↔ 0 ≤ p.1 ∧ p.1 < n ∧ ledW kvs l (some p.1) = some p.2 := by
  unfold pairsW
  rw [List.mem_filterMap]
  constructor
  · rintro ⟨t, ht, e⟩
    obtain ⟨s, hs, rfl⟩ := Option.map_eq_some_iff.mp e
    have := List.mem_range.mp ht
    exact ⟨by omega, by show (t : Int) < n; omega, hs⟩
  · rintro ⟨h0, h1, h2⟩
    refine ⟨p.1.toNat, List.mem_range.mpr (by omega), ?_⟩
    have e : ((p.1.toNat : Nat) : Int) = p.1 := by omega
    rw [e, h2]
    rfl
theorem pairs_pairwise (kvs : Kvs) (l : List Nat) : ∀ n : Nat, (pairsW kvs l n).Pairwise fun p q => p.1 < q.1
  | 0 => .nil
  | n + 1 => by
    have e : pairsW kvs l (n + 1) = pairsW kvs l n ++ ((ledW kvs l (some (n : Int))).map fun s => ((n : Int), s)).toList := by
      unfold pairsW
      rw [List.range_succ, List.filterMap_append]
      cases e : ledW kvs l (some (n : Int)) <;> simp [e]
    rw [e, List.pairwise_append]
    refine ⟨pairs_pairwise kvs l n, ?_, fun p hp q hq => ?_⟩
    · cases ledW kvs l (some (n : Int)) <;> simp
    · have h1 := (mem_pairsW.mp hp).2.1
      cases e2 : ledW kvs l (some (n : Int)) with
      | none => rw [e2] at hq; simp at hq
      | some s =>
        rw [e2] at hq
        simp at hq
        rw [hq]
        exact h1
theorem nodup_of_lt {ps : List (Int × Int)} (h : ps.Pairwise fun p q => p.1 < q.1) : ps.Nodup := h.imp fun {p q} h e => by rw [e] at h; omega
theorem leP_of_lt {ps : List (Int × Int)} (h : ps.Pairwise fun p q => p.1 < q.1) : ps.Pairwise fun p q => leP p q = true := h.imp fun {p q} h => decide_eq_true (.inl h)
theorem leP_trans (a b c : Int × Int) (h1 : leP a b = true) (h2 : leP b c = true) : leP a c = true := by
  unfold leP at *
  rw [decide_eq_true_iff] at *
  omega
theorem leP_total (a b : Int × Int) : (leP a b || leP b a) = true := by
  unfold leP
  rw [Bool.or_eq_true, decide_eq_true_iff, decide_eq_true_iff]
  omega
theorem leP_anti (a b : Int × Int) (h1 : leP a b = true) (h2 : leP b a = true) : a = b := by
  unfold leP at *
  rw [decide_eq_true_iff] at *
  exact Prod.ext (by omega) (by omega)
def swp (p : Int × Int) : Int × Int := (p.2, p.1)
theorem back_sorted {kvs : Kvs} {n : Nat} (w : Ways kvs n) {l : List Nat} (hl : Row l) : ((pairsW kvs l n).map swp).mergeSort leP = pairsW kvs (RowM.turn l) n := by
  have nd1 : ((pairsW kvs l n).map swp).Nodup := by
    refine List.pairwise_map.mpr ((nodup_of_lt (pairs_pairwise kvs l n)).imp fun {a b} ne e => ne ?_)
    unfold swp at e
    injection e with e1 e2
    exact Prod.ext e2 e1
  have nd2 := nodup_of_lt (pairs_pairwise kvs (RowM.turn l) n)
  have pm : ((pairsW kvs l n).map swp).Perm (pairsW kvs (RowM.turn l) n) := by
    refine (List.perm_ext_iff_of_nodup nd1 nd2).mpr fun p => ?_
    rw [List.mem_map]
    constructor
    · rintro ⟨q, hq, rfl⟩
      obtain ⟨h0, h1, h2⟩ := mem_pairsW.mp hq
      have r := ledW_range w l q.1 q.2 h0 h1 h2
      exact mem_pairsW.mpr ⟨r.1, r.2, ledW_back w l _ _ h2⟩
    · intro hp
      obtain ⟨h0, h1, h2⟩ := mem_pairsW.mp hp
      have r := ledW_range w _ p.1 p.2 h0 h1 h2
      have b := ledW_back w _ _ _ h2
      rw [RowM.turn_turn hl] at b
      exact ⟨(p.2, p.1), mem_pairsW.mpr ⟨r.1, r.2, b⟩, rfl⟩
  refine List.Perm.eq_of_pairwise (le := fun a b => leP a b = true) (fun a b _ _ h1 h2 => leP_anti a b h1 h2) (List.pairwise_mergeSort (by exact leP_trans) (by exact leP_total) _) (leP_of_lt (pairs_pairwise kvs _ n)) ((List.mergeSort_perm _ _).trans pm)
theorem lasts_nodup {kvs : Kvs} {n : Nat} (w : Ways kvs n) (l : List Nat) : ((pairsW kvs l n).map (·.2)).Nodup := by
  have h := pairs_pairwise kvs l n
  have h2 : (pairsW kvs l n).Pairwise fun p q => p.2 ≠ q.2 := by
    refine List.Pairwise.imp_of_mem (fun {p q} hp hq lt e => ?_) h
    have a := ledW_back w l _ _ (mem_pairsW.mp hp).2.2
    have b := ledW_back w l _ _ (mem_pairsW.mp hq).2.2
    rw [e, b] at a
    injection a with a
    omega
  exact List.pairwise_map.mpr h2
theorem look_led {kvs : Kvs} {n : Nat} (w : Ways kvs n) (l : List Nat) (i : Int) : ledW kvs (l ++ RowM.turn l) (some i) = (ledW kvs l (some i)).map fun _ => i := by
  rw [ledW_app]
  cases e : ledW kvs l (some i) with
  | none => rw [ledW_none]; rfl
  | some j => rw [ledW_back w l i j e]; rfl
theorem look_pairs {kvs : Kvs} {n : Nat} (w : Ways kvs n) (l : List Nat) : pairsW kvs (l ++ RowM.turn l) n = (pairsW kvs l n).map fun p => (p.1, p.1) := by
  unfold pairsW
  rw [List.map_filterMap]
  congr 1
  funext t
  rw [look_led w]
  cases ledW kvs l (some (t : Int)) <;> rfl
theorem looks_swap {kvs : Kvs} {n m : Nat} (w : Ways kvs m) (l k : List Nat) : pairsW kvs ((l ++ RowM.turn l) ++ (k ++ RowM.turn k)) n = pairsW kvs ((k ++ RowM.turn k) ++ (l ++ RowM.turn l)) n := by
  unfold pairsW
  refine (pairs_eq n).mpr fun t _ => ?_
  rw [ledW_app, ledW_app kvs (k ++ RowM.turn k), look_led w, look_led w]
  cases e1 : ledW kvs l (some (t : Int)) with
  | none =>
    cases e2 : ledW kvs k (some (t : Int)) with
    | none => rw [Option.map_none, ledW_none, ledW_none]
    | some j => rw [Option.map_none, Option.map_some, ledW_none, look_led w, e1]; rfl
  | some i =>
    cases e2 : ledW kvs k (some (t : Int)) with
    | none => rw [Option.map_none, Option.map_some, ledW_none, look_led w, e2]; rfl
    | some j => rw [Option.map_some, Option.map_some, look_led w, look_led w, e1, e2]; rfl
/-- what the second row does behind the first -/
theorem behind_pairs {kvs : Kvs} {n : Nat} (w : Ways kvs n) (l k : List Nat) : pairsW kvs (l ++ k) n = (pairsW kvs l n).filterMap fun p => (ledW kvs k (some p.2)).map fun s => (p.1, s) := by
  unfold pairsW
  rw [List.filterMap_filterMap]
  congr 1
  funext t
  rw [ledW_app]
  cases e : ledW kvs l (some (t : Int)) with
  | none => rw [ledW_none]; rfl
  | some j => rfl
/-- the dict of pairs -/
def kvI (ps : List (Int × Int)) : List (Key × V) := ps.map fun p => (Sum.inl p.1, .int p.2)
theorem merge_kvI : ∀ (ps qs : List (Int × Int)), (qs ++ ps).Pairwise (fun p q => p.1 < q.1) → mergeK (kvI qs) (kvI ps) = kvI (qs ++ ps)
  | [], qs, _ => by simp [kvI, mergeK]
  | p :: ps, qs, h => by
    have e : putK (kvI qs) (Sum.inl p.1) (V.int p.2) = kvI (qs ++ [p]) := by
      rw [putK_new]
      · simp [kvI]
      · unfold valV kvI
        rw [List.find?_map]
        have : qs.find? ((fun kv : Key × V => decide (kv.1 = Sum.inl p.1)) ∘ fun p : Int × Int => ((Sum.inl p.1 : Key), V.int p.2)) = none := by
          rw [List.find?_eq_none]
          intro q hq
          have lt := (List.pairwise_append.mp h).2.2 q hq p List.mem_cons_self
          simp only [Function.comp, decide_eq_true_eq]
          intro e
          injection e with e
          omega
        rw [this]
        rfl
    have ih := merge_kvI ps (qs ++ [p]) (by rw [List.append_assoc]; exact h)
    have e2 : mergeK (kvI qs) (kvI (p :: ps)) = mergeK (putK (kvI qs) (Sum.inl p.1) (V.int p.2)) (kvI ps) := rfl
    rw [e2, e, ih, List.append_assoc]
    rfl
theorem val_kvI {kvs : Kvs} {n : Nat} {k : List Nat} (i : Int) (h0 : 0 ≤ i) (h1 : i < n) : valV (kvI (pairsW kvs k n)) (Sum.inl i) = (ledW kvs k (some i)).map V.int := by
  unfold valV kvI
  rw [List.find?_map, Option.map_map]
  have pw := pairs_pairwise kvs k n
  cases e : ledW kvs k (some i) with
  | none =>
    have : (pairsW kvs k n).find? ((fun kv : Key × V => decide (kv.1 = Sum.inl i)) ∘ fun p : Int × Int => ((Sum.inl p.1 : Key), V.int p.2)) = none := by
      rw [List.find?_eq_none]
      intro q hq
      simp only [Function.comp, decide_eq_true_eq]
      intro z
      injection z with z
      have := (mem_pairsW.mp hq).2.2
      rw [z, e] at this
      cases this
    rw [this]
    rfl
  | some s =>
    have hm : ((i, s) : Int × Int) ∈ pairsW kvs k n := mem_pairsW.mpr ⟨h0, h1, e⟩
    cases f : (pairsW kvs k n).find? ((fun kv : Key × V => decide (kv.1 = Sum.inl i)) ∘ fun p : Int × Int => ((Sum.inl p.1 : Key), V.int p.2)) with
    | none =>
      rw [List.find?_eq_none] at f
      have := f _ hm
      simp at this
    | some q =>
      have hq := List.mem_of_find?_eq_some f
      have z := List.find?_some f
      simp only [Function.comp, decide_eq_true_eq] at z
      injection z with z
      have := (mem_pairsW.mp hq).2.2
      rw [z, e] at this
      injection this with this
      simp [this]
theorem eqv_pairs (ps qs : List (Int × Int)) : PyData.eqv (.list (pD ps)) (.list (pD qs)) = decide (ps = qs) := by
  rw [← eqv_pD]
  simp [PyData.eqv]
theorem paired_of {K : PySem.W.Frag} {H : Hp} : ∀ (us : List Addr) (ps : List (Int × Int)), us.length = ps.length → (∀ (i : Nat) (t : Addr), us[i]? = some t → ∃ p, ps[i]? = some p ∧ H t = some (.tup [.int p.1, .int p.2])) → Paired (fun p (kv : Key × V) => SqT K H p [kV kv.1, kv.2]) us (kvI ps)
  | [], [], _, _ => .nil
  | [], _ :: _, h, _ => by simp at h
  | _ :: _, [], h, _ => by simp at h
  | u :: us, p :: ps, h, g => by
    refine .cons ?_ (paired_of us ps (by simpa using h) fun i t hi => g (i + 1) t hi)
    obtain ⟨q, hq, e⟩ := g 0 u rfl
    injection hq with hq
    subst hq
    exact SqT.of e
theorem isR {r : List Nat} (h : Row r) (z : r.length ≤ 60) : isRow r = true := isRow_iff.mpr ⟨z, h⟩
theorem pairs_nil (kvs : Kvs) (n : Nat) : pairsW kvs [] n = (List.range n).map fun (t : Nat) => ((t : Int), (t : Int)) := by
  unfold pairsW
  induction List.range n with
  | nil => rfl
  | cons a l ih => rw [List.filterMap_cons, ih]; rfl
/-! ### lists of tuples of flat things -/
structure TL {α : Type} (H : Hp) (val : α → List V) (ts : List Addr) (xs : List α) : Prop where
  len : ts.length = xs.length
  get : ∀ (i : Nat) (t : Addr), ts[i]? = some t → ∃ x, xs[i]? = some x ∧ H t = some (.tup (val x))
section
variable {α : Type} {val : α → List V} {H H' : Hp} {ts : List Addr} {xs : List α}
theorem TL.nil : TL H val [] [] := ⟨rfl, fun i t h => by simp at h⟩
theorem TL.mono (h : TL H val ts xs) (s : Same H H') : TL H' val ts xs := ⟨h.len, fun i t hi => let ⟨x, a, b⟩ := h.get i t hi; ⟨x, a, s _ _ b⟩⟩
/-- one tuple more -/
theorem TL.more {D u : Addr} {x : α} (hD : H D = some (.lst (ts.map V.ref))) (tl : TL H val ts xs) (hu : H u = none) :
    (upd (upd H u (.tup (val x))) D (.lst (ts.map V.ref ++ [.ref u]))) D = some (.lst ((ts ++ [u]).map V.ref)) ∧ TL (upd (upd H u (.tup (val x))) D (.lst (ts.map V.ref ++ [.ref u]))) val (ts ++ [u]) (xs ++ [x]) := by
  have nD : D ≠ u := ne_of_none hD hu
  refine ⟨by rw [upd_same, List.map_append]; rfl, by simp [tl.len], fun i t hi => ?_⟩
  have hl := tl.len
  by_cases q : i < ts.length
  · rw [List.getElem?_append_left q] at hi
    rw [List.getElem?_append_left (by omega)]
    obtain ⟨y, h1, h2⟩ := tl.get i t hi
    refine ⟨y, h1, ?_⟩
    rw [upd_ne (fun e => by rw [e, hD] at h2; cases h2), upd_ne (ne_of_none h2 hu)]
    exact h2
  · have il : i < ts.length + 1 := by
      have := (List.getElem?_eq_some_iff.mp hi).1
      simpa using this
    have ei : i = ts.length := by omega
    subst ei
    rw [List.getElem?_append_right (Nat.le_refl _), Nat.sub_self] at hi
    injection hi with hi
    subst hi
    refine ⟨x, by rw [List.getElem?_append_right (by omega), hl]; simp, ?_⟩
    rw [upd_ne nD.symm]
    exact upd_same
theorem TL.mem (h : TL H val ts xs) {t : Addr} {x : α} (m : (t, x) ∈ ts.zip xs) : H t = some (.tup (val x)) := by
  obtain ⟨i, hi⟩ := List.mem_iff_getElem?.mp m
  rw [List.getElem?_zip_eq_some] at hi
  obtain ⟨y, hy, e⟩ := h.get i t hi.1
  rw [hi.2] at hy
  injection hy with hy
  subst hy
  exact e
end
theorem samE_more {H1 H : Hp} {D u : Addr} {o o' : HO} (s : Same H1 H) (nD : H1 D = none) (hu : H u = none) : Same H1 (upd (upd H u o) D o') := fun b x hb => by
  have := s _ _ hb
  rw [upd_ne (ne_of_none hb nD), upd_ne (ne_of_none this hu)]
  exact this
/-- a flat thing as data -/
def flD : V → PyData
  | .int i => .int i
  | .str s => .str s
  | .bl b => .bool b
  | _ => .none
def FlV : V → Prop
  | .int _ => True
  | .str _ => True
  | .bl _ => True
  | .non => True
  | _ => False
theorem FlV.dp {K : PySem.W.Frag} {H : Hp} : ∀ {v : V}, FlV v → Dp K H v (flD v)
  | .int _, _ => .int _
  | .str _, _ => .str _
  | .bl _, _ => .bl _
  | .non, _ => .non
theorem fl_dpall {K : PySem.W.Frag} {H : Hp} : ∀ {vs : List V}, (∀ v ∈ vs, FlV v) → DpAll K H vs (vs.map flD)
  | [], _ => .nil
  | v :: vs, h => .cons (FlV.dp (h v List.mem_cons_self)) (fl_dpall fun u hu => h u (List.mem_cons_of_mem _ hu))
def tupD {α : Type} (val : α → List V) (x : α) : PyData := .tuple ((val x).map flD)
theorem zip_fst' {β γ : Type} : ∀ (us : List β) (ps : List γ), us.length = ps.length → (us.zip ps).map (·.1) = us
  | [], [], _ => rfl
  | [], _ :: _, h => by simp at h
  | _ :: _, [], h => by simp at h
  | u :: us, p :: ps, h => by simp only [List.zip_cons_cons, List.map_cons, zip_fst' us ps (by simpa using h)]
theorem zip_snd' {β γ : Type} : ∀ (us : List β) (ps : List γ), us.length = ps.length → (us.zip ps).map (·.2) = ps
  | [], [], _ => rfl
  | [], _ :: _, h => by simp at h
  | _ :: _, [], h => by simp at h
  | u :: us, p :: ps, h => by simp only [List.zip_cons_cons, List.map_cons, zip_snd' us ps (by simpa using h)]
theorem dpall_pairs {K : PySem.W.Frag} {H : Hp} : ∀ {bs : List (V × PyData)}, (∀ b ∈ bs, Dp K H b.1 b.2) → DpAll K H (bs.map (·.1)) (bs.map (·.2))
  | [], _ => .nil
  | b :: bs, h => .cons (h b List.mem_cons_self) (dpall_pairs fun c hc => h c (List.mem_cons_of_mem _ hc))
section
variable {α : Type} {val : α → List V} {K : PySem.W.Frag} {H H' : Hp} {ts : List Addr} {xs : List α}
def itm (val : α → List V) (c : Addr × α) : V × PyData := (.ref c.1, tupD val c.2)
theorem TL.dp1 (h : TL H val ts xs) (fl : ∀ x, ∀ v ∈ val x, FlV v) : ∀ b ∈ (ts.zip xs).map (itm val), Dp K H b.1 b.2 := fun b hb => by
  obtain ⟨c, hc, rfl⟩ := List.mem_map.mp hb
  exact .tup (Evl.st_of (h.mem hc)) (fl_dpall (fl c.2))
theorem itm_fst (h : ts.length = xs.length) : ((ts.zip xs).map (itm val)).map (·.1) = ts.map V.ref := by
  rw [List.map_map]
  have : ((·.1) ∘ itm val : Addr × α → V) = V.ref ∘ (·.1) := rfl
  rw [this, ← List.map_map, zip_fst' _ _ h]
theorem itm_snd (h : ts.length = xs.length) : ((ts.zip xs).map (itm val)).map (·.2) = xs.map (tupD val) := by
  rw [List.map_map]
  have : ((·.2) ∘ itm val : Addr × α → PyData) = tupD val ∘ (·.2) := rfl
  rw [this, ← List.map_map, zip_snd' _ _ h]
theorem TL.dp (h : TL H val ts xs) (fl : ∀ x, ∀ v ∈ val x, FlV v) : DpAll K H (ts.map V.ref) (xs.map (tupD val)) := by
  have := dpall_pairs (K := K) (h.dp1 fl)
  rwa [itm_fst h.len, itm_snd h.len] at this
/-- the order in which such tuples are sorted -/
def leT (val : α → List V) : α → α → Bool := PySem.W.dataLe false (tupD val)
def sortT (val : α → List V) (xs : List α) : List α := xs.mergeSort (leT val)
theorem TL.sorted (h : TL H val ts xs) : ∃ us : List Addr, (((ts.zip xs).map (itm val)).mergeSort (PySem.W.dataLe false (·.2))).map (·.1) = us.map V.ref ∧ TL H val us (sortT val xs) := by
  have e1 : (((ts.zip xs).mergeSort fun c d => leT val c.2 d.2).map (itm val)) = ((ts.zip xs).map (itm val)).mergeSort (PySem.W.dataLe false (·.2)) := List.map_mergeSort fun a _ b _ => rfl
  have e2 : (((ts.zip xs).mergeSort fun c d => leT val c.2 d.2).map (·.2)) = ((ts.zip xs).map (·.2)).mergeSort (leT val) := List.map_mergeSort fun a _ b _ => rfl
  rw [zip_snd' _ _ h.len] at e2
  refine ⟨((ts.zip xs).mergeSort fun c d => leT val c.2 d.2).map (·.1), by rw [← e1, List.map_map, List.map_map]; rfl, ?_, fun i t hi => ?_⟩
  · unfold sortT
    rw [← e2, List.length_map, List.length_map]
  · rw [List.getElem?_map] at hi
    obtain ⟨c, hc, rfl⟩ := Option.map_eq_some_iff.mp hi
    refine ⟨c.2, ?_, h.mem (t := c.1) (x := c.2) (List.mem_mergeSort.mp (List.mem_of_getElem? hc))⟩
    unfold sortT
    rw [← e2, List.getElem?_map, hc]
    rfl
end
/-! ### what is laid -/
def v3 (x : Nat × Int × Int) : List V := [.str (S [x.1]), .int x.2.1, .int x.2.2]
theorem v3_fl : ∀ x, ∀ v ∈ v3 x, FlV v := fun x v h => by
  simp only [v3, List.mem_cons, List.not_mem_nil, or_false] at h
  rcases h with rfl | rfl | rfl <;> trivial
theorem alike_v3 (x y : Nat × Int × Int) : PySem.W.alike (tupD v3 x) (tupD v3 y) = true := by simp [tupD, v3, flD, PySem.W.alike, PySem.W.alikeAll]
theorem depth_v3 (x : Nat × Int × Int) : (tupD v3 x).depth ≤ 50 := by simp [tupD, v3, flD, PyData.depth, PyData.depthAll]
theorem allAlike_v3 (cs : List (Addr × (Nat × Int × Int))) : PySem.W.AllAlike ((cs.map (itm v3)).map (·.2)) := fun d hd d' hd' => by
  simp only [List.map_map, List.mem_map, Function.comp] at hd hd'
  obtain ⟨c, _, rfl⟩ := hd
  obtain ⟨c', _, rfl⟩ := hd'
  exact alike_v3 _ _
theorem sortable_v3 (cs : List (Addr × (Nat × Int × Int))) : PySem.W.Sortable ((cs.map (itm v3)).map (·.2)) := .inl fun d hd => by
  simp only [List.map_map, List.mem_map, Function.comp] at hd
  obtain ⟨c, _, rfl⟩ := hd
  exact ⟨_, _, rfl⟩
/-- the deed and the thing that a key names -/
def kyOf : List Key → Nat × Int
  | [.inr s, .inl i] => (s.cps.toList.headD 0, i)
  | _ => (0, 0)
theorem kyOf_ky (c : Nat) (i : Int) : kyOf (ky c i) = (c, i) := rfl
def valI (kvs : Kvs) (k : List Key) : Int := match valV kvs k with
  | some (.int j) => j
  | _ => 0
def rawL (kvs ks : Kvs) : List (Nat × Int × Int) := ks.filterMap fun kv => if 97 ≤ (kyOf kv.1).1 then some ((kyOf kv.1).1, (kyOf kv.1).2, valI kvs kv.1) else none
def laidL (kvs : Kvs) : List (Nat × Int × Int) := sortT v3 (rawL kvs kvs)
theorem Ways.ent {kvs : Kvs} {n : Nat} (w : Ways kvs n) {k : List Key} {v : V} (h : (k, v) ∈ kvs) : ∃ c i j : Nat, k = ky c i ∧ c ∈ sgns ∧ valV kvs k = some (.int (j : Int)) ∧ i < n ∧ j < n := by
  have : ∃ v', valV kvs k = some v' := by
    unfold valV
    cases f : kvs.find? (fun kv => decide (kv.1 = k)) with
    | none =>
      rw [List.find?_eq_none] at f
      have := f _ h
      simp at this
    | some q => exact ⟨_, rfl⟩
  obtain ⟨v', e⟩ := this
  obtain ⟨c, i, j, hk, hc, hv, hi, hj⟩ := w.val _ _ e
  exact ⟨c, i, j, hk, hc, by rw [e, hv], hi, hj⟩
theorem deed_dec {c : Nat} (h : c ∈ sgns) : decide (c ∈ (Str.ofString "abcdef").cps.toList) = decide (97 ≤ c) := by
  have : ∀ c ∈ sgns, decide (c ∈ (Str.ofString "abcdef").cps.toList) = decide (97 ≤ c) := by decide +kernel
  exact this c h
theorem eqv_v3 (xs : List (Nat × Int × Int)) : PyData.eqv (.list (xs.map (tupD v3))) (.list (xs.map (tupD v3))) = true := by
  refine PySem.W.eqv_refl_alike _ ?_
  rw [PySem.W.alike]
  induction xs with
  | nil => rw [List.map_nil, PySem.W.alikeAll]
  | cons x xs ih => rw [List.map_cons, PySem.W.alikeAll, alike_v3, ih]; rfl
/-! ### what is no whole number, of anything -/
def NInt (H : Hp) (x : V) : Prop := x = .non ∨ (∃ b, x = .bl b) ∨ (∃ s, x = .str s) ∨ ∃ a, x = .ref a ∧ ((∃ xs, H a = some (.lst xs)) ∨ (∃ xs, H a = some (.tup xs)) ∨ ∃ kvs, H a = some (.dK kvs))
theorem NInt.same {H H' : Hp} {x : V} (h : NInt H x) (s : Same H H') : NInt H' x := by
  rcases h with h | h | h | ⟨a, e, ⟨xs, h⟩ | ⟨xs, h⟩ | ⟨xs, h⟩⟩
  · exact .inl h
  · exact .inr (.inl h)
  · exact .inr (.inr (.inl h))
  · exact .inr (.inr (.inr ⟨a, e, .inl ⟨xs, s _ _ h⟩⟩))
  · exact .inr (.inr (.inr ⟨a, e, .inr (.inl ⟨xs, s _ _ h⟩)⟩))
  · exact .inr (.inr (.inr ⟨a, e, .inr (.inr ⟨xs, s _ _ h⟩)⟩))
theorem NInt.ty {K : PySem.W.Frag} {H : Hp} {x : V} (h : NInt H x) : ∃ t : String, TyX K H x (.type t) ∧ ((kitB t "int" = some false) ∨ (kitB t "int" = some true ∧ kitB t "bool" = some true)) := by
  rcases h with rfl | ⟨b, rfl⟩ | ⟨s, rfl⟩ | ⟨a, rfl, ⟨xs, h⟩ | ⟨xs, h⟩ | ⟨xs, h⟩⟩
  · exact ⟨_, .base .non, .inl (by decide +kernel)⟩
  · exact ⟨_, .base (.bl _), .inr ⟨by decide +kernel, by decide +kernel⟩⟩
  · exact ⟨_, .base (.str _), .inl (by decide +kernel)⟩
  · exact ⟨_, .base (.lst h), .inl (by decide +kernel)⟩
  · exact ⟨_, .base (.tup h), .inl (by decide +kernel)⟩
  · exact ⟨_, .base (.dK h), .inl (by decide +kernel)⟩
def IntW (H : Hp) (x : V) (r : Bool) : Prop := (∃ i : Int, x = .int i ∧ r = true) ∨ (NInt H x ∧ r = false)
/-- a thing of a world of n, or none -/
def ThW (H : Hp) (n : Nat) (x : V) (r : Bool) : Prop := (∃ i : Int, x = .int i ∧ r = decide (0 ≤ i ∧ i < n)) ∨ (NInt H x ∧ r = false)
theorem ThW.same {H H' : Hp} {n : Nat} {x : V} {r : Bool} (h : ThW H n x r) (s : Same H H') : ThW H' n x r := h.imp id fun h => ⟨h.1.same s, h.2⟩
/-- an exception with one field, made -/
theorem madeF {H : Hp} {a C : Addr} {f : Str} {v : V} {E : XK} (ha : H a = none) (k : ∀ (d : Addr) (H' : Hp), Same H H' → H' d = some (.xd [(f, v)]) → E (.ref C) (some d) H') (d : Addr) (hd : (upd H a (exo a C none)) d = none) (ne : d ≠ a) :
    V.non = .non ∧ ∃ (d' : Addr) (fs : List (Str × V)), (upd (upd (upd (upd H a (exo a C none)) d (exd d [])) a (exo a C (some d))) d (exd d [(f, v)])) a = some (exo a C (some d')) ∧ (upd (upd (upd (upd H a (exo a C none)) d (exd d [])) a (exo a C (some d))) d (exd d [(f, v)])) d' = some (exd d' fs) ∧
      H d' = none ∧ E (.ref C) (some d') (upd (del (upd (upd (upd (upd H a (exo a C none)) d (exd d [])) a (exo a C (some d))) d (exd d [(f, v)])) a) d' (.xd fs)) := by
  have h0 : H d = none := by rw [upd_ne ne] at hd; exact hd
  refine ⟨rfl, d, [(f, v)], by rw [upd_ne ne.symm, upd_same], upd_same, h0, ?_⟩
  rw [fresh_xd ha ne]
  exact k d _ (Same.new h0) upd_same
/-! ### k08's own -/
theorem TL.off {α : Type} {val : α → List V} {H H' : Hp} {p : Addr} {ts : List Addr} {xs : List α} (h : TL H val ts xs) (hp : Pool H p) (o : Off p H H') : TL H' val ts xs := ⟨h.len, fun i t hi => by
  obtain ⟨x, h1, h2⟩ := h.get i t hi
  refine ⟨x, h1, o t _ (fun e => ?_) h2⟩
  obtain ⟨c, n, g, _⟩ := hp
  rw [e, g] at h2
  cases h2⟩
theorem TL.mut {α : Type} {val : α → List V} {H : Hp} {R : Addr} {ts : List Addr} {xs : List α} {o : HO} (h : TL H val ts xs) (ys : List V) (hR : H R = some (.lst ys)) : TL (upd H R o) val ts xs := ⟨h.len, fun i t hi => by
  obtain ⟨x, h1, h2⟩ := h.get i t hi
  exact ⟨x, h1, by rw [upd_ne (fun e => by rw [e, hR] at h2; cases h2)]; exact h2⟩⟩
def v2 (x : Int × Option Int) : List V := [.int x.1, optV x.2]
def dueP (kvs : Kvs) (l : List Nat) (n : Nat) : List (Int × Option Int) := (List.range n).map fun (t : Nat) => ((t : Int), ledW kvs l (some (t : Int)))
theorem dueP_succ (kvs : Kvs) (l : List Nat) (i : Nat) : dueP kvs l (i + 1) = dueP kvs l i ++ [((i : Int), ledW kvs l (some (i : Int)))] := by
  unfold dueP
  rw [List.range_succ, List.map_append]
  rfl
theorem dueP_at {kvs : Kvs} {l : List Nat} {n i : Nat} {x : Int × Option Int} (h : (dueP kvs l n)[i]? = some x) : i < n ∧ x = ((i : Int), ledW kvs l (some (i : Int))) := by
  unfold dueP at h
  rw [List.getElem?_map] at h
  obtain ⟨t, ht, rfl⟩ := Option.map_eq_some_iff.mp h
  obtain ⟨h1, h2⟩ := List.getElem?_eq_some_iff.mp ht
  rw [List.length_range] at h1
  rw [List.getElem_range] at h2
  subst h2
  exact ⟨h1, rfl⟩
theorem dueP_some (kvs : Kvs) (l : List Nat) (i : Nat) : pairsW kvs l (i + 1) = pairsW kvs l i ++ ((ledW kvs l (some (i : Int))).map fun s => ((i : Int), s)).toList := by
  unfold pairsW
  rw [List.range_succ, List.filterMap_append]
  cases e : ledW kvs l (some (i : Int)) <;> simp [e]
theorem dp_opt {K : PySem.W.Frag} {H : Hp} : ∀ o : Option Int, Dp K H (optV o) (optD o)
  | none => .non
  | some i => .int i
/-- shown, within the line -/
def Shown (d : PyData) : Prop := d.showable = true ∧ d.hasDict = false ∧ d.shown.length ≤ sizeLine ∧ d.depth ≤ 60
theorem shown_opt {o : Option Int} (h : ∀ i, o = some i → i.natAbs < 10 ^ 12) : Shown (optD o) := by
  cases o with
  | none => exact ⟨rfl, rfl, by decide +kernel, by decide⟩
  | some i =>
    have hi := h i rfl
    refine ⟨decide_eq_true ?_, rfl, Nat.le_trans (PyData.shown_int_le hi) (by decide), by show (PyData.int i).depth ≤ 60; rw [PyData.depth]; decide⟩
    by_cases z : i.natAbs = 0
    · rw [z]; decide
    · exact (Nat.log2_lt z).mpr (Nat.lt_trans hi (by decide))
theorem shown_pD {ps : List (Int × Int)} (h : ∀ p ∈ ps, p.1.natAbs < 10 ^ 12 ∧ p.2.natAbs < 10 ^ 12) (hz : ps.length ≤ 1000) : Shown (.list (pD ps)) := by
  have one : ∀ i : Int, i.natAbs < 10 ^ 12 → i.natAbs.log2 < 1920 := fun i hi => by
    by_cases z : i.natAbs = 0
    · rw [z]; decide
    · exact (Nat.log2_lt z).mpr (Nat.lt_trans hi (by decide))
  have h1 : PyData.showableAll (pD ps) = true ∧ PyData.hasDictAll (pD ps) = false ∧ PyData.leavesShortAll 13 (pD ps) = true ∧ PyData.bulkAll (pD ps) ≤ 10 * ps.length ∧ PyData.depthAll (pD ps) ≤ 1 := by
    clear hz
    induction ps with
    | nil => exact ⟨rfl, rfl, rfl, Nat.le_refl _, by show PyData.depthAll [] ≤ 1; rw [PyData.depthAll]; decide⟩
    | cons p ps ih =>
      obtain ⟨a, b, c, d, e⟩ := ih fun q hq => h q (List.mem_cons_of_mem _ hq)
      obtain ⟨q1, q2⟩ := h p List.mem_cons_self
      have e0 : pD (p :: ps) = .tuple [.int p.1, .int p.2] :: pD ps := rfl
      rw [e0]
      refine ⟨?_, ?_, ?_, ?_, ?_⟩
      · simp [PyData.showableAll, PyData.showable, a, one _ q1, one _ q2]
      · simp [PyData.hasDictAll, PyData.hasDict, b]
      · simp [PyData.leavesShortAll, PyData.leavesShort, c, PyData.shown_int_le q1, PyData.shown_int_le q2]
      · have : PyData.bulk (.tuple [.int p.1, .int p.2]) = 2 := by simp [PyData.bulk, PyData.bulkAll]
        rw [PyData.bulkAll, this, List.length_cons]
        omega
      · have : PyData.depth (.tuple [.int p.1, .int p.2]) = 1 := by simp [PyData.depth, PyData.depthAll]
        rw [PyData.depthAll, this]
        omega
  obtain ⟨a, b, c, d, e⟩ := h1
  refine ⟨by rw [PyData.showable]; exact a, by rw [PyData.hasDict]; exact b, PyData.shown_fits_bulk (B := 13) (by decide) (by decide) (by rw [PyData.leavesShort]; exact c) (by rw [PyData.bulk]; omega), by rw [PyData.depth]; omega⟩
theorem pairs_small {kvs : Kvs} {n : Nat} (w : Ways kvs n) (hn : n ≤ 1000) (l : List Nat) : ∀ p ∈ pairsW kvs l n, p.1.natAbs < 10 ^ 12 ∧ p.2.natAbs < 10 ^ 12 := fun p hp => by
  obtain ⟨h0, h1, h2⟩ := mem_pairsW.mp hp
  have r := ledW_range w l p.1 p.2 h0 h1 h2
  omega
theorem at_mem2 {L : List V} {z : Int} (h0 : 0 ≤ z) (h1 : z < (L.length : Int)) : ∃ y, atI L z = some y ∧ y ∈ L := by
  obtain ⟨n, rfl⟩ : ∃ n : Nat, z = (n : Int) := ⟨z.toNat, by omega⟩
  have hn : n < L.length := by omega
  exact ⟨L[n], atI_nat (List.getElem?_eq_getElem hn), List.getElem_mem _⟩
theorem shaped_v3 {xs : List (Nat × Int × Int)} (h : ∀ x ∈ xs, x.1 ∈ sgns) : SeqAt.shaped (.list (xs.map (tupD v3))) = true := by
  have h1 : PyData.canLayAll0 (xs.map (tupD v3)) = true ∧ PyData.depthAll (xs.map (tupD v3)) ≤ 1 := by
    induction xs with
    | nil => exact ⟨rfl, by show PyData.depthAll [] ≤ 1; rw [PyData.depthAll]; decide⟩
    | cons x xs ih =>
      obtain ⟨a, b⟩ := ih fun y hy => h y (List.mem_cons_of_mem _ hy)
      have ok : PyData.strOk (S [x.1]) = true := by
        have hx := h x List.mem_cons_self
        have : ∀ c ∈ sgns, PyData.strOk (S [c]) = true := by decide +kernel
        exact this _ hx
      rw [List.map_cons]
      refine ⟨?_, ?_⟩
      · simp [PyData.canLayAll0, PyData.canLay0, tupD, v3, flD, ok, a]
      · have : PyData.depth (tupD v3 x) = 1 := by simp [tupD, v3, flD, PyData.depth, PyData.depthAll]
        rw [PyData.depthAll, this]
        omega
  have h3 : PyData.depth (.list (xs.map (tupD v3))) ≤ 2 := by rw [PyData.depth]; omega
  simp only [SeqAt.shaped, PyData.canLay0, h1.1, Bool.true_and, decide_eq_true_eq]
  exact Nat.le_trans h3 (by decide)
theorem laidL_sgns {kvs : Kvs} {n : Nat} (w : Ways kvs n) : ∀ x ∈ laidL kvs, x.1 ∈ sgns := fun x hx => by
  have hx2 : x ∈ rawL kvs kvs := List.mem_mergeSort.mp hx
  unfold rawL at hx2
  obtain ⟨kv, hkv, e⟩ := List.mem_filterMap.mp hx2
  obtain ⟨c, i, j, hk, hc, _⟩ := w.ent (k := kv.1) (v := kv.2) hkv
  rw [hk, kyOf_ky] at e
  by_cases h : 97 ≤ c
  · rw [if_pos h] at e
    injection e with e
    rw [← e]
    exact hc
  · rw [if_neg h] at e
    cases e
/-! ### k11's own -/
def NStr (H : Hp) (x : V) : Prop := x = .non ∨ (∃ b, x = .bl b) ∨ (∃ i, x = .int i) ∨ ∃ a, x = .ref a ∧ ((∃ xs, H a = some (.lst xs)) ∨ (∃ xs, H a = some (.tup xs)) ∨ ∃ kvs, H a = some (.dK kvs))
theorem NStr.same {H H' : Hp} {x : V} (h : NStr H x) (s : Same H H') : NStr H' x := by
  rcases h with h | h | h | ⟨a, e, ⟨xs, h⟩ | ⟨xs, h⟩ | ⟨xs, h⟩⟩
  · exact .inl h
  · exact .inr (.inl h)
  · exact .inr (.inr (.inl h))
  · exact .inr (.inr (.inr ⟨a, e, .inl ⟨xs, s _ _ h⟩⟩))
  · exact .inr (.inr (.inr ⟨a, e, .inr (.inl ⟨xs, s _ _ h⟩)⟩))
  · exact .inr (.inr (.inr ⟨a, e, .inr (.inr ⟨xs, s _ _ h⟩)⟩))
theorem NStr.ty {K : PySem.W.Frag} {H : Hp} {x : V} (h : NStr H x) : ∃ t : String, TyX K H x (.type t) ∧ kitB t "str" = some false := by
  rcases h with rfl | ⟨b, rfl⟩ | ⟨s, rfl⟩ | ⟨a, rfl, ⟨xs, h⟩ | ⟨xs, h⟩ | ⟨xs, h⟩⟩
  · exact ⟨_, .base .non, by decide +kernel⟩
  · exact ⟨_, .base (.bl _), by decide +kernel⟩
  · exact ⟨_, .base (.int _), by decide +kernel⟩
  · exact ⟨_, .base (.lst h), by decide +kernel⟩
  · exact ⟨_, .base (.tup h), by decide +kernel⟩
  · exact ⟨_, .base (.dK h), by decide +kernel⟩
/-- a deed, or none -/
def DeedV (H : Hp) (x : V) (r : Bool) : Prop := (∃ c, x = .str (S [c]) ∧ Deed c ∧ r = true) ∨ (∃ l : List Nat, x = .str (S l) ∧ l.length ≤ 1000 ∧ (l.length ≠ 1 ∨ ∃ c, l = [c] ∧ ¬ c ∈ [97, 98, 99, 100, 101, 102]) ∧ r = false) ∨ (NStr H x ∧ r = false)
theorem DeedV.same {H H' : Hp} {x : V} {r : Bool} (h : DeedV H x r) (s : Same H H') : DeedV H' x r := h.imp id fun h => h.imp id fun h => ⟨h.1.same s, h.2⟩
/-- an exception with two fields, made -/
theorem madeF2 {H : Hp} {a C : Addr} {f g : Str} {v w : V} {E : XK} (ha : H a = none) (k : ∀ (d : Addr) (H' : Hp), Same H H' → H' d = some (.xd [(g, w), (f, v)]) → E (.ref C) (some d) H') (d : Addr) (hd : (upd H a (exo a C none)) d = none) (ne : d ≠ a) :
    V.non = .non ∧ ∃ (d' : Addr) (fs : List (Str × V)), (upd (upd (upd (upd (upd H a (exo a C none)) d (exd d [])) a (exo a C (some d))) d (exd d [(f, v)])) d (exd d [(g, w), (f, v)])) a = some (exo a C (some d')) ∧ (upd (upd (upd (upd (upd H a (exo a C none)) d (exd d [])) a (exo a C (some d))) d (exd d [(f, v)])) d (exd d [(g, w), (f, v)])) d' = some (exd d' fs) ∧
      H d' = none ∧ E (.ref C) (some d') (upd (del (upd (upd (upd (upd (upd H a (exo a C none)) d (exd d [])) a (exo a C (some d))) d (exd d [(f, v)])) d (exd d [(g, w), (f, v)])) a) d' (.xd fs)) := by
  have h0 : H d = none := by rw [upd_ne ne] at hd; exact hd
  refine ⟨rfl, d, [(g, w), (f, v)], by rw [upd_ne ne.symm, upd_ne ne.symm, upd_same], upd_same, h0, ?_⟩
  have e : upd (del (upd (upd (upd (upd (upd H a (exo a C none)) d (exd d [])) a (exo a C (some d))) d (exd d [(f, v)])) d (exd d [(g, w), (f, v)])) a) d (.xd [(g, w), (f, v)]) = upd H d (.xd [(g, w), (f, v)]) := funext fun b => by
    by_cases h : b = d
    · subst h; rw [upd_same, upd_same]
    · rw [upd_ne h, upd_ne h]
      by_cases h2 : b = a
      · subst h2; rw [del_same, ha]
      · rw [del_ne h2, upd_ne h, upd_ne h, upd_ne h2, upd_ne h, upd_ne h2]
  rw [e]
  exact k d _ (Same.new h0) upd_same
theorem DeedV.yes {H : Hp} {x : V} (h : DeedV H x true) : ∃ c, x = .str (S [c]) ∧ Deed c := by
  rcases h with ⟨c, e, hc, _⟩ | ⟨l, _, _, _, h⟩ | ⟨_, h⟩
  · exact ⟨c, e, hc⟩
  · cases h
  · cases h
theorem ThW.yes {H : Hp} {n : Nat} {x : V} (h : ThW H n x true) : ∃ i : Nat, x = .int (i : Int) ∧ i < n := by
  rcases h with ⟨i, rfl, e⟩ | ⟨_, h⟩
  · have := of_decide_eq_true e.symm
    exact ⟨i.toNat, by congr 1; omega, by omega⟩
  · cases h
theorem Ways.to {kvs : Kvs} {n c : Nat} {i : Int} {v : V} (w : Ways kvs n) (h : valV kvs (ky c i) = some v) : ∃ j : Nat, v = .int (j : Int) ∧ j < n := by
  obtain ⟨c2, i2, j, _, _, rfl, _, hj⟩ := w.val _ _ h
  exact ⟨j, rfl, hj⟩
theorem valV_drop (k k2 : List Key) : ∀ kvs : Kvs, valV (dropK kvs k) k2 = if k2 = k then none else valV kvs k2
  | [] => by
    show valV ([] : Kvs) k2 = _
    rw [valV_nil]
    split <;> rfl
  | p :: r => by
    have ih := valV_drop k k2 r
    by_cases e : p.1 = k
    · have e1 : dropK (p :: r) k = dropK r k := by simp [dropK, e]
      rw [e1, ih]
      by_cases e2 : k2 = k
      · rw [if_pos e2, if_pos e2]
      · rw [if_neg e2, if_neg e2, valV_neg (fun h => e2 (h.symm.trans e))]
    · have e1 : dropK (p :: r) k = p :: dropK r k := by simp [dropK, e]
      rw [e1]
      by_cases e3 : p.1 = k2
      · rw [valV_pos e3, valV_pos e3, if_neg (fun h => e (e3.trans h))]
      · rw [valV_neg e3, valV_neg e3, ih]
theorem deed_six {c : Nat} (h : Deed c) : c ∈ [97, 98, 99, 100, 101, 102] := by
  obtain ⟨h1, h2⟩ := h
  revert c
  decide +kernel
theorem DeedV.of {H : Hp} {c : Nat} {r : Bool} (h : DeedV H (.str (S [c])) r) (hc : Deed c) : r = true := by
  rcases h with ⟨_, _, _, e⟩ | ⟨l, e, _, h, _⟩ | ⟨h, _⟩
  · exact e
  · have el := S_inj e
    subst el
    rcases h with h | ⟨d, e2, h⟩
    · exact absurd rfl h
    · injection e2 with e2
      exact absurd (e2 ▸ deed_six hc) h
  · rcases h with h | ⟨_, h⟩ | ⟨_, h⟩ | ⟨_, h, _⟩ <;> cases h
theorem ThW.of {H : Hp} {n i : Nat} {r : Bool} (h : ThW H n (.int (i : Int)) r) (hi : i < n) : r = true := by
  rcases h with ⟨j, e, h⟩ | ⟨h, _⟩
  · injection e with e
    rw [h]
    exact decide_eq_true ⟨by omega, by omega⟩
  · rcases h with h | ⟨_, h⟩ | ⟨_, h⟩ | ⟨_, h, _⟩ <;> cases h
/-- data that is shown shortly -/
structure ShX (d : PyData) : Prop where
  two : Shown (.list [.str (Str.ofString "number"), d])
  three : Shown (.list [.str (Str.ofString "thing"), d, .bool true])
theorem ShX.small {i : Int} (h : i.natAbs < 10 ^ 12) : ShX (.int i) := by
  have q : i.natAbs.log2 < 1920 := by
    by_cases z : i.natAbs = 0
    · rw [z]; decide
    · exact (Nat.log2_lt z).mpr (Nat.lt_trans h (by decide))
  have q1 : (PyData.int i).showable = true := by simp [PyData.showable, q]
  have q2 : (PyData.int i).leavesShort 13 = true := by
    have := PyData.shown_int_le h
    simp only [PyData.leavesShort, decide_eq_true_eq]
    omega
  have q3 : (PyData.int i).bulk ≤ 10 := by simp [PyData.bulk]
  have e : (PyData.str (Str.ofString "number")).showable = true ∧ (PyData.str (Str.ofString "number")).leavesShort 13 = true ∧ (PyData.str (Str.ofString "number")).bulk ≤ 10 := by decide +kernel
  have e1 : (PyData.str (Str.ofString "thing")).showable = true ∧ (PyData.str (Str.ofString "thing")).leavesShort 13 = true ∧ (PyData.str (Str.ofString "thing")).bulk ≤ 10 := by decide +kernel
  have e2 : (PyData.bool true).leavesShort 13 = true ∧ (PyData.bool true).showable = true ∧ (PyData.bool true).bulk ≤ 10 := by decide +kernel
  have h3 : PyData.showableAll [.str (Str.ofString "number"), .int i] = true := by rw [PyData.showableAll, PyData.showableAll, PyData.showableAll, e.1, q1]; rfl
  have h4 : PyData.showableAll [.str (Str.ofString "thing"), .int i, .bool true] = true := by rw [PyData.showableAll, PyData.showableAll, PyData.showableAll, PyData.showableAll, e1.1, q1, e2.2.1]; rfl
  have h5 : PyData.leavesShortAll 13 [.str (Str.ofString "number"), .int i] = true := by rw [PyData.leavesShortAll, PyData.leavesShortAll, PyData.leavesShortAll, e.2.1, q2]; rfl
  have h6 : PyData.leavesShortAll 13 [.str (Str.ofString "thing"), .int i, .bool true] = true := by rw [PyData.leavesShortAll, PyData.leavesShortAll, PyData.leavesShortAll, PyData.leavesShortAll, e1.2.1, q2, e2.1]; rfl
  refine ⟨⟨by rw [PyData.showable]; exact h3, by simp [PyData.hasDict, PyData.hasDictAll], PyData.shown_fits_bulk (B := 13) (by decide) (by decide) (by rw [PyData.leavesShort]; exact h5) ?_, by simp [PyData.depth, PyData.depthAll]⟩,
    ⟨by rw [PyData.showable]; exact h4, by simp [PyData.hasDict, PyData.hasDictAll], PyData.shown_fits_bulk (B := 13) (by decide) (by decide) (by rw [PyData.leavesShort]; exact h6) ?_, by simp [PyData.depth, PyData.depthAll]⟩⟩
  · simp [PyData.bulk, PyData.bulkAll]
    decide +kernel
  · simp [PyData.bulk, PyData.bulkAll]
    decide +kernel

/-- a def that the caller knows: where it stands, how its arguments bind, what it promises -/
def KN (P : Program) (w : World) (K : PySem.W.Frag) (mg : Str → Option Value) (base : Heap) (CX : CXT) (k : Nat) (ps : List Str) (sp : Sp) (x : Str) (dvs : List V) : Prop :=
  ∃ (f : Addr) (fd : FuncData) (ds : List Value), mg x = some (.ref f) ∧ PySem.W.keepIn K (.ref f) = true ∧ Vals dvs ds ∧ Binds K fd ps ds ∧ FnOk P w K mg base CX k f fd ps sp
/-- a def that asks for reprs -/
def KNG (P : Program) (w : World) (K : PySem.W.Frag) (mg : Str → Option Value) (base : Heap) (CX : CXT) (k : Nat) (ps : List Str) (sp : Sp) (x : Str) (dvs : List V) : Prop :=
  ∃ (f : Addr) (fd : FuncData) (ds : List Value), mg x = some (.ref f) ∧ PySem.W.keepIn K (.ref f) = true ∧ Vals dvs ds ∧ Binds K fd ps ds ∧ FnG P w K mg base CX k f fd ps sp
/-- a method that the caller knows -/
def KM (P : Program) (w : World) (K : PySem.W.Frag) (mg : Str → Option Value) (base : Heap) (CX : CXT) (k : Nat) (ps : List Str) (sp : Sp) (C : Addr) (n : Str) (dvs : List V) : Prop :=
  ∃ (f : Addr) (fd : FuncData) (ds : List Value), PySem.W.findIn K (.ref C) n = some (some (.ref f)) ∧ PySem.W.typeIn K (.ref f) = some (.type "function") ∧ PySem.W.isFn K (.ref f) = true ∧ PySem.W.keepIn K (.ref f) = true ∧ Vals dvs ds ∧ Binds K fd ps ds ∧ FnOk P w K mg base CX k f fd ps sp
structure Txt (K : PySem.W.Frag) (mg : Str → Option Value) (C_Bare : Addr) (C_Full : Addr) (C_NoDeed : Addr) (C_NoNumber : Addr) (C_NoThing : Addr) (C_Taken : Addr) (C_World : Addr) : Prop where
  b_IndexError : mg "IndexError" = none
  b_KeyError : mg "KeyError" = none
  b_LookupError : mg "LookupError" = none
  b_OverflowError : mg "OverflowError" = none
  b_RuntimeError : mg "RuntimeError" = none
  b_bool : mg "bool" = none
  b_int : mg "int" = none
  b_isinstance : mg "isinstance" = none
  b_len : mg "len" = none
  b_max : mg "max" = none
  b_min : mg "min" = none
  b_range : mg "range" = none
  b_repr : mg "repr" = none
  b_sorted : mg "sorted" = none
  b_str : mg "str" = none
  g_DEEDS : ∃ u, mg "DEEDS" = some u ∧ RelV (.str "abcdef") u
  g_MOST_THINGS : ∃ u, mg "MOST_THINGS" = some u ∧ RelV (.int 61) u
  v_IndexError : PySem.W.findCls K (.type "IndexError") (.type "type") "__init__" = some (.val (.builtin "IndexError.__init__"))
  v_KeyError : PySem.W.findCls K (.type "KeyError") (.type "type") "__init__" = some (.val (.builtin "KeyError.__init__"))
  v_LookupError : PySem.W.findCls K (.type "LookupError") (.type "type") "__init__" = some (.val (.builtin "LookupError.__init__"))
  v_OverflowError : PySem.W.findCls K (.type "OverflowError") (.type "type") "__init__" = some (.val (.builtin "OverflowError.__init__"))
  v_RuntimeError : PySem.W.findCls K (.type "RuntimeError") (.type "type") "__init__" = some (.val (.builtin "RuntimeError.__init__"))
  y_Bare_deed : PySem.W.findIn K (.ref C_Bare) "deed" = some none
  y_Bare_thing : PySem.W.findIn K (.ref C_Bare) "thing" = some none
  y_Full_size : PySem.W.findIn K (.ref C_Full) "size" = some none
  y_NoDeed_deed : PySem.W.findIn K (.ref C_NoDeed) "deed" = some none
  y_NoNumber_number : PySem.W.findIn K (.ref C_NoNumber) "number" = some none
  y_NoThing_thing : PySem.W.findIn K (.ref C_NoThing) "thing" = some none
  y_Taken_deed : PySem.W.findIn K (.ref C_Taken) "deed" = some none
  y_Taken_thing : PySem.W.findIn K (.ref C_Taken) "thing" = some none
  y_World_own_many : PySem.W.findIn K (.ref C_World) "own_many" = some none
  y_World_own_ways : PySem.W.findIn K (.ref C_World) "own_ways" = some none
  x_Bare : ExF K mg "Bare" C_Bare "LookupError" "LookupError.__new__" "LookupError.__init__" [.type "LookupError", .type "Exception", .type "BaseException", .type "object"]
  x_Full : ExF K mg "Full" C_Full "OverflowError" "OverflowError.__new__" "OverflowError.__init__" [.type "OverflowError", .type "ArithmeticError", .type "Exception", .type "BaseException", .type "object"]
  x_NoDeed : ExF K mg "NoDeed" C_NoDeed "KeyError" "LookupError.__new__" "KeyError.__init__" [.type "KeyError", .type "LookupError", .type "Exception", .type "BaseException", .type "object"]
  x_NoNumber : ExF K mg "NoNumber" C_NoNumber "LookupError" "LookupError.__new__" "LookupError.__init__" [.type "LookupError", .type "Exception", .type "BaseException", .type "object"]
  x_NoThing : ExF K mg "NoThing" C_NoThing "IndexError" "IndexError.__new__" "IndexError.__init__" [.type "IndexError", .type "LookupError", .type "Exception", .type "BaseException", .type "object"]
  x_Taken : ExF K mg "Taken" C_Taken "RuntimeError" "RuntimeError.__new__" "RuntimeError.__init__" [.type "RuntimeError", .type "Exception", .type "BaseException", .type "object"]
  o_World : OwnK K mg "World" C_World
  e1 : PySem.W.subIn K (.ref C_NoNumber) (.type "LookupError") = some true
  e2 : PySem.W.subIn K (.ref C_NoNumber) (.type "KeyError") = some false
  e3 : PySem.W.subIn K (.ref C_NoNumber) (.type "IndexError") = some false
  e4 : PySem.W.subIn K (.ref C_Full) (.type "OverflowError") = some true
  e5 : PySem.W.subIn K (.ref C_NoDeed) (.type "KeyError") = some true
  e6 : PySem.W.subIn K (.ref C_NoThing) (.type "IndexError") = some true
  e7 : PySem.W.subIn K (.ref C_NoThing) (.ref C_NoDeed) = some false
def sp_law_pool (K : PySem.W.Frag) : Sp := fun vs H Q E => ∃ (a : Addr) (ns : List Int) (i : Int), vs = [.ref a, .int i] ∧ (SqL K H a (ns.map V.int)) ∧ (0 ≤ i) ∧ (i < 1000) ∧ ∀ (p : Addr) (H' : Hp), H p = none → Same H H' → Pool H' p → Q (.ref p) H'
def sp_law_take : Sp := fun vs H Q E => ∃ (p : Addr) (m : Int), vs = [.ref p, .int m] ∧ (Pool H p) ∧ (0 < m) ∧ (m < 18446744073709551616) ∧ ∀ (v : Int) (H' : Hp), 0 ≤ v → v < m → Off p H H' → Pool H' p → Q (.int v) H'
def sp_is_whole : Sp := fun vs H Q E => ∃ (x : V) (r : Bool), vs = [x] ∧ (IntW H x r) ∧ ∀ H' : Hp, Same H H' → Q (.bl r) H'
def sp_NoNumber___init__ (C_NoNumber : Addr) : Sp := fun vs H Q E => ∃ (a : Addr) (v : V), vs = [.ref a, v] ∧ (H a = some (exo a C_NoNumber none)) ∧ ∀ d : Addr, H d = none → d ≠ a → Q .non (upd (upd (upd H d (exd d [])) a (exo a C_NoNumber (some d))) d (exd d [(Str.ofString "number", v)]))
def sp_World___init__ (C_World : Addr) (C_NoNumber : Addr) : Sp := fun vs H Q E => ∃ (a dx : Addr) (x : V) (r : Bool), vs = [.ref a, x] ∧ (H a = some (.ins C_World dx [])) ∧ (ThW H 62 x r) ∧ (r = true → ∀ n : Nat, n ≤ 61 → x = .int (n : Int) → ∀ (dw : Addr) (H' : Hp), Off a H H' → H dw = none → WAt C_World H' a dw n [] → Q .non H') ∧ (r = false → ∀ (d : Addr) (H' : Hp), Same H H' → H' d = some (.xd [(Str.ofString "number", x)]) → E (.ref C_NoNumber) (some d) H')
def sp_World___len__ (C_World : Addr) : Sp := fun vs H Q E => ∃ (a dw : Addr) (n : Nat) (kvs : Kvs), vs = [.ref a] ∧ (WAt C_World H a dw n kvs) ∧ (n ≤ 1000) ∧ ∀ H' : Hp, Same H H' → Q (.int (n : Nat)) H'
def sp_law_made (C_World : Addr) (C_NoNumber : Addr) : Sp := fun vs H Q E => ∃ (x : V) (r : Bool), vs = [x] ∧ (ThW H 62 x r) ∧ ∀ (p : Addr) (H' : Hp), Same H H' → H p = none → H' p = some (.lst [.str (Str.ofString (if r = true then "told" else "number")), x]) → Q (.ref p) H'
def sp_Full___init__ (C_Full : Addr) : Sp := fun vs H Q E => ∃ (a : Addr) (v : V), vs = [.ref a, v] ∧ (H a = some (exo a C_Full none)) ∧ ∀ d : Addr, H d = none → d ≠ a → Q .non (upd (upd (upd H d (exd d [])) a (exo a C_Full (some d))) d (exd d [(Str.ofString "size", v)]))
def sp_World_add (C_World : Addr) (C_Full : Addr) : Sp := fun vs H Q E => ∃ (a dw : Addr) (n : Nat) (kvs : Kvs), vs = [.ref a] ∧ (WAt C_World H a dw n kvs) ∧ (n ≤ 61) ∧ (n < 61 → ∀ H' : Hp, Off a H H' → WAt C_World H' a dw (n + 1) kvs → Q (.int (n : Nat)) H') ∧ (n = 61 → ∀ (d : Addr) (H' : Hp), Same H H' → H' d = some (.xd [(Str.ofString "size", .int 62)]) → E (.ref C_Full) (some d) H')
def sp_law_added (C_World : Addr) (C_Full : Addr) : Sp := fun vs H Q E => ∃ (a dw : Addr) (n : Nat) (kvs : Kvs), vs = [.ref a] ∧ (WAt C_World H a dw n kvs) ∧ (n ≤ 61) ∧ ∀ (p : Addr) (H' : Hp), Off a H H' → WAt C_World H' a dw (if n = 61 then 61 else n + 1) kvs → H p = none → H' p = some (.lst (if n = 61 then [.str (Str.ofString "full"), .int 62] else [.str (Str.ofString "told"), .int (n : Int)])) → Q (.ref p) H'
def sp_NoDeed___init__ (C_NoDeed : Addr) : Sp := fun vs H Q E => ∃ (a : Addr) (v : V), vs = [.ref a, v] ∧ (H a = some (exo a C_NoDeed none)) ∧ ∀ d : Addr, H d = none → d ≠ a → Q .non (upd (upd (upd H d (exd d [])) a (exo a C_NoDeed (some d))) d (exd d [(Str.ofString "deed", v)]))
def sp_World_look_at_deed (C_World : Addr) (C_NoDeed : Addr) : Sp := fun vs H Q E => ∃ (a : Addr) (x : V) (r : Bool), vs = [.ref a, x] ∧ (DeedV H x r) ∧ (r = true → ∀ H' : Hp, Same H H' → Q .non H') ∧ (r = false → ∀ (d : Addr) (H' : Hp), Same H H' → H' d = some (.xd [(Str.ofString "deed", x)]) → E (.ref C_NoDeed) (some d) H')
def sp_NoThing___init__ (C_NoThing : Addr) : Sp := fun vs H Q E => ∃ (a : Addr) (v : V), vs = [.ref a, v] ∧ (H a = some (exo a C_NoThing none)) ∧ ∀ d : Addr, H d = none → d ≠ a → Q .non (upd (upd (upd H d (exd d [])) a (exo a C_NoThing (some d))) d (exd d [(Str.ofString "thing", v)]))
def sp_World_look_at_thing (C_World : Addr) (C_NoThing : Addr) : Sp := fun vs H Q E => ∃ (a dw : Addr) (n : Nat) (kvs : Kvs) (x : V) (r : Bool), vs = [.ref a, x] ∧ (WAt C_World H a dw n kvs) ∧ (ThW H n x r) ∧ (r = true → ∀ H' : Hp, Same H H' → Q .non H') ∧ (r = false → ∀ (d : Addr) (H' : Hp), Same H H' → H' d = some (.xd [(Str.ofString "thing", x)]) → E (.ref C_NoThing) (some d) H')
def sp_Taken___init__ (C_Taken : Addr) : Sp := fun vs H Q E => ∃ (a : Addr) (v w : V), vs = [.ref a, v, w] ∧ (H a = some (exo a C_Taken none)) ∧ ∀ d : Addr, H d = none → d ≠ a → Q .non (upd (upd (upd (upd H d (exd d [])) a (exo a C_Taken (some d))) d (exd d [(Str.ofString "deed", v)])) d (exd d [(Str.ofString "thing", w), (Str.ofString "deed", v)]))
def sp_World_lay (C_World : Addr) (C_NoDeed : Addr) (C_NoThing : Addr) (C_Taken : Addr) : Sp := fun vs H Q E => ∃ (a dw : Addr) (n : Nat) (kvs : Kvs) (x y z : V) (rx ry rz : Bool), vs = [.ref a, x, y, z] ∧ (WAt C_World H a dw n kvs) ∧ (Ways kvs n) ∧ (DeedV H x rx) ∧ (ThW H n y ry) ∧ (ThW H n z rz) ∧ (kvs.length ≤ 10000) ∧ ((rx = false → ∀ (d : Addr) (H' : Hp), Same H H' → H' d = some (.xd [(Str.ofString "deed", x)]) → E (.ref C_NoDeed) (some d) H') ∧ (rx = true → ry = false → ∀ (d : Addr) (H' : Hp), Same H H' → H' d = some (.xd [(Str.ofString "thing", y)]) → E (.ref C_NoThing) (some d) H') ∧ (rx = true → ry = true → rz = false → ∀ (d : Addr) (H' : Hp), Same H H' → H' d = some (.xd [(Str.ofString "thing", z)]) → E (.ref C_NoThing) (some d) H')) ∧ (∀ c i j : Nat, x = .str (S [c]) → y = .int (i : Int) → z = .int (j : Int) → Deed c → i < n → j < n → (∀ v, valV kvs (ky c i) = some v → ∀ (d : Addr) (H' : Hp), Same H H' → H' d = some (.xd [(Str.ofString "thing", y), (Str.ofString "deed", x)]) → E (.ref C_Taken) (some d) H') ∧ (valV kvs (ky c i) = none → ∀ v, valV kvs (ky (con c) j) = some v → ∀ (d : Addr) (H' : Hp), Same H H' → H' d = some (.xd [(Str.ofString "thing", z), (Str.ofString "deed", x)]) → E (.ref C_Taken) (some d) H') ∧ (valV kvs (ky c i) = none → valV kvs (ky (con c) j) = none → ∀ H' : Hp, Off dw H H' → H' dw = some (.dT (putK (putK kvs (ky c i) (.int (j : Int))) (ky (con c) j) (.int (i : Int)))) → Q .non H'))
def sp_Bare___init__ (C_Bare : Addr) : Sp := fun vs H Q E => ∃ (a : Addr) (v w : V), vs = [.ref a, v, w] ∧ (H a = some (exo a C_Bare none)) ∧ ∀ d : Addr, H d = none → d ≠ a → Q .non (upd (upd (upd (upd H d (exd d [])) a (exo a C_Bare (some d))) d (exd d [(Str.ofString "deed", v)])) d (exd d [(Str.ofString "thing", w), (Str.ofString "deed", v)]))
def sp_World_lift (C_World : Addr) (C_NoDeed : Addr) (C_NoThing : Addr) (C_Bare : Addr) : Sp := fun vs H Q E => ∃ (a dw : Addr) (n : Nat) (kvs : Kvs) (x y : V) (rx ry : Bool), vs = [.ref a, x, y] ∧ (WAt C_World H a dw n kvs) ∧ (Ways kvs n) ∧ (DeedV H x rx) ∧ (ThW H n y ry) ∧ ((rx = false → ∀ (d : Addr) (H' : Hp), Same H H' → H' d = some (.xd [(Str.ofString "deed", x)]) → E (.ref C_NoDeed) (some d) H') ∧ (rx = true → ry = false → ∀ (d : Addr) (H' : Hp), Same H H' → H' d = some (.xd [(Str.ofString "thing", y)]) → E (.ref C_NoThing) (some d) H')) ∧ (∀ c i : Nat, x = .str (S [c]) → y = .int (i : Int) → Deed c → i < n → (valV kvs (ky c i) = none → ∀ (d : Addr) (H' : Hp), Same H H' → H' d = some (.xd [(Str.ofString "thing", y), (Str.ofString "deed", x)]) → E (.ref C_Bare) (some d) H') ∧ (∀ j : Nat, j < n → valV kvs (ky c i) = some (.int (j : Int)) → ∀ H' : Hp, Off dw H H' → H' dw = some (.dT (dropK (dropK kvs (ky c i)) (ky (con c) j))) → Q (.int (j : Int)) H'))
def sp_law_asked (C_World : Addr) (C_NoDeed : Addr) (C_NoThing : Addr) : Sp := fun vs H Q E => ∃ (a dw : Addr) (n : Nat) (t : Int) (x y z : V) (rx ry rz : Bool), vs = [.ref a, .int t, x, y, z] ∧ (WAt C_World H a dw n []) ∧ (DeedV H x rx) ∧ (ThW H n y ry) ∧ (ThW H n z rz) ∧ (rx = false ∨ ry = false ∨ (t = 0 ∧ rz = false)) ∧ ∀ (p : Addr) (H' : Hp), Same H H' → H p = none → H' p = some (.lst (if rx = false then [.str (Str.ofString "deed"), x, .bl true] else [.str (Str.ofString "thing"), if ry = false then y else z, .bl true])) → Q (.ref p) H'
def sp_World_laid (K : PySem.W.Frag) (C_World : Addr) : Sp := fun vs H Q E => ∃ (a dw : Addr) (n : Nat) (kvs : Kvs), vs = [.ref a] ∧ (WAt C_World H a dw n kvs) ∧ (Ways kvs n) ∧ (kvs.length ≤ 10000) ∧ ∀ (us : List Addr) (p : Addr) (H' : Hp), Same H H' → H p = none → H' p = some (.lst (us.map V.ref)) → TL H' v3 us (laidL kvs) → Q (.ref p) H'
def sp_law (K : PySem.W.Frag) : Sp := fun vs H Q E => ∃ (a : Addr) (ns : List Int), vs = [.ref a] ∧ (SqL K H a (ns.map V.int)) ∧ (ns.length ≤ 63) ∧ ∀ H', Q (.bl true) H'
section
variable {P : Program} {w : World} {K : PySem.W.Frag} {mg : Str → Option Value} {base : Heap} {C_Bare : Addr} {C_Full : Addr} {C_NoDeed : Addr} {C_NoNumber : Addr} {C_NoThing : Addr} {C_Taken : Addr} {C_World : Addr}
theorem sc_law_pool : FnScope ["_law_script", "_law_k", "_law_cell", "_law_number"] ["_law_script", "_law_k"] (defScope s_law_pool) := ⟨rfl, rfl, rfl, by decide +kernel, rfl, by decide +kernel, by decide +kernel⟩
theorem ok_law_pool {f : Addr} {fd : FuncData} (F : Fun K "_law_pool" "_law_pool" s_law_pool f fd) (T : Txt K mg C_Bare C_Full C_NoDeed C_NoNumber C_NoThing C_Taken C_World) : FnOk P w K mg base CX0 1 f fd ["_law_script", "_law_k"] (sp_law_pool K) := by
  refine F.ok sc_law_pool (fun vs H Q E h => ?_) (fun cdv A outer s H vs Q E hr h => ?_)
  · obtain ⟨a, ns, i, rfl, _⟩ := h
    all_goals rfl
  · obtain ⟨a, ns, i, rfl, ha, h0, h1, k⟩ := h
    refine ⟨_, (pss_cons (ps_set (i := 2) sc_law_pool.nd rfl (Or.inl rfl) pe_int)
    (pss_cons (ps_if (pt_cmpR op_lt (pv 1) (pe_callB (call_lenK (K := K)) (by rfl) T.b_len (by decide +kernel) (pa_cons (pv 0) pa_nil)) (nomark _)) (pss_one (ps_set (i := 2) sc_law_pool.nd rfl (Or.inl rfl) (pe_ix (ix_listK (K := K)) (pv 0) (pv 1) (fun _ _ => rfl)))) pss_nil)
    (pss_cons (ps_set (i := 3) sc_law_pool.nd rfl (Or.inl rfl) (pe_op op_mod (pe_op op_pow (pe_op op_add (pe_op op_add (pe_op op_mod (pv 2) pe_int) (pe_op op_mul (pe_op op_mul pe_int (pv 1)) (pv 1))) pe_int) pe_int) pe_int))
    (pss_cons (ps_if (pt_cmpR op_lt (pv 2) (pe_op op_pow pe_int pe_int) (nomark _)) (pss_one (ps_set (i := 2) sc_law_pool.nd rfl (Or.inl rfl) pe_int)) pss_nil)
    (pss_one (ps_ret (pe_lst (pa_cons (pv 2) (pa_cons (pv 3) pa_nil))))))))), ?_⟩
    have go : ∀ c : Int, tSeq (tAsg (tOp (rI (fun x j => 0 < j) fun i j => V.int (i % j))
                (tOp (rI CPow fun i j => V.int (i ^ j.toNat))
                  (tOp (rI0 fun i j => V.int (i + j))
                    (tOp (rI0 fun i j => V.int (i + j))
                      (tOp (rI (fun x j => 0 < j) fun i j => V.int (i % j)) (tVar 2) (tC (V.int 2147483629)))
                      (tOp (rI CMul fun i j => V.int (i * j))
                        (tOp (rI CMul fun i j => V.int (i * j)) (tC (V.int 104729)) (tVar 1)) (tVar 1)))
                    (tC (V.int 11)))
                  (tC (V.int 3)))
                (tC (V.int 2147483647)))
              (gName 3))
            (tSeq
              (tIfS
                (tTest
                  (tOp (rI0 fun i j => V.bl (decide (i < j))) (tVar 2)
                    (tOp (rI CPow fun i j => V.int (i ^ j.toNat)) (tC (V.int 10)) (tC (V.int 18)))))
                (tAsg (tC (V.int 0)) (gName 2)) tNext)
              (tRet (tLst (tCons (tVar 2) (tCons (tVar 3) tNil))))) { nx := fun x H' => Q V.non H', rt := Q } [some (.ref a), some (.int i), some (.int c), none] H := fun c => by
        have z0 : 0 ≤ c % 2147483629 := Int.emod_nonneg _ (by decide)
        have z1 : c % 2147483629 < 2147483629 := Int.emod_lt_of_pos _ (by decide)
        have m0 : 0 ≤ i * i := Int.mul_nonneg h0 h0
        have m1 : i * i < 1000000 := by
          have : i * i ≤ 999 * 999 := Int.mul_le_mul (by omega) (by omega) h0 (by decide)
          omega
        have ea : 104729 * i * i = 104729 * (i * i) := Int.mul_assoc _ _ _
        refine ⟨_, rfl, _, _, rfl, rfl, (by show (0 : Int) < 2147483629; decide), _, rfl, _, _, rfl, rfl, .inl ⟨by decide, by decide⟩, _, rfl, _, _, rfl, rfl, .inr ⟨by omega, by omega⟩, _, _, rfl, rfl, _, _, rfl, rfl, _, _, rfl, rfl, ⟨by decide, by decide, by omega⟩, _, _, rfl, rfl, (by show (0 : Int) < 2147483647; decide), ?_⟩
        have y0 : 0 ≤ ((c % 2147483629 + 104729 * i * i + 11) ^ (3 : Int).toNat) % 2147483647 := Int.emod_nonneg _ (by decide)
        have y1 : ((c % 2147483629 + 104729 * i * i + 11) ^ (3 : Int).toNat) % 2147483647 < 2147483647 := Int.emod_lt_of_pos _ (by decide)
        refine ⟨_, rfl, _, _, rfl, rfl, ⟨by decide, by decide, by decide⟩, _, _, rfl, rfl, _, rfl, ?_⟩
        refine ite2 (fun _ => ?_) (fun _ => ?_)
        · exact ⟨_, rfl, _, rfl, (by show 2 ≤ sizeLine; decide), fun p hp => k p _ hp (Same.new hp) ⟨_, _, upd_same, y0, y1⟩⟩
        · exact ⟨_, rfl, _, rfl, (by show 2 ≤ sizeLine; decide), fun p hp => k p _ hp (Same.new hp) ⟨_, _, upd_same, y0, y1⟩⟩
    refine ⟨_, rfl, _, rfl, _, _, rfl, .inl ha, _, _, rfl, rfl, _, rfl, ?_⟩
    refine ite2 (fun q => ?_) (fun _ => go 0)
    have hl : i < (ns.length : Int) := by
      have q := of_decide_eq_true q
      rw [List.length_map] at q
      exact q
    obtain ⟨j, rfl⟩ : ∃ j : Nat, i = (j : Int) := ⟨i.toNat, by omega⟩
    have hj : j < ns.length := by omega
    refine ⟨_, rfl, _, rfl, _, _, _, _, rfl, rfl, ha, atI_nat (by rw [List.getElem?_map, List.getElem?_eq_getElem hj]; rfl), go _⟩
theorem sc_law_take : FnScope ["_law_pool_here", "_law_many", "_law_found"] ["_law_pool_here", "_law_many"] (defScope s_law_take) := ⟨rfl, rfl, rfl, by decide +kernel, rfl, by decide +kernel, by decide +kernel⟩
theorem ok_law_take {f : Addr} {fd : FuncData} (F : Fun K "_law_take" "_law_take" s_law_take f fd) (T : Txt K mg C_Bare C_Full C_NoDeed C_NoNumber C_NoThing C_Taken C_World) : FnOk P w K mg base CX0 1 f fd ["_law_pool_here", "_law_many"] (sp_law_take) := by
  refine F.ok sc_law_take (fun vs H Q E h => ?_) (fun cdv A outer s H vs Q E hr h => ?_)
  · obtain ⟨p, m, rfl, _⟩ := h
    all_goals rfl
  · obtain ⟨p, m, rfl, hp, h0, h1, k⟩ := h
    refine ⟨_, (pss_cons (ps_if (pt_cmpR op_gt (pe_ix (ix_listK (K := K)) (pv 0) pe_int (fun _ _ => rfl)) pe_int (nomark _)) (pss_cons (ps_set (i := 2) sc_law_take.nd rfl (Or.inl rfl) (pe_op op_mod (pe_ix (ix_listK (K := K)) (pv 0) pe_int (fun _ _ => rfl)) (pv 1)))
    (pss_cons (ps_asg (pe_op op_fdivW (pe_ix (ix_listK (K := K)) (pv 0) pe_int (fun _ _ => rfl)) (pv 1)) (pg_sub (pv 0) pe_int set_list))
    (pss_one (ps_ret (pv 2))))) pss_nil)
    (pss_cons (ps_asg (pe_op op_mod (pe_op op_add (pe_op op_mul (pe_ix (ix_listK (K := K)) (pv 0) pe_int (fun _ _ => rfl)) pe_int) pe_int) pe_int) (pg_sub (pv 0) pe_int set_list))
    (pss_one (ps_ret (pe_op op_mod (pe_op op_fdiv (pe_op op_mod (pe_op op_mul (pe_ix (ix_listK (K := K)) (pv 0) pe_int (fun _ _ => rfl)) (pe_ix (ix_listK (K := K)) (pv 0) pe_int (fun _ _ => rfl))) pe_int) pe_int) (pv 1)))))), ?_⟩
    obtain ⟨c, n, hp, n0, n1⟩ := hp
    refine ⟨_, rfl, _, _, _, _, rfl, rfl, SqL.of hp, atI0, _, _, rfl, rfl, _, rfl, ?_⟩
    refine ite2 (fun _ => ?_) (fun _ => ?_)
    · refine ⟨_, rfl, _, _, _, _, rfl, rfl, SqL.of hp, atI0, _, rfl, _, _, rfl, rfl, h0, ?_⟩
      refine ⟨_, rfl, _, _, _, _, rfl, rfl, SqL.of hp, atI0, _, rfl, _, _, rfl, rfl, wide_div h0 (b := 64) (by omega) (by decide) (by decide), _, rfl, _, _, _, 0, rfl, rfl, hp, rfl, ?_⟩
      exact ⟨_, rfl, k _ _ (Int.emod_nonneg _ (by omega)) (Int.emod_lt_of_pos _ h0) (Off.upd (Off.refl _ _)) ⟨_, n, upd_same, n0, n1⟩⟩
    · refine ⟨_, rfl, _, _, _, _, rfl, rfl, SqL.of hp, atI1, _, _, rfl, rfl, .inr ⟨by decide, by decide⟩, _, _, rfl, rfl, _, _, rfl, rfl, (by show (0 : Int) < 2147483647; decide), _, rfl, _, _, _, 1, rfl, rfl, hp, rfl, ?_⟩
      have z0 : 0 ≤ (n * 48271 + 11) % 2147483647 := Int.emod_nonneg _ (by decide)
      have z1 : (n * 48271 + 11) % 2147483647 < 2147483647 := Int.emod_lt_of_pos _ (by decide)
      refine ⟨_, rfl, _, _, _, _, rfl, rfl, SqL.of upd_same, atI1, _, rfl, _, _, _, _, rfl, rfl, SqL.of upd_same, atI1, _, _, rfl, rfl, .inl ⟨by omega, by omega⟩, _, _, rfl, rfl, (by show (0 : Int) < 2147483629; decide), _, _, rfl, rfl, ⟨by decide, by decide⟩, _, rfl, _, _, rfl, rfl, h0, ?_⟩
      exact k _ _ (Int.emod_nonneg _ (by omega)) (Int.emod_lt_of_pos _ h0) (Off.upd (Off.refl _ _)) ⟨_, _, upd_same, z0, z1⟩
theorem sc_is_whole : FnScope ["thing"] ["thing"] (defScope s_is_whole) := ⟨rfl, rfl, rfl, by decide +kernel, rfl, by decide +kernel, by decide +kernel⟩
theorem ok_is_whole {f : Addr} {fd : FuncData} (F : Fun K "is_whole" "is_whole" s_is_whole f fd) (T : Txt K mg C_Bare C_Full C_NoDeed C_NoNumber C_NoThing C_Taken C_World) : FnOk P w K mg base CX0 1 f fd ["thing"] (sp_is_whole) := by
  refine F.ok sc_is_whole (fun vs H Q E h => ?_) (fun cdv A outer s H vs Q E hr h => ?_)
  · obtain ⟨x, r, rfl, _⟩ := h
    all_goals rfl
  · obtain ⟨x, r, rfl, hx, k⟩ := h
    refine ⟨_, (pss_one (ps_ret (pe_and (pe_callB (call_isiK1 (K := K)) (by rfl) T.b_isinstance (by decide +kernel) (pa_cons (pv 0) (pa_cons (pe_bltn (v := .ty "int") (by rfl) T.b_int (by decide +kernel) rfl) pa_nil))) (pe_one (pe_not (pe_callB (call_isiK1 (K := K)) (by rfl) T.b_isinstance (by decide +kernel) (pa_cons (pv 0) (pa_cons (pe_bltn (v := .ty "bool") (by rfl) T.b_bool (by decide +kernel) rfl) pa_nil)))))))), ?_⟩
    rcases hx with ⟨i, rfl, rfl⟩ | ⟨hx, rfl⟩
    · refine Evl.s_ret (Evl.ev_andV (a := true) (b := true) (Evl.ev_isi (Evl.ev_var rfl) Evl.ev_c (.ty "int") (fun _ _ => .base (.int _)) (kit_ty (r := true) (by decide +kernel)))
        (fun _ => Evl.ev_notV (a := false) (Evl.ev_isi (Evl.ev_var rfl) Evl.ev_c (.ty "bool") (fun _ _ => .base (.int _)) (kit_ty (r := false) (by decide +kernel))))) fun H1 e => k H1 e
    · obtain ⟨t, ht, hk | ⟨hk, hk2⟩⟩ := hx.ty (K := K)
      · exact ⟨_, rfl, x, _, _, _, false, rfl, .ty "int", ht, kit_ty hk, false, rfl, k H (Same.refl H)⟩
      · exact ⟨_, rfl, x, _, _, _, true, rfl, .ty "int", ht, kit_ty hk, true, rfl, ⟨_, rfl, x, _, _, _, true, rfl, .ty "bool", ht, kit_ty hk2, true, rfl, k H (Same.refl H)⟩⟩
theorem sc_NoNumber___init__ : FnScope ["self", "number"] ["self", "number"] (defScope s_NoNumber___init__) := ⟨rfl, rfl, rfl, by decide +kernel, rfl, by decide +kernel, by decide +kernel⟩
theorem ok_NoNumber___init__ {f : Addr} {fd : FuncData} (F : Fun K "__init__" "NoNumber.__init__" s_NoNumber___init__ f fd) (T : Txt K mg C_Bare C_Full C_NoDeed C_NoNumber C_NoThing C_Taken C_World) : FnOk P w K mg base CX0 1 f fd ["self", "number"] (sp_NoNumber___init__ C_NoNumber) := by
  refine F.ok sc_NoNumber___init__ (fun vs H Q E h => ?_) (fun cdv A outer s H vs Q E hr h => ?_)
  · obtain ⟨a, v, rfl, _⟩ := h
    all_goals rfl
  · obtain ⟨a, v, rfl, ha, k⟩ := h
    refine ⟨_, (pss_cons (ps_expr (pe_xi (B := "LookupError") (ni := "LookupError.__new__") (ii := "LookupError.__init__") (bm := [.type "LookupError", .type "Exception", .type "BaseException", .type "object"]) rfl T.b_LookupError (by rfl) (by decide) (by decide) (by kernel_rfl) T.v_LookupError (pa_cons (pv 0) (pa_cons pe_str pa_nil))))
    (pss_one (ps_xs (B := "LookupError") (ni := "LookupError.__new__") (ii := "LookupError.__init__") (bm := [.type "LookupError", .type "Exception", .type "BaseException", .type "object"]) (pv 0) (pv 1)))), ?_⟩
    refine ⟨_, rfl, a, C_NoNumber, [_], rfl, (by show 1 ≤ 1000; decide), T.x_NoNumber.xi, ha, ?_⟩
    exact ⟨_, rfl, _, rfl, a, C_NoNumber, rfl, T.x_NoNumber.xi, taker_none T.y_NoNumber_number, .inl ⟨ha, fun d hd ne => k d hd ne⟩⟩
theorem sc_World___init__ : FnScope ["self", "things"] ["self", "things"] (defScope s_World___init__) := ⟨rfl, rfl, rfl, by decide +kernel, rfl, by decide +kernel, by decide +kernel⟩
theorem ok_World___init__ {f : Addr} {fd : FuncData} (F : FunD K "__init__" "World.__init__" (defArgs s_World___init__) (defBody s_World___init__) (defScope s_World___init__) [.int 0] [] f fd) (T : Txt K mg C_Bare C_Full C_NoDeed C_NoNumber C_NoThing C_Taken C_World) (kn_is_whole : KN P w K mg base CX0 1 ["thing"] (sp_is_whole) "is_whole" []) (kn_NoNumber___init__ : KM P w K mg base CX0 1 ["self", "number"] (sp_NoNumber___init__ C_NoNumber) C_NoNumber "__init__" []) : FnOk P w K mg base (L2.CX P w) 3 f fd ["self", "things"] (sp_World___init__ C_World C_NoNumber) := by
  obtain ⟨f_is_whole, fd_is_whole, ds_is_whole, m_is_whole, k_is_whole, v_is_whole, b_is_whole, G_is_whole⟩ := kn_is_whole
  obtain ⟨f_NoNumber___init__, fd_NoNumber___init__, ds_NoNumber___init__, i_NoNumber___init__, t_NoNumber___init__, fn_NoNumber___init__, k_NoNumber___init__, v_NoNumber___init__, b_NoNumber___init__, G_NoNumber___init__⟩ := kn_NoNumber___init__
  refine F.ok sc_World___init__ (fun vs H Q E h => ?_) (fun cdv A outer s H vs Q E hr h => ?_)
  · obtain ⟨a, dx, x, r, rfl, _⟩ := h
    all_goals rfl
  · obtain ⟨a, dx, x, r, rfl, ha, hx, k⟩ := h
    refine ⟨_, (pss_cons (ps_if (PW.pt (pw_or (pt_not (pt_val (pe_call G_is_whole (hr.mono (by decide)) rfl m_is_whole k_is_whole b_is_whole v_is_whole pass0 (pa_cons (pv 1) pa_nil)))) (pw_or1 (pt_not (pt_chain op_le op_le pe_int (pv 1) (pe_globC T.g_MOST_THINGS)))))) (pss_one (ps_raise rfl (takes_of rfl rfl rfl rfl) (pmk_xi T.x_NoNumber.xi i_NoNumber___init__ t_NoNumber___init__ G_NoNumber___init__ (hr.mono (by decide)) b_NoNumber___init__ v_NoNumber___init__ pass0 rfl T.x_NoNumber.gC (pa_cons (pv 1) pa_nil)))) pss_nil)
    (pss_cons (ps_fld (pv 0) (pv 1) rfl)
    (pss_one (ps_fld (pv 0) pe_dnewT rfl)))), ?_⟩
    obtain ⟨k1, k2⟩ := k
    have no : ∀ H1, Same H H1 → r = false → (tMkO C_NoNumber (sp_NoNumber___init__ C_NoNumber) [] (tCons (tVar 1) tNil)) [some (.ref a), some x] H1 E := fun H1 s1 hr => by
      refine ⟨_, rfl, (by show 1 ≤ 1000; decide), fun e he => ⟨e, x, rfl, upd_same, fun d hd ne => madeF he (fun d' H' s' h' => k2 hr d' H' (Same.trans s1 s') h') d hd ne⟩⟩
    rcases hx with ⟨i, rfl, rfl⟩ | ⟨hx, rfl⟩
    rotate_left
    · exact ⟨_, rfl, _, false, rfl, .inr ⟨hx, rfl⟩, fun H1 s1 => ⟨false, rfl, iteT (no H1 s1 rfl)⟩⟩
    refine ⟨_, rfl, _, true, rfl, .inl ⟨i, rfl, rfl⟩, fun H1 s1 => ⟨true, rfl, iteF ?_⟩⟩
    refine ⟨_, rfl, _, _, rfl, rfl, _, rfl, ?_⟩
    by_cases q : 0 ≤ i
    rotate_left
    · rw [decide_eq_false q]
      exact iteF ⟨false, rfl, iteT (no H1 s1 (decide_eq_false fun z => q z.1))⟩
    rw [decide_eq_true q]
    refine iteT ⟨_, _, rfl, rfl, _, rfl, ?_⟩
    by_cases q2 : i ≤ 61
    rotate_left
    · rw [decide_eq_false q2]
      exact iteT (no H1 s1 (decide_eq_false fun z => q2 (by have := z.2; omega)))
    rw [decide_eq_true q2]
    obtain ⟨n, rfl⟩ : ∃ n : Nat, i = (n : Int) := ⟨i.toNat, by omega⟩
    refine iteF ?_
    refine ⟨_, rfl, _, rfl, a, C_World, dx, [], rfl, s1 _ _ ha, T.o_World.cls, T.y_World_own_many, by decide, ?_⟩
    intro dw hdw
    have na : dw ≠ a := fun e => by
      rw [e, upd_same] at hdw
      cases hdw
    refine ⟨_, rfl, a, C_World, dx, [(Str.ofString "own_many", .int (n : Int))], rfl, (by rw [upd_ne na.symm]; exact upd_same), T.o_World.cls, T.y_World_own_ways, by show 1 < 1000; decide, ?_⟩
    have h1 : H1 dw = none := by rw [upd_ne na] at hdw; exact hdw
    refine k1 (decide_eq_true ⟨by omega, by omega⟩) n (by omega) rfl dw _ (Off.upd fun b o hb h => ?_) (Same.free s1 h1) ⟨⟨dx, upd_same⟩, (by rw [upd_ne na]; exact upd_same)⟩
    have h2 := s1 _ _ h
    rw [upd_ne (ne_of_none h2 h1), upd_ne hb]
    exact h2
theorem sc_World___len__ : FnScope ["self"] ["self"] (defScope s_World___len__) := ⟨rfl, rfl, rfl, by decide +kernel, rfl, by decide +kernel, by decide +kernel⟩
theorem ok_World___len__ {f : Addr} {fd : FuncData} (F : Fun K "__len__" "World.__len__" s_World___len__ f fd) (T : Txt K mg C_Bare C_Full C_NoDeed C_NoNumber C_NoThing C_Taken C_World) : FnOk P w K mg base CX0 1 f fd ["self"] (sp_World___len__ C_World) := by
  refine F.ok sc_World___len__ (fun vs H Q E h => ?_) (fun cdv A outer s H vs Q E hr h => ?_)
  · obtain ⟨a, dw, n, kvs, rfl, _⟩ := h
    all_goals rfl
  · obtain ⟨a, dw, n, kvs, rfl, hw, hn, k⟩ := h
    refine ⟨_, (pss_one (ps_ret (pe_lenR (by rfl) T.b_len (by rfl) T.b_range (pe_fld (pv 0) rfl)))), ?_⟩
    obtain ⟨⟨dx, ga⟩, gw⟩ := id hw
    exact ⟨_, rfl, a, C_World, dx, _, _, rfl, ga, T.o_World.cls, T.y_World_own_many, rfl, _, rfl, by omega, by omega, k H (Same.refl H)⟩
theorem sc_law_made : FnScope ["_law_thing", "_law_found", "e"] ["_law_thing"] (defScope s_law_made) := ⟨rfl, rfl, rfl, by decide +kernel, rfl, by decide +kernel, by decide +kernel⟩
theorem ok_law_made {f : Addr} {fd : FuncData} (F : Fun K "_law_made" "_law_made" s_law_made f fd) (T : Txt K mg C_Bare C_Full C_NoDeed C_NoNumber C_NoThing C_Taken C_World) (kn_World___init__ : KM P w K mg base (L2.CX P w) 3 ["self", "things"] (sp_World___init__ C_World C_NoNumber) C_World "__init__" []) (kn_World___len__ : KM P w K mg base CX0 1 ["self"] (sp_World___len__ C_World) C_World "__len__" []) : FnOk P w K mg base CX0 5 f fd ["_law_thing"] (sp_law_made C_World C_NoNumber) := by
  obtain ⟨f_World___init__, fd_World___init__, ds_World___init__, i_World___init__, t_World___init__, fn_World___init__, k_World___init__, v_World___init__, b_World___init__, G_World___init__⟩ := kn_World___init__
  obtain ⟨f_World___len__, fd_World___len__, ds_World___len__, i_World___len__, t_World___len__, fn_World___len__, k_World___len__, v_World___len__, b_World___len__, G_World___len__⟩ := kn_World___len__
  refine F.ok sc_law_made (fun vs H Q E h => ?_) (fun cdv A outer s H vs Q E hr h => ?_)
  · obtain ⟨x, r, rfl, _⟩ := h
    all_goals rfl
  · obtain ⟨x, r, rfl, hx, k⟩ := h
    refine ⟨_, (pss_cons (ps_try_as (i := 2) rfl rfl sc_law_made.nd rfl rfl ⟨rfl, by decide, Or.inl T.x_NoNumber.gC⟩ takes0
    (fun W pn xe tk po => (pss_one (ps_set (i := 1) sc_law_made.nd rfl (Or.inl rfl) (pe_lst (pa_cons pe_str (pa_cons (pe_callB (call_lenO i_World___len__ fn_World___len__ G_World___len__ (hr.mono (by decide)) b_World___len__ v_World___len__ pass0) (by rfl) T.b_len (by decide +kernel) (pa_cons (pe_makeSD ⟨T.o_World.made, i_World___init__, fn_World___init__, T.o_World.kC⟩ G_World___init__ (hr.mono (by decide)) rfl T.o_World.gC b_World___init__ v_World___init__ (fun σ => passAt tk σ) (pa_cons (pv 0) pa_nil)) pa_nil)) pa_nil))))))
    (fun a oe cls d pn hz hf => (pss_cons (ps_set (i := 1) sc_law_made.nd rfl (Or.inl rfl) (pe_lst (pa_cons pe_str (pa_cons (pe_xf T.x_NoNumber.xf T.y_NoNumber_number hz hf (pv 2)) pa_nil))))
    (pss_one (ps_if (PW.pt (pw_or (pt_not (pt_val (pe_callB (call_isX (K := K) hz hf) (by rfl) T.b_isinstance (by decide +kernel) (pa_cons (pv 2) (pa_cons (pe_bltn (v := .ty "LookupError") (by rfl) T.b_LookupError (by decide +kernel) rfl) pa_nil))))) (pw_or1 (pt_val (pe_callB (call_isXT (K := K) hz hf) (by rfl) T.b_isinstance (by decide +kernel) (pa_cons (pv 2) (pa_cons (pe_tup (pa_cons (pe_bltn (v := .ty "KeyError") (by rfl) T.b_KeyError (by decide +kernel) rfl) (pa_cons (pe_bltn (v := .ty "IndexError") (by rfl) T.b_IndexError (by decide +kernel) rfl) pa_nil))) pa_nil))))))) (pss_one (ps_set (i := 1) sc_law_made.nd rfl (Or.inl rfl) (pe_lst (pa_cons pe_str pa_nil)))) pss_nil)))))
    (pss_one (ps_ret (pv 1)))), ?_⟩
    refine ⟨_, rfl, fun wa wd na nd nx => ⟨wa, wd, x, r, rfl, upd_same, hx.same (Same.trans (Same.new nd) (Same.new (by rw [upd_ne nx.symm]; exact na))), ⟨fun hr n hn en dw H2 off2 ndw hw2 => ⟨rfl, ?_⟩, fun hr d H2 s2 hd => ?_⟩⟩⟩
    · have s1 : Same H H2 := fun b o h => off2 b o (ne_of_none h na) (by rw [upd_ne (ne_of_none h na), upd_ne (ne_of_none h nd)]; exact h)
      refine ⟨wa, _, _, rfl, hw2.1.choose_spec, wa, dw, n, [], rfl, hw2, by omega, fun H3 s3 => ⟨n, rfl, by omega, by show 2 ≤ sizeLine; decide, fun q hq => ⟨_, rfl, k q _ (Same.trans s1 (Same.trans s3 (Same.new hq))) (Same.free s1 (Same.free s3 hq)) ?_⟩⟩⟩
      rw [hr, en]
      exact upd_same
    have mid : Same H H2 := Same.trans (Same.trans (Same.new nd) (Same.new (by rw [upd_ne nx.symm]; exact na))) s2
    refine ⟨true, T.x_NoNumber.te, fun _ e ne => ?_, fun h => nomatch h⟩
    refine ⟨_, rfl, rfl, rfl, d, _, _, rfl, hd, rfl, (by show 2 ≤ sizeLine; decide), fun q hq => ?_⟩
    have hd2 := Same.new (o := .lst [.str (Str.ofString "number"), x]) hq _ _ hd
    refine ⟨_, rfl, C_NoNumber, _, _, true, ⟨rfl, .inr ⟨d, _, rfl, hd2⟩, T.x_NoNumber.ok⟩, rfl, .ty "LookupError", kit_exT T.e1, true, rfl, iteF ?_⟩
    refine ⟨_, rfl, (by show 2 ≤ sizeLine; decide), fun t ht => ⟨C_NoNumber, t, _, _, false, ⟨rfl, .inr ⟨d, _, rfl, Same.new ht _ _ hd2⟩, T.x_NoNumber.ok⟩, rfl, upd_same, .cons (.ty _) (.cons (.ty _) .nil), kitAny_cons (kit_exT T.e2) (fun _ => kitAny_cons (kit_exT T.e3) (fun _ => kitAny_nil) (fun h => nomatch h)) (fun h => nomatch h), false, rfl, iteF ?_⟩⟩
    refine ⟨_, rfl, k q _ (Same.trans mid (Same.trans (Same.new hq) (Same.new ht))) (Same.free mid hq) ?_⟩
    rw [upd_ne (ne_of_none upd_same ht), hr]
    exact upd_same
theorem sc_Full___init__ : FnScope ["self", "size"] ["self", "size"] (defScope s_Full___init__) := ⟨rfl, rfl, rfl, by decide +kernel, rfl, by decide +kernel, by decide +kernel⟩
theorem ok_Full___init__ {f : Addr} {fd : FuncData} (F : Fun K "__init__" "Full.__init__" s_Full___init__ f fd) (T : Txt K mg C_Bare C_Full C_NoDeed C_NoNumber C_NoThing C_Taken C_World) : FnOk P w K mg base CX0 1 f fd ["self", "size"] (sp_Full___init__ C_Full) := by
  refine F.ok sc_Full___init__ (fun vs H Q E h => ?_) (fun cdv A outer s H vs Q E hr h => ?_)
  · obtain ⟨a, v, rfl, _⟩ := h
    all_goals rfl
  · obtain ⟨a, v, rfl, ha, k⟩ := h
    refine ⟨_, (pss_cons (ps_expr (pe_xi (B := "OverflowError") (ni := "OverflowError.__new__") (ii := "OverflowError.__init__") (bm := [.type "OverflowError", .type "ArithmeticError", .type "Exception", .type "BaseException", .type "object"]) rfl T.b_OverflowError (by rfl) (by decide) (by decide) (by kernel_rfl) T.v_OverflowError (pa_cons (pv 0) (pa_cons pe_str pa_nil))))
    (pss_one (ps_xs (B := "OverflowError") (ni := "OverflowError.__new__") (ii := "OverflowError.__init__") (bm := [.type "OverflowError", .type "ArithmeticError", .type "Exception", .type "BaseException", .type "object"]) (pv 0) (pv 1)))), ?_⟩
    refine ⟨_, rfl, a, C_Full, [_], rfl, (by show 1 ≤ 1000; decide), T.x_Full.xi, ha, ?_⟩
    exact ⟨_, rfl, _, rfl, a, C_Full, rfl, T.x_Full.xi, taker_none T.y_Full_size, .inl ⟨ha, fun d hd ne => k d hd ne⟩⟩
theorem sc_World_add : FnScope ["self"] ["self"] (defScope s_World_add) := ⟨rfl, rfl, rfl, by decide +kernel, rfl, by decide +kernel, by decide +kernel⟩
theorem ok_World_add {f : Addr} {fd : FuncData} (F : Fun K "add" "World.add" s_World_add f fd) (T : Txt K mg C_Bare C_Full C_NoDeed C_NoNumber C_NoThing C_Taken C_World) (kn_Full___init__ : KM P w K mg base CX0 1 ["self", "size"] (sp_Full___init__ C_Full) C_Full "__init__" []) : FnOk P w K mg base (L2.CX P w) 3 f fd ["self"] (sp_World_add C_World C_Full) := by
  obtain ⟨f_Full___init__, fd_Full___init__, ds_Full___init__, i_Full___init__, t_Full___init__, fn_Full___init__, k_Full___init__, v_Full___init__, b_Full___init__, G_Full___init__⟩ := kn_Full___init__
  refine F.okX sc_World_add (fun vs H Q E h => ?_) (fun cdv A outer s H vs Q E hr h => ?_)
  · obtain ⟨a, dw, n, kvs, rfl, _⟩ := h
    all_goals rfl
  · obtain ⟨a, dw, n, kvs, rfl, hw, hn, k⟩ := h
    refine ⟨_, (pss_cons (ps_if (pt_cmpR op_eq (pe_fld (pv 0) rfl) (pe_globC T.g_MOST_THINGS) (nomark _)) (pss_one (ps_raise rfl (takes_of rfl rfl rfl rfl) (pmk_xi T.x_Full.xi i_Full___init__ t_Full___init__ G_Full___init__ (hr.mono (by decide)) b_Full___init__ v_Full___init__ pass0 rfl T.x_Full.gC (pa_cons (pe_op op_add (pe_globC T.g_MOST_THINGS) pe_int) pa_nil)))) pss_nil)
    (pss_cons (ps_fldaug (pv 0) pe_int in_add)
    (pss_one (ps_ret (pe_op op_sub (pe_fld (pv 0) rfl) pe_int))))), ?_⟩
    obtain ⟨k1, k2⟩ := k
    obtain ⟨⟨dx, ga⟩, gw⟩ := id hw
    refine ⟨_, rfl, a, C_World, dx, _, _, rfl, ga, T.o_World.cls, T.y_World_own_many, rfl, rfl, _, rfl, ?_⟩
    rw [dec_int]
    by_cases q : n = 61
    · have e : (((n : Nat) : Int) == 61) = true := by rw [q]; rfl
      rw [e]
      refine iteT ⟨_, _, rfl, rfl, (by show 1 ≤ 1000; decide), fun e he => ⟨e, .int 62, rfl, upd_same, fun d hd ne => madeF he (fun d' H' s' h' => k2 q d' H' s' h') d hd ne⟩⟩
    have e : (((n : Nat) : Int) == 61) = false := beq_eq_false_iff_ne.mpr (by omega)
    rw [e]
    refine iteF ⟨_, rfl, a, C_World, dx, _, _, rfl, ga, T.o_World.cls, T.y_World_own_many, rfl, _, _, rfl, rfl, dx, _, ga, (by show 2 < 1000; decide), ?_⟩
    have ga2 : (upd H a (.ins C_World dx (wfs (n + 1) dw))) a = some (.ins C_World dx (wfs (n + 1) dw)) := upd_same
    refine ⟨_, rfl, a, C_World, dx, _, _, rfl, ga2, T.o_World.cls, T.y_World_own_many, rfl, _, _, rfl, rfl, ?_⟩
    have e2 : ((n + 1 : Nat) : Int) - 1 = n := by omega
    show Q (.int (((n + 1 : Nat) : Int) - 1)) _
    rw [e2]
    refine k1 (by omega) _ (fun b o hb h => ?_) ⟨⟨dx, ga2⟩, ?_⟩
    · rw [upd_ne hb]; exact h
    · rw [upd_ne hw.ne.symm]; exact gw
theorem sc_law_added : FnScope ["_law_world", "_law_found", "e"] ["_law_world"] (defScope s_law_added) := ⟨rfl, rfl, rfl, by decide +kernel, rfl, by decide +kernel, by decide +kernel⟩
theorem ok_law_added {f : Addr} {fd : FuncData} (F : Fun K "_law_added" "_law_added" s_law_added f fd) (T : Txt K mg C_Bare C_Full C_NoDeed C_NoNumber C_NoThing C_Taken C_World) (kn_World_add : KM P w K mg base (L2.CX P w) 3 ["self"] (sp_World_add C_World C_Full) C_World "add" []) : FnOk P w K mg base CX0 4 f fd ["_law_world"] (sp_law_added C_World C_Full) := by
  obtain ⟨f_World_add, fd_World_add, ds_World_add, i_World_add, t_World_add, fn_World_add, k_World_add, v_World_add, b_World_add, G_World_add⟩ := kn_World_add
  refine F.ok sc_law_added (fun vs H Q E h => ?_) (fun cdv A outer s H vs Q E hr h => ?_)
  · obtain ⟨a, dw, n, kvs, rfl, _⟩ := h
    all_goals rfl
  · obtain ⟨a, dw, n, kvs, rfl, hw, hn, k⟩ := h
    refine ⟨_, (pss_cons (ps_try_as (i := 2) rfl rfl sc_law_added.nd rfl rfl ⟨rfl, by decide, Or.inl T.x_Full.gC⟩ takes0
    (fun W pn xe tk po => (pss_one (ps_set (i := 1) sc_law_added.nd rfl (Or.inl rfl) (pe_lst (pa_cons pe_str (pa_cons (pe_methSD0 (pv 0) T.o_World.cls ⟨i_World_add, fn_World_add, k_World_add⟩ G_World_add (hr.mono (by decide)) b_World_add v_World_add (fun σ => passAt tk σ)) pa_nil))))))
    (fun a oe cls d pn hz hf => (pss_cons (ps_set (i := 1) sc_law_added.nd rfl (Or.inl rfl) (pe_lst (pa_cons pe_str (pa_cons (pe_xf T.x_Full.xf T.y_Full_size hz hf (pv 2)) pa_nil))))
    (pss_one (ps_if (pt_not (pt_val (pe_callB (call_isX (K := K) hz hf) (by rfl) T.b_isinstance (by decide +kernel) (pa_cons (pv 2) (pa_cons (pe_bltn (v := .ty "OverflowError") (by rfl) T.b_OverflowError (by decide +kernel) rfl) pa_nil))))) (pss_one (ps_set (i := 1) sc_law_added.nd rfl (Or.inl rfl) (pe_lst (pa_cons pe_str pa_nil)))) pss_nil)))))
    (pss_one (ps_ret (pv 1)))), ?_⟩
    refine ⟨_, rfl, a, _, _, rfl, hw.1.choose_spec, rfl, a, dw, n, kvs, rfl, hw, hn, ⟨fun h1 H2 o2 w2 => ?_, fun h1 d H2 s2 hd => ?_⟩⟩
    · refine ⟨by show 2 ≤ sizeLine; decide, fun q hq => ⟨_, rfl, k q _ ?_ ?_ ?_ ?_⟩⟩
      · exact fun b o hb h => Same.new hq _ _ (o2 b o hb h)
      · rw [if_neg (by omega)]
        exact w2.same (Same.new hq)
      · cases e : H q with
        | none => rfl
        | some o =>
          rw [o2 q o (fun e2 => by rw [e2, w2.1.choose_spec] at hq; cases hq) e] at hq
          cases hq
      · rw [if_neg (by omega)]
        exact upd_same
    refine ⟨true, T.x_Full.te, fun _ e ne => ?_, fun h => nomatch h⟩
    refine ⟨_, rfl, rfl, rfl, d, _, _, rfl, hd, rfl, (by show 2 ≤ sizeLine; decide), fun q hq => ?_⟩
    have hd2 := Same.new (o := .lst [.str (Str.ofString "full"), .int 62]) hq _ _ hd
    refine ⟨_, rfl, C_Full, _, _, true, ⟨rfl, .inr ⟨d, _, rfl, hd2⟩, T.x_Full.ok⟩, rfl, .ty "OverflowError", kit_exT T.e4, true, rfl, iteF ?_⟩
    have s3 := Same.trans s2 (Same.new (o := .lst [.str (Str.ofString "full"), .int 62]) hq)
    refine ⟨_, rfl, k q _ (fun b o _ h => s3 b o h) ?_ (Same.free s2 hq) ?_⟩
    · rw [if_pos h1]
      have := hw.same s3
      rw [h1] at this
      exact this
    rw [if_pos h1]
    exact upd_same
theorem sc_NoDeed___init__ : FnScope ["self", "deed"] ["self", "deed"] (defScope s_NoDeed___init__) := ⟨rfl, rfl, rfl, by decide +kernel, rfl, by decide +kernel, by decide +kernel⟩
theorem ok_NoDeed___init__ {f : Addr} {fd : FuncData} (F : Fun K "__init__" "NoDeed.__init__" s_NoDeed___init__ f fd) (T : Txt K mg C_Bare C_Full C_NoDeed C_NoNumber C_NoThing C_Taken C_World) : FnOk P w K mg base CX0 1 f fd ["self", "deed"] (sp_NoDeed___init__ C_NoDeed) := by
  refine F.ok sc_NoDeed___init__ (fun vs H Q E h => ?_) (fun cdv A outer s H vs Q E hr h => ?_)
  · obtain ⟨a, v, rfl, _⟩ := h
    all_goals rfl
  · obtain ⟨a, v, rfl, ha, k⟩ := h
    refine ⟨_, (pss_cons (ps_expr (pe_xi (B := "KeyError") (ni := "LookupError.__new__") (ii := "KeyError.__init__") (bm := [.type "KeyError", .type "LookupError", .type "Exception", .type "BaseException", .type "object"]) rfl T.b_KeyError (by rfl) (by decide) (by decide) (by kernel_rfl) T.v_KeyError (pa_cons (pv 0) (pa_cons pe_str pa_nil))))
    (pss_one (ps_xs (B := "KeyError") (ni := "LookupError.__new__") (ii := "KeyError.__init__") (bm := [.type "KeyError", .type "LookupError", .type "Exception", .type "BaseException", .type "object"]) (pv 0) (pv 1)))), ?_⟩
    refine ⟨_, rfl, a, C_NoDeed, [_], rfl, (by show 1 ≤ 1000; decide), T.x_NoDeed.xi, ha, ?_⟩
    exact ⟨_, rfl, _, rfl, a, C_NoDeed, rfl, T.x_NoDeed.xi, taker_none T.y_NoDeed_deed, .inl ⟨ha, fun d hd ne => k d hd ne⟩⟩
theorem sc_World_look_at_deed : FnScope ["self", "deed"] ["self", "deed"] (defScope s_World_look_at_deed) := ⟨rfl, rfl, rfl, by decide +kernel, rfl, by decide +kernel, by decide +kernel⟩
theorem ok_World_look_at_deed {f : Addr} {fd : FuncData} (F : Fun K "look_at_deed" "World.look_at_deed" s_World_look_at_deed f fd) (T : Txt K mg C_Bare C_Full C_NoDeed C_NoNumber C_NoThing C_Taken C_World) (kn_NoDeed___init__ : KM P w K mg base CX0 1 ["self", "deed"] (sp_NoDeed___init__ C_NoDeed) C_NoDeed "__init__" []) : FnOk P w K mg base (L2.CX P w) 3 f fd ["self", "deed"] (sp_World_look_at_deed C_World C_NoDeed) := by
  obtain ⟨f_NoDeed___init__, fd_NoDeed___init__, ds_NoDeed___init__, i_NoDeed___init__, t_NoDeed___init__, fn_NoDeed___init__, k_NoDeed___init__, v_NoDeed___init__, b_NoDeed___init__, G_NoDeed___init__⟩ := kn_NoDeed___init__
  refine F.okX sc_World_look_at_deed (fun vs H Q E h => ?_) (fun cdv A outer s H vs Q E hr h => ?_)
  · obtain ⟨a, x, r, rfl, _⟩ := h
    all_goals rfl
  · obtain ⟨a, x, r, rfl, hx, k⟩ := h
    refine ⟨_, (pss_one (ps_if (PW.pt (pw_or (pt_not (pt_val (pe_callB (call_isiK1 (K := K)) (by rfl) T.b_isinstance (by decide +kernel) (pa_cons (pv 1) (pa_cons (pe_bltn (v := .ty "str") (by rfl) T.b_str (by decide +kernel) rfl) pa_nil))))) (pw_or (pt_cmpR op_ne (pe_callB call_len_str (by rfl) T.b_len (by decide +kernel) (pa_cons (pv 1) pa_nil)) pe_int (nomark _)) (pw_or1 (pt_cmpR op_notIn_sign (pv 1) (pe_globC T.g_DEEDS) rfl))))) (pss_one (ps_raise rfl (takes_of rfl rfl rfl rfl) (pmk_xi T.x_NoDeed.xi i_NoDeed___init__ t_NoDeed___init__ G_NoDeed___init__ (hr.mono (by decide)) b_NoDeed___init__ v_NoDeed___init__ pass0 rfl T.x_NoDeed.gC (pa_cons (pv 1) pa_nil)))) pss_nil)), ?_⟩
    obtain ⟨k1, k2⟩ := k
    have no : ∀ H1, Same H H1 → r = false → (tMkO C_NoDeed (sp_NoDeed___init__ C_NoDeed) [] (tCons (tVar 1) tNil)) [some (.ref a), some x] H1 E := fun H1 s1 hr => by
      refine ⟨_, rfl, (by show 1 ≤ 1000; decide), fun e he => ⟨e, x, rfl, upd_same, fun d hd ne => madeF he (fun d' H' s' h' => k2 hr d' H' (Same.trans s1 s') h') d hd ne⟩⟩
    rcases hx with ⟨c, rfl, hc, rfl⟩ | ⟨l, rfl, hz, hl, rfl⟩ | ⟨hx, rfl⟩
    · refine ⟨_, rfl, _, _, _, _, true, rfl, .ty "str", .base (.str _), kit_ty (by decide +kernel), true, rfl, iteF ?_⟩
      refine ⟨_, rfl, _, rfl, (by show 1 ≤ sizeLine; decide), rfl, _, rfl, iteNS rfl ⟨_, rfl, c, _, rfl, rfl, _, rfl, ?_⟩⟩
      rw [decide_eq_true (deed_in c hc.1 hc.2)]
      exact iteF (k1 rfl H (Same.refl H))
    · refine ⟨_, rfl, _, _, _, _, true, rfl, .ty "str", .base (.str _), kit_ty (by decide +kernel), true, rfl, iteF ?_⟩
      refine ⟨_, rfl, _, rfl, (by rw [len_S]; exact sz_of' (by omega)), rfl, _, rfl, ?_⟩
      by_cases z1 : l.length = 1
      rotate_left
      · rw [dec_int, len_S]
        have e : (((l.length : Nat) : Int) == 1) = false := beq_eq_false_iff_ne.mpr (by omega)
        rw [e]
        exact iteT (no H (Same.refl H) rfl)
      rcases hl with hl | ⟨c, rfl, hc⟩
      · exact absurd z1 hl
      refine iteNS rfl ⟨_, rfl, c, _, rfl, rfl, _, rfl, ?_⟩
      have hc2 : decide (c ∈ (Str.ofString "abcdef").cps.toList) = false := decide_eq_false hc
      rw [hc2]
      exact iteT (no H (Same.refl H) rfl)
    · obtain ⟨t, ht, hk⟩ := hx.ty (K := K)
      exact ⟨_, rfl, _, _, _, _, false, rfl, .ty "str", ht, kit_ty hk, false, rfl, iteT (no H (Same.refl H) rfl)⟩
theorem sc_NoThing___init__ : FnScope ["self", "thing"] ["self", "thing"] (defScope s_NoThing___init__) := ⟨rfl, rfl, rfl, by decide +kernel, rfl, by decide +kernel, by decide +kernel⟩
theorem ok_NoThing___init__ {f : Addr} {fd : FuncData} (F : Fun K "__init__" "NoThing.__init__" s_NoThing___init__ f fd) (T : Txt K mg C_Bare C_Full C_NoDeed C_NoNumber C_NoThing C_Taken C_World) : FnOk P w K mg base CX0 1 f fd ["self", "thing"] (sp_NoThing___init__ C_NoThing) := by
  refine F.ok sc_NoThing___init__ (fun vs H Q E h => ?_) (fun cdv A outer s H vs Q E hr h => ?_)
  · obtain ⟨a, v, rfl, _⟩ := h
    all_goals rfl
  · obtain ⟨a, v, rfl, ha, k⟩ := h
    refine ⟨_, (pss_cons (ps_expr (pe_xi (B := "IndexError") (ni := "IndexError.__new__") (ii := "IndexError.__init__") (bm := [.type "IndexError", .type "LookupError", .type "Exception", .type "BaseException", .type "object"]) rfl T.b_IndexError (by rfl) (by decide) (by decide) (by kernel_rfl) T.v_IndexError (pa_cons (pv 0) (pa_cons pe_str pa_nil))))
    (pss_one (ps_xs (B := "IndexError") (ni := "IndexError.__new__") (ii := "IndexError.__init__") (bm := [.type "IndexError", .type "LookupError", .type "Exception", .type "BaseException", .type "object"]) (pv 0) (pv 1)))), ?_⟩
    refine ⟨_, rfl, a, C_NoThing, [_], rfl, (by show 1 ≤ 1000; decide), T.x_NoThing.xi, ha, ?_⟩
    exact ⟨_, rfl, _, rfl, a, C_NoThing, rfl, T.x_NoThing.xi, taker_none T.y_NoThing_thing, .inl ⟨ha, fun d hd ne => k d hd ne⟩⟩
theorem sc_World_look_at_thing : FnScope ["self", "thing"] ["self", "thing"] (defScope s_World_look_at_thing) := ⟨rfl, rfl, rfl, by decide +kernel, rfl, by decide +kernel, by decide +kernel⟩
theorem ok_World_look_at_thing {f : Addr} {fd : FuncData} (F : Fun K "look_at_thing" "World.look_at_thing" s_World_look_at_thing f fd) (T : Txt K mg C_Bare C_Full C_NoDeed C_NoNumber C_NoThing C_Taken C_World) (kn_is_whole : KN P w K mg base CX0 1 ["thing"] (sp_is_whole) "is_whole" []) (kn_NoThing___init__ : KM P w K mg base CX0 1 ["self", "thing"] (sp_NoThing___init__ C_NoThing) C_NoThing "__init__" []) : FnOk P w K mg base (L2.CX P w) 3 f fd ["self", "thing"] (sp_World_look_at_thing C_World C_NoThing) := by
  obtain ⟨f_is_whole, fd_is_whole, ds_is_whole, m_is_whole, k_is_whole, v_is_whole, b_is_whole, G_is_whole⟩ := kn_is_whole
  obtain ⟨f_NoThing___init__, fd_NoThing___init__, ds_NoThing___init__, i_NoThing___init__, t_NoThing___init__, fn_NoThing___init__, k_NoThing___init__, v_NoThing___init__, b_NoThing___init__, G_NoThing___init__⟩ := kn_NoThing___init__
  refine F.okX sc_World_look_at_thing (fun vs H Q E h => ?_) (fun cdv A outer s H vs Q E hr h => ?_)
  · obtain ⟨a, dw, n, kvs, x, r, rfl, _⟩ := h
    all_goals rfl
  · obtain ⟨a, dw, n, kvs, x, r, rfl, hw, hx, k⟩ := h
    refine ⟨_, (pss_one (ps_if (PW.pt (pw_or (pt_not (pt_val (pe_call G_is_whole (hr.mono (by decide)) rfl m_is_whole k_is_whole b_is_whole v_is_whole pass0 (pa_cons (pv 1) pa_nil)))) (pw_or1 (pt_not (pt_chain op_le op_lt pe_int (pv 1) (pe_fld (pv 0) rfl)))))) (pss_one (ps_raise rfl (takes_of rfl rfl rfl rfl) (pmk_xi T.x_NoThing.xi i_NoThing___init__ t_NoThing___init__ G_NoThing___init__ (hr.mono (by decide)) b_NoThing___init__ v_NoThing___init__ pass0 rfl T.x_NoThing.gC (pa_cons (pv 1) pa_nil)))) pss_nil)), ?_⟩
    obtain ⟨k1, k2⟩ := k
    have no : ∀ H1, Same H H1 → r = false → (tMkO C_NoThing (sp_NoThing___init__ C_NoThing) [] (tCons (tVar 1) tNil)) [some (.ref a), some x] H1 E := fun H1 s1 hr => by
      refine ⟨_, rfl, (by show 1 ≤ 1000; decide), fun e he => ⟨e, x, rfl, upd_same, fun d hd ne => madeF he (fun d' H' s' h' => k2 hr d' H' (Same.trans s1 s') h') d hd ne⟩⟩
    rcases hx with ⟨i, rfl, rfl⟩ | ⟨hx, rfl⟩
    · refine ⟨_, rfl, _, true, rfl, .inl ⟨i, rfl, rfl⟩, fun H1 s1 => ⟨true, rfl, iteF ?_⟩⟩
      obtain ⟨⟨dx, ga⟩, _⟩ := hw.same s1
      refine ⟨_, rfl, _, _, rfl, rfl, _, rfl, ?_⟩
      by_cases q : 0 ≤ i
      · rw [decide_eq_true q]
        refine iteT ⟨_, rfl, a, C_World, dx, _, _, rfl, ga, T.o_World.cls, T.y_World_own_many, rfl, _, _, rfl, rfl, _, rfl, ?_⟩
        by_cases q2 : i < n
        · rw [decide_eq_true q2]
          exact iteF (k1 (decide_eq_true ⟨q, q2⟩) H1 s1)
        · rw [decide_eq_false q2]
          exact iteT (no H1 s1 (decide_eq_false fun z => q2 z.2))
      · rw [decide_eq_false q]
        exact iteF ⟨false, rfl, iteT (no H1 s1 (decide_eq_false fun z => q z.1))⟩
    · exact ⟨_, rfl, _, false, rfl, .inr ⟨hx, rfl⟩, fun H1 s1 => ⟨false, rfl, iteT (no H1 s1 rfl)⟩⟩
theorem sc_Taken___init__ : FnScope ["self", "deed", "thing"] ["self", "deed", "thing"] (defScope s_Taken___init__) := ⟨rfl, rfl, rfl, by decide +kernel, rfl, by decide +kernel, by decide +kernel⟩
theorem ok_Taken___init__ {f : Addr} {fd : FuncData} (F : Fun K "__init__" "Taken.__init__" s_Taken___init__ f fd) (T : Txt K mg C_Bare C_Full C_NoDeed C_NoNumber C_NoThing C_Taken C_World) : FnOk P w K mg base CX0 1 f fd ["self", "deed", "thing"] (sp_Taken___init__ C_Taken) := by
  refine F.ok sc_Taken___init__ (fun vs H Q E h => ?_) (fun cdv A outer s H vs Q E hr h => ?_)
  · obtain ⟨a, v, w, rfl, _⟩ := h
    all_goals rfl
  · obtain ⟨a, v, w, rfl, ha, k⟩ := h
    refine ⟨_, (pss_cons (ps_expr (pe_xi (B := "RuntimeError") (ni := "RuntimeError.__new__") (ii := "RuntimeError.__init__") (bm := [.type "RuntimeError", .type "Exception", .type "BaseException", .type "object"]) rfl T.b_RuntimeError (by rfl) (by decide) (by decide) (by kernel_rfl) T.v_RuntimeError (pa_cons (pv 0) (pa_cons pe_str pa_nil))))
    (pss_cons (ps_xs (B := "RuntimeError") (ni := "RuntimeError.__new__") (ii := "RuntimeError.__init__") (bm := [.type "RuntimeError", .type "Exception", .type "BaseException", .type "object"]) (pv 0) (pv 1))
    (pss_one (ps_xs (B := "RuntimeError") (ni := "RuntimeError.__new__") (ii := "RuntimeError.__init__") (bm := [.type "RuntimeError", .type "Exception", .type "BaseException", .type "object"]) (pv 0) (pv 2))))), ?_⟩
    refine ⟨_, rfl, a, C_Taken, [_], rfl, (by show 1 ≤ 1000; decide), T.x_Taken.xi, ha, ?_⟩
    refine ⟨_, rfl, _, rfl, a, C_Taken, rfl, T.x_Taken.xi, taker_none T.y_Taken_deed, .inl ⟨ha, fun d hd ne => ?_⟩⟩
    refine ⟨_, rfl, _, rfl, a, C_Taken, rfl, T.x_Taken.xi, taker_none T.y_Taken_thing, .inr ⟨d, _, (by rw [upd_ne ne.symm]; exact upd_same), upd_same, by show 1 ≤ 900; decide, k d hd ne⟩⟩
theorem sc_World_lay : FnScope ["self", "deed", "one", "other", "back"] ["self", "deed", "one", "other"] (defScope s_World_lay) := ⟨rfl, rfl, rfl, by decide +kernel, rfl, by decide +kernel, by decide +kernel⟩
theorem ok_World_lay {f : Addr} {fd : FuncData} (F : Fun K "lay" "World.lay" s_World_lay f fd) (T : Txt K mg C_Bare C_Full C_NoDeed C_NoNumber C_NoThing C_Taken C_World) (kn_World_look_at_deed : KM P w K mg base (L2.CX P w) 3 ["self", "deed"] (sp_World_look_at_deed C_World C_NoDeed) C_World "look_at_deed" []) (kn_World_look_at_thing : KM P w K mg base (L2.CX P w) 3 ["self", "thing"] (sp_World_look_at_thing C_World C_NoThing) C_World "look_at_thing" []) (kn_Taken___init__ : KM P w K mg base CX0 1 ["self", "deed", "thing"] (sp_Taken___init__ C_Taken) C_Taken "__init__" []) : FnOk P w K mg base (L2.CX P w) 4 f fd ["self", "deed", "one", "other"] (sp_World_lay C_World C_NoDeed C_NoThing C_Taken) := by
  obtain ⟨f_World_look_at_deed, fd_World_look_at_deed, ds_World_look_at_deed, i_World_look_at_deed, t_World_look_at_deed, fn_World_look_at_deed, k_World_look_at_deed, v_World_look_at_deed, b_World_look_at_deed, G_World_look_at_deed⟩ := kn_World_look_at_deed
  obtain ⟨f_World_look_at_thing, fd_World_look_at_thing, ds_World_look_at_thing, i_World_look_at_thing, t_World_look_at_thing, fn_World_look_at_thing, k_World_look_at_thing, v_World_look_at_thing, b_World_look_at_thing, G_World_look_at_thing⟩ := kn_World_look_at_thing
  obtain ⟨f_Taken___init__, fd_Taken___init__, ds_Taken___init__, i_Taken___init__, t_Taken___init__, fn_Taken___init__, k_Taken___init__, v_Taken___init__, b_Taken___init__, G_Taken___init__⟩ := kn_Taken___init__
  refine F.okX sc_World_lay (fun vs H Q E h => ?_) (fun cdv A outer s H vs Q E hr h => ?_)
  · obtain ⟨a, dw, n, kvs, x, y, z, rx, ry, rz, rfl, _⟩ := h
    all_goals rfl
  · obtain ⟨a, dw, n, kvs, x, y, z, rx, ry, rz, rfl, hw, hk, hx, hy, hz, hzz, k⟩ := h
    refine ⟨_, (pss_cons (ps_expr (pe_meth (pv 0) T.o_World.cls ⟨i_World_look_at_deed, fn_World_look_at_deed, k_World_look_at_deed⟩ G_World_look_at_deed (hr.mono (by decide)) b_World_look_at_deed v_World_look_at_deed (passes_call (E := E) (takes_of rfl rfl rfl rfl) (fun _ _ _ _ h => h)) (pa_cons (pv 1) pa_nil)))
    (pss_cons (ps_expr (pe_meth (pv 0) T.o_World.cls ⟨i_World_look_at_thing, fn_World_look_at_thing, k_World_look_at_thing⟩ G_World_look_at_thing (hr.mono (by decide)) b_World_look_at_thing v_World_look_at_thing (passes_call (E := E) (takes_of rfl rfl rfl rfl) (fun _ _ _ _ h => h)) (pa_cons (pv 2) pa_nil)))
    (pss_cons (ps_expr (pe_meth (pv 0) T.o_World.cls ⟨i_World_look_at_thing, fn_World_look_at_thing, k_World_look_at_thing⟩ G_World_look_at_thing (hr.mono (by decide)) b_World_look_at_thing v_World_look_at_thing (passes_call (E := E) (takes_of rfl rfl rfl rfl) (fun _ _ _ _ h => h)) (pa_cons (pv 3) pa_nil)))
    (pss_cons (ps_set (i := 4) sc_World_lay.nd rfl (Or.inl rfl) (pe_upper (pv 1)))
    (pss_cons (ps_if (pt_cmp (pc_din (hu_of hr) (pe_tup (pa_cons (pv 1) (pa_cons (pv 2) pa_nil))) (pe_fld (pv 0) rfl))) (pss_one (ps_raise rfl (takes_of rfl rfl rfl rfl) (pmk_xi T.x_Taken.xi i_Taken___init__ t_Taken___init__ G_Taken___init__ (hr.mono (by decide)) b_Taken___init__ v_Taken___init__ pass0 rfl T.x_Taken.gC (pa_cons (pv 1) (pa_cons (pv 2) pa_nil))))) pss_nil)
    (pss_cons (ps_if (pt_cmp (pc_din (hu_of hr) (pe_tup (pa_cons (pv 4) (pa_cons (pv 3) pa_nil))) (pe_fld (pv 0) rfl))) (pss_one (ps_raise rfl (takes_of rfl rfl rfl rfl) (pmk_xi T.x_Taken.xi i_Taken___init__ t_Taken___init__ G_Taken___init__ (hr.mono (by decide)) b_Taken___init__ v_Taken___init__ pass0 rfl T.x_Taken.gC (pa_cons (pv 1) (pa_cons (pv 3) pa_nil))))) pss_nil)
    (pss_cons (ps_dput (hu_of hr) (pe_fld (pv 0) rfl) (pe_tup (pa_cons (pv 1) (pa_cons (pv 2) pa_nil))) (pv 3) rfl)
    (pss_one (ps_dput (hu_of hr) (pe_fld (pv 0) rfl) (pe_tup (pa_cons (pv 4) (pa_cons (pv 3) pa_nil))) (pv 2) rfl))))))))), ?_⟩
    obtain ⟨⟨k1, k2, k3⟩, k4⟩ := k
    refine ⟨_, rfl, a, _, _, rfl, hw.1.choose_spec, rfl, _, rfl, a, x, rx, rfl, hx, ⟨fun hrx H1 s1 => ?_, fun hrx d H1 s1 hd => k1 hrx d H1 s1 hd⟩⟩
    have hw1 := hw.same s1
    refine ⟨_, rfl, a, _, _, rfl, hw1.1.choose_spec, rfl, _, rfl, a, dw, n, kvs, y, ry, rfl, hw1, hy.same s1, ⟨fun hry H2 s2 => ?_, fun hry d H2 s2 hd => k2 hrx hry d H2 (Same.trans s1 s2) hd⟩⟩
    have hw2 := hw1.same s2
    refine ⟨_, rfl, a, _, _, rfl, hw2.1.choose_spec, rfl, _, rfl, a, dw, n, kvs, z, rz, rfl, hw2, (hz.same s1).same s2, ⟨fun hrz H3 s3 => ?_, fun hrz d H3 s3 hd => k3 hrx hry hrz d H3 (Same.trans s1 (Same.trans s2 s3)) hd⟩⟩
    have hw3 := hw2.same s3
    subst hrx hry hrz
    obtain ⟨c, rfl, hc⟩ := hx.yes
    obtain ⟨i, rfl, hi⟩ := hy.yes
    obtain ⟨j, rfl, hj⟩ := hz.yes
    obtain ⟨k4, k5, k6⟩ := k4 c i j rfl rfl rfl hc hi hj
    have s3' := Same.trans s1 (Same.trans s2 s3)
    have ne := hw3.ne
    obtain ⟨⟨dx, ga⟩, gw⟩ := hw3
    refine ⟨_, rfl, ⟨_, rfl⟩, _, rfl, rfl, one_le, ?_⟩
    rw [up1 c hc.1, deed_up c hc.1 hc.2]
    refine ⟨_, rfl, _, rfl, by show 2 ≤ sizeLine; decide, fun T1 hT1 => ?_⟩
    have q1 := Same.new (o := .tup [.str (S [c]), .int (i : Int)]) hT1
    refine ⟨_, rfl, a, C_World, dx, _, _, rfl, q1 _ _ ga, T.o_World.cls, T.y_World_own_ways, rfl, _, _, rfl, DGet.t (k := ky c i) (q1 _ _ gw) upd_same, _, rfl, ?_⟩
    cases h1 : valV kvs (ky c i) with
    | some v =>
      refine iteT ⟨_, rfl, _, rfl, (by show 2 ≤ 1000; decide), fun e he => ⟨e, _, _, rfl, upd_same, fun d hd ne => madeF2 he (fun d' H' s' h' => k4 v h1 d' H' (Same.trans s3' (Same.trans q1 s')) h') d hd ne⟩⟩
    | none =>
    refine iteF ?_
    refine ⟨_, rfl, _, rfl, by show 2 ≤ sizeLine; decide, fun T2 hT2 => ?_⟩
    have q2 := Same.trans q1 (Same.new (o := .tup [.str (S [con c]), .int (j : Int)]) hT2)
    refine ⟨_, rfl, a, C_World, dx, _, _, rfl, q2 _ _ ga, T.o_World.cls, T.y_World_own_ways, rfl, _, _, rfl, DGet.t (k := ky (con c) j) (q2 _ _ gw) upd_same, _, rfl, ?_⟩
    cases h2 : valV kvs (ky (con c) j) with
    | some v =>
      refine iteT ⟨_, rfl, _, rfl, (by show 2 ≤ 1000; decide), fun e he => ⟨e, _, _, rfl, upd_same, fun d hd ne => madeF2 he (fun d' H' s' h' => k5 h1 v h2 d' H' (Same.trans s3' (Same.trans q2 s')) h') d hd ne⟩⟩
    | none =>
    refine iteF ?_
    have q2d := q2 _ _ gw
    have q2a := q2 _ _ ga
    generalize upd (upd H3 T1 (.tup [.str (S [c]), .int (i : Int)])) T2 (.tup [.str (S [con c]), .int (j : Int)]) = H4 at q2 q2d q2a ⊢
    unfold tNext
    dsimp only
    refine ⟨_, rfl, _, rfl, a, C_World, dx, _, _, rfl, q2a, T.o_World.cls, T.y_World_own_ways, rfl, _, rfl, _, rfl, by show 2 ≤ sizeLine; decide, fun T3 hT3 => ?_⟩
    have q3 := Same.new (o := .tup [.str (S [c]), .int (i : Int)]) hT3
    refine ⟨dw, _, rfl, DPut.t (k := ky c i) (q3 _ _ q2d) upd_same (Nat.lt_of_le_of_lt hzz (by decide)), ?_⟩
    have ga5 : (upd (upd H4 T3 (.tup [.str (S [c]), .int (i : Int)])) dw (.dT (putK kvs (ky c i) (.int (j : Int))))) a = some (.ins C_World dx (wfs n dw)) := by rw [upd_ne ne]; exact q3 _ _ q2a
    refine ⟨_, rfl, _, rfl, a, C_World, dx, _, _, rfl, ga5, T.o_World.cls, T.y_World_own_ways, rfl, _, rfl, _, rfl, by show 2 ≤ sizeLine; decide, fun T4 hT4 => ?_⟩
    have nT4 : dw ≠ T4 := ne_of_none upd_same hT4
    have hl : (putK kvs (ky c i) (V.int (j : Int))).length ≤ 10001 := by
      rw [putK_new _ h1, List.length_append]
      show kvs.length + 1 ≤ 10001
      omega
    refine ⟨dw, _, rfl, DPut.t (k := ky (con c) j) (by rw [upd_ne nT4]; exact upd_same) upd_same (Nat.lt_of_le_of_lt hl (by decide)), ?_⟩
    refine k6 h1 h2 _ (fun b o hb h => ?_) upd_same
    have z0 := q2 _ _ (s3' _ _ h)
    have z1 := q3 _ _ z0
    rw [upd_ne hb]
    have z2 : (upd (upd H4 T3 (.tup [.str (S [c]), .int (i : Int)])) dw (.dT (putK kvs (ky c i) (.int (j : Int))))) b = some o := by rw [upd_ne hb]; exact z1
    rw [upd_ne (ne_of_none z2 hT4)]
    exact z2
theorem sc_Bare___init__ : FnScope ["self", "deed", "thing"] ["self", "deed", "thing"] (defScope s_Bare___init__) := ⟨rfl, rfl, rfl, by decide +kernel, rfl, by decide +kernel, by decide +kernel⟩
theorem ok_Bare___init__ {f : Addr} {fd : FuncData} (F : Fun K "__init__" "Bare.__init__" s_Bare___init__ f fd) (T : Txt K mg C_Bare C_Full C_NoDeed C_NoNumber C_NoThing C_Taken C_World) : FnOk P w K mg base CX0 1 f fd ["self", "deed", "thing"] (sp_Bare___init__ C_Bare) := by
  refine F.ok sc_Bare___init__ (fun vs H Q E h => ?_) (fun cdv A outer s H vs Q E hr h => ?_)
  · obtain ⟨a, v, w, rfl, _⟩ := h
    all_goals rfl
  · obtain ⟨a, v, w, rfl, ha, k⟩ := h
    refine ⟨_, (pss_cons (ps_expr (pe_xi (B := "LookupError") (ni := "LookupError.__new__") (ii := "LookupError.__init__") (bm := [.type "LookupError", .type "Exception", .type "BaseException", .type "object"]) rfl T.b_LookupError (by rfl) (by decide) (by decide) (by kernel_rfl) T.v_LookupError (pa_cons (pv 0) (pa_cons pe_str pa_nil))))
    (pss_cons (ps_xs (B := "LookupError") (ni := "LookupError.__new__") (ii := "LookupError.__init__") (bm := [.type "LookupError", .type "Exception", .type "BaseException", .type "object"]) (pv 0) (pv 1))
    (pss_one (ps_xs (B := "LookupError") (ni := "LookupError.__new__") (ii := "LookupError.__init__") (bm := [.type "LookupError", .type "Exception", .type "BaseException", .type "object"]) (pv 0) (pv 2))))), ?_⟩
    refine ⟨_, rfl, a, C_Bare, [_], rfl, (by show 1 ≤ 1000; decide), T.x_Bare.xi, ha, ?_⟩
    refine ⟨_, rfl, _, rfl, a, C_Bare, rfl, T.x_Bare.xi, taker_none T.y_Bare_deed, .inl ⟨ha, fun d hd ne => ?_⟩⟩
    refine ⟨_, rfl, _, rfl, a, C_Bare, rfl, T.x_Bare.xi, taker_none T.y_Bare_thing, .inr ⟨d, _, (by rw [upd_ne ne.symm]; exact upd_same), upd_same, by show 1 ≤ 900; decide, k d hd ne⟩⟩
theorem sc_World_lift : FnScope ["self", "deed", "thing", "other"] ["self", "deed", "thing"] (defScope s_World_lift) := ⟨rfl, rfl, rfl, by decide +kernel, rfl, by decide +kernel, by decide +kernel⟩
theorem ok_World_lift {f : Addr} {fd : FuncData} (F : Fun K "lift" "World.lift" s_World_lift f fd) (T : Txt K mg C_Bare C_Full C_NoDeed C_NoNumber C_NoThing C_Taken C_World) (kn_World_look_at_deed : KM P w K mg base (L2.CX P w) 3 ["self", "deed"] (sp_World_look_at_deed C_World C_NoDeed) C_World "look_at_deed" []) (kn_World_look_at_thing : KM P w K mg base (L2.CX P w) 3 ["self", "thing"] (sp_World_look_at_thing C_World C_NoThing) C_World "look_at_thing" []) (kn_Bare___init__ : KM P w K mg base CX0 1 ["self", "deed", "thing"] (sp_Bare___init__ C_Bare) C_Bare "__init__" []) : FnOk P w K mg base (L2.CX P w) 4 f fd ["self", "deed", "thing"] (sp_World_lift C_World C_NoDeed C_NoThing C_Bare) := by
  obtain ⟨f_World_look_at_deed, fd_World_look_at_deed, ds_World_look_at_deed, i_World_look_at_deed, t_World_look_at_deed, fn_World_look_at_deed, k_World_look_at_deed, v_World_look_at_deed, b_World_look_at_deed, G_World_look_at_deed⟩ := kn_World_look_at_deed
  obtain ⟨f_World_look_at_thing, fd_World_look_at_thing, ds_World_look_at_thing, i_World_look_at_thing, t_World_look_at_thing, fn_World_look_at_thing, k_World_look_at_thing, v_World_look_at_thing, b_World_look_at_thing, G_World_look_at_thing⟩ := kn_World_look_at_thing
  obtain ⟨f_Bare___init__, fd_Bare___init__, ds_Bare___init__, i_Bare___init__, t_Bare___init__, fn_Bare___init__, k_Bare___init__, v_Bare___init__, b_Bare___init__, G_Bare___init__⟩ := kn_Bare___init__
  refine F.okX sc_World_lift (fun vs H Q E h => ?_) (fun cdv A outer s H vs Q E hr h => ?_)
  · obtain ⟨a, dw, n, kvs, x, y, rx, ry, rfl, _⟩ := h
    all_goals rfl
  · obtain ⟨a, dw, n, kvs, x, y, rx, ry, rfl, hw, hk, hx, hy, k⟩ := h
    refine ⟨_, (pss_cons (ps_expr (pe_meth (pv 0) T.o_World.cls ⟨i_World_look_at_deed, fn_World_look_at_deed, k_World_look_at_deed⟩ G_World_look_at_deed (hr.mono (by decide)) b_World_look_at_deed v_World_look_at_deed (passes_call (E := E) (takes_of rfl rfl rfl rfl) (fun _ _ _ _ h => h)) (pa_cons (pv 1) pa_nil)))
    (pss_cons (ps_expr (pe_meth (pv 0) T.o_World.cls ⟨i_World_look_at_thing, fn_World_look_at_thing, k_World_look_at_thing⟩ G_World_look_at_thing (hr.mono (by decide)) b_World_look_at_thing v_World_look_at_thing (passes_call (E := E) (takes_of rfl rfl rfl rfl) (fun _ _ _ _ h => h)) (pa_cons (pv 2) pa_nil)))
    (pss_cons (ps_if (pt_cmp (pc_dnotin (hu_of hr) (pe_tup (pa_cons (pv 1) (pa_cons (pv 2) pa_nil))) (pe_fld (pv 0) rfl))) (pss_one (ps_raise rfl (takes_of rfl rfl rfl rfl) (pmk_xi T.x_Bare.xi i_Bare___init__ t_Bare___init__ G_Bare___init__ (hr.mono (by decide)) b_Bare___init__ v_Bare___init__ pass0 rfl T.x_Bare.gC (pa_cons (pv 1) (pa_cons (pv 2) pa_nil))))) pss_nil)
    (pss_cons (ps_set (i := 3) sc_World_lift.nd rfl (Or.inl rfl) (pe_bm PySem.F.plainAttrs_dict PySem.F.slot_dict_pop PySem.F.type_dict_pop (mt_popT1 (hu_of hr)) (pe_fld (pv 0) rfl) (pa_cons (pe_tup (pa_cons (pv 1) (pa_cons (pv 2) pa_nil))) pa_nil)))
    (pss_cons (ps_expr (pe_bm PySem.F.plainAttrs_dict PySem.F.slot_dict_pop PySem.F.type_dict_pop (mt_popT1 (hu_of hr)) (pe_fld (pv 0) rfl) (pa_cons (pe_tup (pa_cons (pe_upper (pv 1)) (pa_cons (pv 3) pa_nil))) pa_nil)))
    (pss_one (ps_ret (pv 3)))))))), ?_⟩
    obtain ⟨⟨k1, k2⟩, k4⟩ := k
    refine ⟨_, rfl, a, _, _, rfl, hw.1.choose_spec, rfl, _, rfl, a, x, rx, rfl, hx, ⟨fun hrx H1 s1 => ?_, fun hrx d H1 s1 hd => k1 hrx d H1 s1 hd⟩⟩
    have hw1 := hw.same s1
    refine ⟨_, rfl, a, _, _, rfl, hw1.1.choose_spec, rfl, _, rfl, a, dw, n, kvs, y, ry, rfl, hw1, hy.same s1, ⟨fun hry H2 s2 => ?_, fun hry d H2 s2 hd => k2 hrx hry d H2 (Same.trans s1 s2) hd⟩⟩
    have hw2 := hw1.same s2
    subst hrx hry
    obtain ⟨c, rfl, hc⟩ := hx.yes
    obtain ⟨i, rfl, hi⟩ := hy.yes
    obtain ⟨k4, k5⟩ := k4 c i rfl rfl hc hi
    have s2' := Same.trans s1 s2
    have ne := hw2.ne
    obtain ⟨⟨dx, ga⟩, gw⟩ := hw2
    refine ⟨_, rfl, _, rfl, by show 2 ≤ sizeLine; decide, fun T1 hT1 => ?_⟩
    have q1 := Same.new (o := .tup [.str (S [c]), .int (i : Int)]) hT1
    refine ⟨_, rfl, a, C_World, dx, _, _, rfl, q1 _ _ ga, T.o_World.cls, T.y_World_own_ways, rfl, _, _, rfl, DGet.t (k := ky c i) (q1 _ _ gw) upd_same, _, rfl, ?_⟩
    cases h1 : valV kvs (ky c i) with
    | none =>
      refine iteT ⟨_, rfl, _, rfl, (by show 2 ≤ 1000; decide), fun e he => ⟨e, _, _, rfl, upd_same, fun d hd ne => madeF2 he (fun d' H' s' h' => k4 h1 d' H' (Same.trans s2' (Same.trans q1 s')) h') d hd ne⟩⟩
    | some v =>
    refine iteF ?_
    obtain ⟨j, rfl, hj⟩ := hk.to h1
    have ga1 := q1 _ _ ga
    have gw1 := q1 _ _ gw
    have h2 := hk.sym _ _ _ h1
    have s2 := Same.trans s2' q1
    generalize upd H2 T1 (.tup [.str (S [c]), .int (i : Int)]) = H3 at *
    unfold tNext
    dsimp only
    refine ⟨_, rfl, a, C_World, dx, _, _, rfl, ga1, T.o_World.cls, T.y_World_own_ways, rfl, .inr (.inr (.inl ⟨rfl, .inr ⟨_, gw1⟩⟩)), _, rfl, _, rfl, by show 2 ≤ sizeLine; decide, fun T2 hT2 => ?_⟩
    have q2 := Same.new (o := .tup [.str (S [c]), .int (i : Int)]) hT2
    refine ⟨dw, kvs, ky c i, T2, _, rfl, rfl, q2 _ _ gw1, upd_same, h1, ?_⟩
    have ga4 : (upd (upd H3 T2 (.tup [.str (S [c]), .int (i : Int)])) dw (.dT (dropK kvs (ky c i)))) a = some (.ins C_World dx (wfs n dw)) := by rw [upd_ne ne]; exact q2 _ _ ga1
    have gw4 : (upd (upd H3 T2 (.tup [.str (S [c]), .int (i : Int)])) dw (.dT (dropK kvs (ky c i)))) dw = some (.dT (dropK kvs (ky c i))) := upd_same
    have o4 : Off dw H (upd (upd H3 T2 (.tup [.str (S [c]), .int (i : Int)])) dw (.dT (dropK kvs (ky c i)))) := fun b o hb h => by
      rw [upd_ne hb]
      exact q2 _ _ (s2 _ _ h)
    generalize upd (upd H3 T2 (.tup [.str (S [c]), .int (i : Int)])) dw (.dT (dropK kvs (ky c i))) = H4 at *
    refine ⟨_, rfl, a, C_World, dx, _, _, rfl, ga4, T.o_World.cls, T.y_World_own_ways, rfl, .inr (.inr (.inl ⟨rfl, .inr ⟨_, gw4⟩⟩)), _, rfl, ⟨_, rfl⟩, _, rfl, rfl, one_le, ?_⟩
    rw [up1 c hc.1, deed_up c hc.1 hc.2]
    refine ⟨_, rfl, by show 2 ≤ sizeLine; decide, fun T3 hT3 => ?_⟩
    have q3 := Same.new (o := .tup [.str (S [con c]), .int (j : Int)]) hT3
    have nk : ¬ ky (con c) (j : Int) = ky c (i : Int) := fun e => RowM.con_ne hc.1 (ky_inj e).1
    refine ⟨dw, _, ky (con c) j, T3, .int (i : Int), rfl, rfl, q3 _ _ gw4, upd_same, by rw [valV_drop, if_neg nk]; exact h2, ?_⟩
    refine ⟨_, rfl, k5 j hj h1 _ (fun b o hb h => ?_) upd_same⟩
    rw [upd_ne hb]
    exact q3 _ _ (o4 _ _ hb h)
theorem sc_law_asked : FnScope ["_law_world", "_law_door", "_law_deed", "_law_one", "_law_other", "_law_found", "e"] ["_law_world", "_law_door", "_law_deed", "_law_one", "_law_other"] (defScope s_law_asked) := ⟨rfl, rfl, rfl, by decide +kernel, rfl, by decide +kernel, by decide +kernel⟩
theorem ok_law_asked {f : Addr} {fd : FuncData} (F : Fun K "_law_asked" "_law_asked" s_law_asked f fd) (T : Txt K mg C_Bare C_Full C_NoDeed C_NoNumber C_NoThing C_Taken C_World) (kn_World_lay : KM P w K mg base (L2.CX P w) 4 ["self", "deed", "one", "other"] (sp_World_lay C_World C_NoDeed C_NoThing C_Taken) C_World "lay" []) (kn_World_lift : KM P w K mg base (L2.CX P w) 4 ["self", "deed", "thing"] (sp_World_lift C_World C_NoDeed C_NoThing C_Bare) C_World "lift" []) : FnOk P w K mg base CX0 5 f fd ["_law_world", "_law_door", "_law_deed", "_law_one", "_law_other"] (sp_law_asked C_World C_NoDeed C_NoThing) := by
  obtain ⟨f_World_lay, fd_World_lay, ds_World_lay, i_World_lay, t_World_lay, fn_World_lay, k_World_lay, v_World_lay, b_World_lay, G_World_lay⟩ := kn_World_lay
  obtain ⟨f_World_lift, fd_World_lift, ds_World_lift, i_World_lift, t_World_lift, fn_World_lift, k_World_lift, v_World_lift, b_World_lift, G_World_lift⟩ := kn_World_lift
  refine F.ok sc_law_asked (fun vs H Q E h => ?_) (fun cdv A outer s H vs Q E hr h => ?_)
  · obtain ⟨a, dw, n, t, x, y, z, rx, ry, rz, rfl, _⟩ := h
    all_goals rfl
  · obtain ⟨a, dw, n, t, x, y, z, rx, ry, rz, rfl, hw, hx, hy, hz, bad, k⟩ := h
    refine ⟨_, (pss_cons (ps_try_ls sc_law_asked.nd rfl rfl takes0
    (fun W pn xe tk po => (pss_cons (ps_if (pt_cmpR op_eq (pv 1) pe_int (nomark _)) (pss_one (ps_expr (pe_methSD (pv 0) T.o_World.cls ⟨i_World_lay, fn_World_lay, k_World_lay⟩ G_World_lay (hr.mono (by decide)) b_World_lay v_World_lay (fun σ => passAt tk σ) (pa_cons (pv 2) (pa_cons (pv 3) (pa_cons (pv 4) pa_nil)))))) (pss_one (ps_expr (pe_methSD (pv 0) T.o_World.cls ⟨i_World_lift, fn_World_lift, k_World_lift⟩ G_World_lift (hr.mono (by decide)) b_World_lift v_World_lift (fun σ => passAt tk σ) (pa_cons (pv 2) (pa_cons (pv 3) pa_nil))))))
    (pss_one (ps_set (i := 5) sc_law_asked.nd rfl (Or.inl rfl) (pe_lst (pa_cons pe_str pa_nil))))))
    (.named (i := 6) rfl rfl ⟨rfl, by decide, Or.inl T.x_NoDeed.gC⟩ (fun a oe cls d pn hz hf => (pss_one (ps_set (i := 5) sc_law_asked.nd rfl (Or.inl rfl) (pe_lst (pa_cons pe_str (pa_cons (pe_xf T.x_NoDeed.xf T.y_NoDeed_deed hz hf (pv 6)) (pa_cons (pe_callB (call_isX (K := K) hz hf) (by rfl) T.b_isinstance (by decide +kernel) (pa_cons (pv 6) (pa_cons (pe_bltn (v := .ty "KeyError") (by rfl) T.b_KeyError (by decide +kernel) rfl) pa_nil))) pa_nil)))))))
    (.named (i := 6) rfl rfl ⟨rfl, by decide, Or.inl T.x_NoThing.gC⟩ (fun a oe cls d pn hz hf => (pss_one (ps_set (i := 5) sc_law_asked.nd rfl (Or.inl rfl) (pe_lst (pa_cons pe_str (pa_cons (pe_xf T.x_NoThing.xf T.y_NoThing_thing hz hf (pv 6)) (pa_cons (pe_callB (call_isX (K := K) hz hf) (by rfl) T.b_isinstance (by decide +kernel) (pa_cons (pv 6) (pa_cons (pe_bltn (v := .ty "IndexError") (by rfl) T.b_IndexError (by decide +kernel) rfl) pa_nil))) pa_nil)))))))
    .nil)))
    (pss_one (ps_ret (pv 5)))), ?_⟩
    by_cases ht : t = 0
    · subst ht
      refine ⟨_, rfl, rfl, _, rfl, iteT ?_⟩
      refine ⟨_, rfl, a, _, _, rfl, hw.1.choose_spec, rfl, _, rfl, _, rfl, _, rfl, a, dw, n, [], x, y, z, rx, ry, rz, rfl, hw, Ways.nil, hx, hy, hz, Nat.zero_le _, ⟨⟨fun hr d H1 s1 hd => ?_, fun hr hr2 d H1 s1 hd => ?_, fun hr hr2 hr3 d H1 s1 hd => ?_⟩, fun c i j ex ey ez hc hi hj => ?_⟩⟩
      · exact ⟨true, T.x_NoDeed.te, fun _ e ne => ⟨_, rfl, rfl, rfl, d, _, _, rfl, hd, rfl, _, rfl, C_NoDeed, _, _, true, ⟨rfl, .inr ⟨d, _, rfl, hd⟩, T.x_NoDeed.ok⟩, rfl, .ty "KeyError", kit_exT T.e5, (by show 3 ≤ sizeLine; decide), fun q hq => ⟨_, rfl, k q _ (Same.trans s1 (Same.new hq)) (Same.free s1 hq) (by rw [if_pos hr]; exact upd_same)⟩⟩, (fun h => nomatch h)⟩
      · exact ⟨false, exm_of T.e7 T.x_NoDeed.bC T.x_NoDeed.iC T.x_NoDeed.tC, (fun h => nomatch h), fun _ => ⟨true, T.x_NoThing.te, fun _ e ne => ⟨_, rfl, rfl, rfl, d, _, _, rfl, hd, rfl, _, rfl, C_NoThing, _, _, true, ⟨rfl, .inr ⟨d, _, rfl, hd⟩, T.x_NoThing.ok⟩, rfl, .ty "IndexError", kit_exT T.e6, (by show 3 ≤ sizeLine; decide), fun q hq => ⟨_, rfl, k q _ (Same.trans s1 (Same.new hq)) (Same.free s1 hq) (by rw [if_neg (by rw [hr]; decide), if_pos hr2]; exact upd_same)⟩⟩, (fun h => nomatch h)⟩⟩
      · exact ⟨false, exm_of T.e7 T.x_NoDeed.bC T.x_NoDeed.iC T.x_NoDeed.tC, (fun h => nomatch h), fun _ => ⟨true, T.x_NoThing.te, fun _ e ne => ⟨_, rfl, rfl, rfl, d, _, _, rfl, hd, rfl, _, rfl, C_NoThing, _, _, true, ⟨rfl, .inr ⟨d, _, rfl, hd⟩, T.x_NoThing.ok⟩, rfl, .ty "IndexError", kit_exT T.e6, (by show 3 ≤ sizeLine; decide), fun q hq => ⟨_, rfl, k q _ (Same.trans s1 (Same.new hq)) (Same.free s1 hq) (by rw [if_neg (by rw [hr]; decide), if_neg (by rw [hr2]; decide)]; exact upd_same)⟩⟩, (fun h => nomatch h)⟩⟩
      · subst ex ey ez
        have b1 := hx.of hc
        have b2 := hy.of hi
        have b3 := hz.of hj
        rcases bad with h | h | ⟨_, h⟩
        · rw [b1] at h; cases h
        · rw [b2] at h; cases h
        · rw [b3] at h; cases h
    have e : decide (V.int t = V.int 0) = false := decide_eq_false fun h => ht (by injection h)
    refine ⟨_, rfl, rfl, _, rfl, ?_⟩
    rw [e]
    refine iteF ?_
    refine ⟨_, rfl, a, _, _, rfl, hw.1.choose_spec, rfl, _, rfl, _, rfl, a, dw, n, [], x, y, rx, ry, rfl, hw, Ways.nil, hx, hy, ⟨⟨fun hr d H1 s1 hd => ?_, fun hr hr2 d H1 s1 hd => ?_⟩, fun c i ex ey hc hi => ?_⟩⟩
    · exact ⟨true, T.x_NoDeed.te, fun _ e ne => ⟨_, rfl, rfl, rfl, d, _, _, rfl, hd, rfl, _, rfl, C_NoDeed, _, _, true, ⟨rfl, .inr ⟨d, _, rfl, hd⟩, T.x_NoDeed.ok⟩, rfl, .ty "KeyError", kit_exT T.e5, (by show 3 ≤ sizeLine; decide), fun q hq => ⟨_, rfl, k q _ (Same.trans s1 (Same.new hq)) (Same.free s1 hq) (by rw [if_pos hr]; exact upd_same)⟩⟩, (fun h => nomatch h)⟩
    · exact ⟨false, exm_of T.e7 T.x_NoDeed.bC T.x_NoDeed.iC T.x_NoDeed.tC, (fun h => nomatch h), fun _ => ⟨true, T.x_NoThing.te, fun _ e ne => ⟨_, rfl, rfl, rfl, d, _, _, rfl, hd, rfl, _, rfl, C_NoThing, _, _, true, ⟨rfl, .inr ⟨d, _, rfl, hd⟩, T.x_NoThing.ok⟩, rfl, .ty "IndexError", kit_exT T.e6, (by show 3 ≤ sizeLine; decide), fun q hq => ⟨_, rfl, k q _ (Same.trans s1 (Same.new hq)) (Same.free s1 hq) (by rw [if_neg (by rw [hr]; decide), if_pos hr2]; exact upd_same)⟩⟩, (fun h => nomatch h)⟩⟩
    · subst ex ey
      have b1 := hx.of hc
      have b2 := hy.of hi
      rcases bad with h | h | ⟨h, _⟩
      · rw [b1] at h; cases h
      · rw [b2] at h; cases h
      · exact absurd h ht
theorem sc_World_laid : FnScope ["self", "sign", "one"] ["self"] (defScope s_World_laid) := ⟨rfl, rfl, rfl, by decide +kernel, rfl, by decide +kernel, by decide +kernel⟩
theorem ok_World_laid {f : Addr} {fd : FuncData} (F : Fun K "laid" "World.laid" s_World_laid f fd) (T : Txt K mg C_Bare C_Full C_NoDeed C_NoNumber C_NoThing C_Taken C_World) : FnOk P w K mg base CX0 1 f fd ["self"] (sp_World_laid K C_World) := by
  refine F.ok sc_World_laid (fun vs H Q E h => ?_) (fun cdv A outer s H vs Q E hr h => ?_)
  · obtain ⟨a, dw, n, kvs, rfl, _⟩ := h
    all_goals rfl
  · obtain ⟨a, dw, n, kvs, rfl, hw, hk, hz, k⟩ := h
    refine ⟨_, (pss_one (ps_ret (pe_callB (call_sortD (K := K) hr.units) (by rfl) T.b_sorted (by decide +kernel) (pa_cons (pe_lock (pe_lc (own := [("sign", 1), ("one", 2)]) (g := (gTup K 2 (gCons (gName 1) (gCons (gName 2) gNil)))) rfl sc_World_laid.nd (pi_keys (pe_fld (pv 0) rfl)) (blkOk_by (own := [("sign", 1), ("one", 2)]) (N := ["self", "sign", "one"]) (sc := defScope s_World_laid) (by decide +kernel)) (fun _ _ _ _ _ => (pg_tup rfl (pgs_cons (pg_name (i := 1) sc_World_laid.nd rfl (Or.inl rfl)) (pgs_cons (pg_name (i := 2) sc_World_laid.nd rfl (Or.inl rfl)) pgs_nil)))) (fun _ _ _ _ _ => pts_one (pt_cmpR op_in_sign (pv 1) (pe_globC T.g_DEEDS) rfl)) (fun _ _ _ _ _ => (pe_tup (pa_cons (pv 1) (pa_cons (pv 2) (pa_cons (pe_dget (hu_of hr) (pe_fldK (K := K) (pv 0) rfl) (pe_tup (pa_cons (pv 1) (pa_cons (pv 2) pa_nil))) (fun _ _ => rfl)) pa_nil))))))) pa_nil)))), ?_⟩
    have nad := hw.ne
    obtain ⟨⟨dx, ga⟩, gw⟩ := id hw
    refine ⟨dw, .dT kvs, gw, trivial, fun od => ?_⟩
    have gaL : (upd H dw (.frz od (.dT kvs))) a = some (.ins C_World dx (wfs n dw)) := by rw [upd_ne nad]; exact ga
    have gwL : (upd H dw (.frz od (.dT kvs))) dw = some (.frz od (.dT kvs)) := upd_same
    have sL : ∀ b o, b ≠ dw → H b = some o → (upd H dw (.frz od (.dT kvs))) b = some o := fun b o n h => by rw [upd_ne n]; exact h
    generalize upd H dw (.frz od (.dT kvs)) = HL at *
    refine ⟨_, rfl, a, C_World, dx, _, _, rfl, gaL, T.o_World.cls, T.y_World_own_ways, rfl, dw, od, rfl, .inr ⟨kvs, gwL, fun D hD => ?_⟩⟩
    refine lc_it walk_keysT (fun i H' => ∃ us : List Addr, H' D = some (.lst (us.map V.ref)) ∧ us.length ≤ i ∧ TL H' v3 us (rawL kvs (kvs.take i)) ∧ Same HL H') ⟨[], upd_same, Nat.le_refl _, TL.nil, Same.new hD⟩ (fun i H' _ ⟨_, _, _, _, s⟩ => s _ _ gwL) ?_ ?_
    · rintro i v H3 H4 hi ⟨us, g, zu, tl, s3⟩ ⟨rfl, ky0, w0, q, hk0, rfl, gq⟩
      obtain ⟨c, i0, j, rfl, hc, hv, _, _⟩ := hk.ent (List.mem_of_getElem? hk0)
      have ev : valI kvs (ky c i0) = (j : Int) := by unfold valI; rw [hv]
      have et : rawL kvs (kvs.take (i + 1)) = rawL kvs (kvs.take i) ++ (if 97 ≤ c then some (c, (i0 : Int), (j : Int)) else none).toList := by
        unfold rawL
        rw [take_more _ hk0]
        show _ ++ (if 97 ≤ c then some (c, (i0 : Int), valI kvs (ky c i0)) else none).toList = _
        rw [ev]
      refine ⟨q, [_, _], rfl, SqT.of gq, rfl, _, _, rfl, _, _, rfl, rfl, rfl, _, rfl, c, _, rfl, rfl, _, rfl, ?_⟩
      rw [deed_dec hc]
      by_cases h97 : 97 ≤ c
      · rw [if_pos h97] at et
        rw [decide_eq_true h97]
        refine iteT ⟨_, rfl, _, rfl, _, rfl, a, C_World, dx, _, _, rfl, s3 _ _ gaL, T.o_World.cls, T.y_World_own_ways, rfl, _, rfl, _, rfl, by show 2 ≤ sizeLine; decide, fun t ht => ?_⟩
        have q4 := Same.new (o := .tup [.str (S [c]), .int (i0 : Int)]) ht
        refine ⟨dw, .int (j : Int), rfl, .inr ⟨kvs, ky c i0, t, .inr ⟨od, q4 _ _ (s3 _ _ gwL)⟩, rfl, upd_same, hv.symm⟩, by show 3 ≤ sizeLine; decide, fun u hu => ?_⟩
        obtain ⟨z1, z2⟩ := TL.more (x := (c, (i0 : Int), (j : Int))) (q4 _ _ g) (tl.mono q4) hu
        refine ⟨_, Same.new hu _ _ (q4 _ _ g), by rw [List.length_map]; exact Nat.lt_of_lt_of_le (by omega : us.length < 20000) (by decide), us ++ [u], z1, by rw [List.length_append]; show _ + 1 ≤ _; omega, ?_, samE_more (Same.trans s3 q4) hD hu⟩
        rw [et]
        exact z2
      · rw [if_neg h97] at et
        rw [decide_eq_false h97]
        refine iteF ⟨us, g, by omega, ?_, s3⟩
        rw [et]
        simpa using tl
    rintro H3 ⟨us, g, zu, tl, s3⟩
    rw [List.take_length] at tl
    have nD : D ≠ dw := fun e => by rw [e, gwL] at hD; cases hD
    refine ⟨s3 _ _ gwL, ?_⟩
    have tl5 : TL (upd H3 dw (.dT kvs)) v3 us (rawL kvs kvs) := ⟨tl.len, fun i t hi => by
      obtain ⟨x, h1, h2⟩ := tl.get i t hi
      exact ⟨x, h1, by rw [upd_ne (fun e => by rw [e, s3 _ _ gwL] at h2; cases h2)]; exact h2⟩⟩
    have gD : (upd H3 dw (.dT kvs)) D = some (.lst (us.map V.ref)) := by rw [upd_ne nD]; exact g
    have s5 : Same H (upd H3 dw (.dT kvs)) := fun b o hb => by
      by_cases e : b = dw
      · subst e
        rw [gw] at hb
        cases hb
        exact upd_same
      · rw [upd_ne e]
        exact s3 _ _ (sL b o e hb)
    generalize upd H3 dw (.dT kvs) = H5 at *
    refine ⟨D, (us.zip (rawL kvs kvs)).map (itm v3), rfl, SqL.of (by rw [itm_fst tl5.len]; exact gD), tl5.dp1 v3_fl, allAlike_v3 _, sortable_v3 _, ?_, fun b hb => ?_, fun p hp => ?_⟩
    · rw [List.length_map, List.length_zip]
      exact Nat.le_trans (by omega : _ ≤ 20000) (by decide)
    · obtain ⟨x, _, rfl⟩ := List.mem_map.mp hb
      exact depth_v3 _
    obtain ⟨ws, e1, e2⟩ := tl5.sorted
    rw [e1]
    exact k ws p _ (Same.trans s5 (Same.new hp)) (Same.free s5 hp) upd_same (e2.mono (Same.new hp))
theorem sc_law : FnScope ["_law_script", "_law_k", "_law_pool_here", "_law_many", "_law_odd", "_law_world", "_law_turn", "_law_due", "_law_deed", "_law_thing", "_law_door"] ["_law_script"] (defScope s_law) := ⟨rfl, rfl, rfl, by decide +kernel, rfl, by decide +kernel, by decide +kernel⟩
theorem ok_law {f : Addr} {fd : FuncData} (F : Fun K "law" "law" s_law f fd) (T : Txt K mg C_Bare C_Full C_NoDeed C_NoNumber C_NoThing C_Taken C_World) (kn_law_pool : KN P w K mg base CX0 1 ["_law_script", "_law_k"] (sp_law_pool K) "_law_pool" []) (kn_law_take : KN P w K mg base CX0 1 ["_law_pool_here", "_law_many"] (sp_law_take) "_law_take" []) (kn_law_made : KN P w K mg base CX0 5 ["_law_thing"] (sp_law_made C_World C_NoNumber) "_law_made" []) (kn_World___init___d1 : KM P w K mg base (L2.CX P w) 3 ["self", "things"] (sp_World___init__ C_World C_NoNumber) C_World "__init__" [.int 0]) (kn_World___len__ : KM P w K mg base CX0 1 ["self"] (sp_World___len__ C_World) C_World "__len__" []) (kn_World___init__ : KM P w K mg base (L2.CX P w) 3 ["self", "things"] (sp_World___init__ C_World C_NoNumber) C_World "__init__" []) (kn_law_added : KN P w K mg base CX0 4 ["_law_world"] (sp_law_added C_World C_Full) "_law_added" []) (kn_law_asked : KN P w K mg base CX0 5 ["_law_world", "_law_door", "_law_deed", "_law_one", "_law_other"] (sp_law_asked C_World C_NoDeed C_NoThing) "_law_asked" []) (kn_World_laid : KM P w K mg base CX0 1 ["self"] (sp_World_laid K C_World) C_World "laid" []) : FnG P w K mg base CX0 6 f fd ["_law_script"] (sp_law K) := by
  obtain ⟨f_law_pool, fd_law_pool, ds_law_pool, m_law_pool, k_law_pool, v_law_pool, b_law_pool, G_law_pool⟩ := kn_law_pool
  obtain ⟨f_law_take, fd_law_take, ds_law_take, m_law_take, k_law_take, v_law_take, b_law_take, G_law_take⟩ := kn_law_take
  obtain ⟨f_law_made, fd_law_made, ds_law_made, m_law_made, k_law_made, v_law_made, b_law_made, G_law_made⟩ := kn_law_made
  obtain ⟨f_World___init___d1, fd_World___init___d1, ds_World___init___d1, i_World___init___d1, t_World___init___d1, fn_World___init___d1, k_World___init___d1, v_World___init___d1, b_World___init___d1, G_World___init___d1⟩ := kn_World___init___d1
  obtain ⟨f_World___len__, fd_World___len__, ds_World___len__, i_World___len__, t_World___len__, fn_World___len__, k_World___len__, v_World___len__, b_World___len__, G_World___len__⟩ := kn_World___len__
  obtain ⟨f_World___init__, fd_World___init__, ds_World___init__, i_World___init__, t_World___init__, fn_World___init__, k_World___init__, v_World___init__, b_World___init__, G_World___init__⟩ := kn_World___init__
  obtain ⟨f_law_added, fd_law_added, ds_law_added, m_law_added, k_law_added, v_law_added, b_law_added, G_law_added⟩ := kn_law_added
  obtain ⟨f_law_asked, fd_law_asked, ds_law_asked, m_law_asked, k_law_asked, v_law_asked, b_law_asked, G_law_asked⟩ := kn_law_asked
  obtain ⟨f_World_laid, fd_World_laid, ds_World_laid, i_World_laid, t_World_laid, fn_World_laid, k_World_laid, v_World_laid, b_World_laid, G_World_laid⟩ := kn_World_laid
  refine F.okG sc_law (fun vs H Q E h => ?_) (fun cdv A outer s H vs Q E g hr h => ?_)
  · obtain ⟨a, ns, rfl, _⟩ := h
    all_goals rfl
  · obtain ⟨a, ns, rfl, hS, hlen, k⟩ := h
    refine ⟨_, (pss_cons (ps_for PassesOwn.never rfl (pi_range1 (by rfl) T.b_range (pa_cons (pe_callB (call_max2 rfl) (by rfl) T.b_max (by decide +kernel) (pa_cons pe_int (pa_cons (pe_callB (call_min2 rfl) (by rfl) T.b_min (by decide +kernel) (pa_cons (pe_callB (call_lenK (K := K)) (by rfl) T.b_len (by decide +kernel) (pa_cons (pv 0) pa_nil)) (pa_cons pe_int pa_nil))) pa_nil))) pa_nil)) (pg_name (i := 1) sc_law.nd rfl (Or.inl rfl)) (pss_cons (ps_set (i := 2) sc_law.nd rfl (Or.inl rfl) (pe_call G_law_pool (hr.mono (by decide)) rfl m_law_pool k_law_pool b_law_pool v_law_pool pass0 (pa_cons (pv 0) (pa_cons (pv 1) pa_nil))))
    (pss_cons (ps_set (i := 3) sc_law.nd rfl (Or.inl rfl) (pe_ix (ix_listK (K := K)) (pe_lst (pa_cons (pe_call G_law_take (hr.mono (by decide)) rfl m_law_take k_law_take b_law_take v_law_take pass0 (pa_cons (pv 2) (pa_cons pe_int pa_nil))) (pa_cons (pe_op op_add pe_int (pe_call G_law_take (hr.mono (by decide)) rfl m_law_take k_law_take b_law_take v_law_take pass0 (pa_cons (pv 2) (pa_cons pe_int pa_nil)))) pa_nil))) (pe_call G_law_take (hr.mono (by decide)) rfl m_law_take k_law_take b_law_take v_law_take pass0 (pa_cons (pv 2) (pa_cons pe_int pa_nil))) (fun _ _ => rfl)))
    (pss_cons (ps_set (i := 4) sc_law.nd rfl (Or.inl rfl) (pe_ix (ix_listK (K := K)) (pe_lst (pa_cons (pe_un un_neg pe_int) (pa_cons pe_int (pa_cons pe_bl (pa_cons pe_bl (pa_cons pe_non (pa_cons pe_str (pa_cons (pe_lst pa_nil) (pa_cons (pe_tup (pa_cons pe_int pa_nil)) (pa_cons (pe_op op_pow pe_int pe_int) pa_nil)))))))))) (pe_call G_law_take (hr.mono (by decide)) rfl m_law_take k_law_take b_law_take v_law_take pass0 (pa_cons (pv 2) (pa_cons pe_int pa_nil))) (fun _ _ => rfl)))
    (pss_cons (ps_if (PW.pt (pw_or (pt_cmpR (op_neS (K := K) hr.units) (pe_call G_law_made (hr.mono (by decide)) rfl m_law_made k_law_made b_law_made v_law_made pass0 (pa_cons (pv 3) pa_nil)) (pe_lst (pa_cons pe_str (pa_cons (pv 3) pa_nil))) (nomark _)) (pw_or (pt_cmpR op_ne (pe_callB (call_reprV (K := K) g hr.units) (by rfl) T.b_repr (by decide +kernel) (pa_cons (pe_call G_law_made (hr.mono (by decide)) rfl m_law_made k_law_made b_law_made v_law_made pass0 (pa_cons (pv 4) pa_nil)) pa_nil)) (pe_callB (call_reprV (K := K) g hr.units) (by rfl) T.b_repr (by decide +kernel) (pa_cons (pe_lst (pa_cons pe_str (pa_cons (pv 4) pa_nil))) pa_nil)) (nomark _)) (pw_or1 (pt_cmpR op_ne (pe_callB (call_lenO i_World___len__ fn_World___len__ G_World___len__ (hr.mono (by decide)) b_World___len__ v_World___len__ pass0) (by rfl) T.b_len (by decide +kernel) (pa_cons (pe_make0 ⟨T.o_World.made, i_World___init___d1, fn_World___init___d1, T.o_World.kC⟩ G_World___init___d1 (hr.mono (by decide)) rfl T.o_World.gC b_World___init___d1 v_World___init___d1 passL) pa_nil)) pe_int (nomark _)))))) (pss_one (ps_ret pe_bl)) pss_nil)
    (pss_cons (ps_set (i := 5) sc_law.nd rfl (Or.inl rfl) (pe_make ⟨T.o_World.made, i_World___init__, fn_World___init__, T.o_World.kC⟩ G_World___init__ (hr.mono (by decide)) rfl T.o_World.gC b_World___init__ v_World___init__ passL (pa_cons (pv 3) pa_nil)))
    (pss_cons (ps_for PassesOwn.never rfl (pi_range1 (by rfl) T.b_range (pa_cons pe_int pa_nil)) (pg_name (i := 6) sc_law.nd rfl (Or.inl rfl)) (pss_cons (ps_set (i := 7) sc_law.nd rfl (Or.inl rfl) (pe_ix (ix_listK (K := K)) (pe_lst (pa_cons (pe_lst (pa_cons pe_str (pa_cons (pv 3) pa_nil))) (pa_cons (pe_lst (pa_cons pe_str (pa_cons pe_int pa_nil))) pa_nil))) (pe_callTy call_int1 (by rfl) T.b_int (by decide +kernel) (pa_cons (pe_cmpR op_eq (pv 3) pe_int (nomark _)) pa_nil)) (fun _ _ => rfl)))
    (pss_cons (ps_if (pt_cmpR (op_neS (K := K) hr.units) (pe_call G_law_added (hr.mono (by decide)) rfl m_law_added k_law_added b_law_added v_law_added pass0 (pa_cons (pv 5) pa_nil)) (pv 7) (nomark _)) (pss_one (ps_ret pe_bl)) pss_nil)
    (pss_cons (ps_set (i := 3) sc_law.nd rfl (Or.inl rfl) (pe_callB (call_min2 rfl) (by rfl) T.b_min (by decide +kernel) (pa_cons pe_int (pa_cons (pe_op op_add (pv 3) pe_int) pa_nil))))
    (pss_one (ps_if (pt_cmpR op_ne (pe_callB (call_lenO i_World___len__ fn_World___len__ G_World___len__ (hr.mono (by decide)) b_World___len__ v_World___len__ pass0) (by rfl) T.b_len (by decide +kernel) (pa_cons (pv 5) pa_nil)) (pv 3) (nomark _)) (pss_one (ps_ret pe_bl)) pss_nil))))))
    (pss_cons (ps_set (i := 8) sc_law.nd rfl (Or.inl rfl) (pe_ix (ix_listK (K := K)) (pe_lst (pa_cons pe_str (pa_cons pe_str (pa_cons pe_str (pa_cons pe_str (pa_cons pe_non (pa_cons pe_int (pa_cons (pe_lst (pa_cons pe_str pa_nil)) (pa_cons pe_dnewK (pa_cons pe_bl pa_nil)))))))))) (pe_call G_law_take (hr.mono (by decide)) rfl m_law_take k_law_take b_law_take v_law_take pass0 (pa_cons (pv 2) (pa_cons pe_int pa_nil))) (fun _ _ => rfl)))
    (pss_cons (ps_set (i := 9) sc_law.nd rfl (Or.inl rfl) (pe_ix (ix_listK (K := K)) (pe_lst (pa_cons (pe_un un_neg pe_int) (pa_cons (pv 3) (pa_cons pe_non (pa_cons pe_str (pa_cons (pe_tup (pa_cons pe_int pa_nil)) (pa_cons (pe_lst pa_nil) (pa_cons pe_bl (pa_cons (pe_op op_pow pe_int pe_int) pa_nil))))))))) (pe_call G_law_take (hr.mono (by decide)) rfl m_law_take k_law_take b_law_take v_law_take pass0 (pa_cons (pv 2) (pa_cons pe_int pa_nil))) (fun _ _ => rfl)))
    (pss_cons (ps_for PassesOwn.never rfl (pi_range1 (by rfl) T.b_range (pa_cons pe_int pa_nil)) (pg_name (i := 10) sc_law.nd rfl (Or.inl rfl)) (pss_cons (ps_if (pt_cmpR (op_neS (K := K) hr.units) (pe_call G_law_asked (hr.mono (by decide)) rfl m_law_asked k_law_asked b_law_asked v_law_asked pass0 (pa_cons (pv 5) (pa_cons (pv 10) (pa_cons (pv 8) (pa_cons (pv 9) (pa_cons (pv 9) pa_nil)))))) (pe_lst (pa_cons pe_str (pa_cons (pv 8) (pa_cons pe_bl pa_nil)))) (nomark _)) (pss_one (ps_ret pe_bl)) pss_nil)
    (pss_one (ps_if (pt_cmpR op_ne (pe_callB (call_reprV (K := K) g hr.units) (by rfl) T.b_repr (by decide +kernel) (pa_cons (pe_call G_law_asked (hr.mono (by decide)) rfl m_law_asked k_law_asked b_law_asked v_law_asked pass0 (pa_cons (pv 5) (pa_cons (pv 10) (pa_cons pe_str (pa_cons (pv 9) (pa_cons pe_int pa_nil)))))) pa_nil)) (pe_callB (call_reprV (K := K) g hr.units) (by rfl) T.b_repr (by decide +kernel) (pa_cons (pe_lst (pa_cons pe_str (pa_cons (pv 9) (pa_cons pe_bl pa_nil)))) pa_nil)) (nomark _)) (pss_one (ps_ret pe_bl)) pss_nil))))
    (pss_one (ps_if (PW.pt (pw_or (pt_cmpR (op_neS (K := K) hr.units) (pe_call G_law_asked (hr.mono (by decide)) rfl m_law_asked k_law_asked b_law_asked v_law_asked pass0 (pa_cons (pv 5) (pa_cons pe_int (pa_cons pe_str (pa_cons pe_int (pa_cons (pv 9) pa_nil)))))) (pe_lst (pa_cons pe_str (pa_cons (pv 9) (pa_cons pe_bl pa_nil)))) (nomark _)) (pw_or1 (pt_cmpR (op_neDK (K := K) hr.units) (pe_meth0 (pv 5) T.o_World.cls ⟨i_World_laid, fn_World_laid, k_World_laid⟩ G_World_laid (hr.mono (by decide)) b_World_laid v_World_laid pass0) (pe_lst pa_nil) (nomark _))))) (pss_one (ps_ret pe_bl)) pss_nil))))))))))))
    (pss_one (ps_ret pe_bl))), ?_⟩
    have tn := turns_ok (ns.map V.int).length 12 (by decide)
    refine ⟨_, rfl, _, _, rfl, .inl hS, _, _, rfl, _, _, rfl, _, rfl, by omega, by omega, for_range (lo := 0) (n := _) (fun i σ H' => ∃ x1 x2 x3 x4 x5 x6 x7 x8 x9 x10, σ = [some (.ref a), x1, x2, x3, x4, x5, x6, x7, x8, x9, x10] ∧ Same H H')
      ⟨none, none, none, none, none, none, none, none, none, none, rfl, Same.refl H⟩ ?_ ?_⟩
    rotate_left
    · rintro σ H1 ⟨x1, x2, x3, x4, x5, x6, x7, x8, x9, x10, rfl, s1⟩
      exact k _
    rintro i σ H1 hi ⟨x1, x2, x3, x4, x5, x6, x7, x8, x9, x10, rfl, s1⟩
    refine ⟨_, rfl, _, rfl, a, ns, _, rfl, s1.seq hS, by omega, by omega, fun p H2 np s2 hp => ?_⟩
    have hpn : H p = none := Same.free s1 np
    have sH := Same.trans s1 s2
    -- how many things
    refine ⟨_, rfl, p, 62, rfl, hp, by decide, by decide, fun v1 H3 v10 v11 o3 p3 => ?_⟩
    have sH := Off.same hpn sH o3
    refine ⟨_, rfl, p, 3, rfl, p3, by decide, by decide, fun v2 H4 v20 v21 o4 p4 => ⟨_, _, rfl, rfl, ?_⟩⟩
    have sH := Off.same hpn sH o4
    refine ⟨by show 2 ≤ sizeLine; decide, fun A1 hA1 => ?_⟩
    have q1 := Same.new (o := .lst [.int v1, .int (59 + v2)]) hA1
    have nA1 : A1 ≠ p := (p4.ne hA1).symm
    refine ⟨_, rfl, p, 2, rfl, p4.same q1, by decide, by decide, fun v3 H5 v30 v31 o5 p5 => ?_⟩
    have gA1 := o5 _ _ nA1 (upd_same (H := H4) (a := A1) (o := .lst [.int v1, .int (59 + v2)]))
    have sH := Off.same hpn (Same.trans sH q1) o5
    obtain ⟨y, hy, yy⟩ := at2 (a := V.int v1) (b := V.int (59 + v2)) v30 v31
    obtain ⟨n, rfl, hn⟩ : ∃ n : Nat, y = .int (n : Int) ∧ n ≤ 61 := by
      rcases yy with rfl | rfl
      · exact ⟨v1.toNat, by congr 1; omega, by omega⟩
      · exact ⟨(59 + v2).toNat, by congr 1; omega, by omega⟩
    refine ⟨_, _, _, _, rfl, rfl, SqL.of gA1, hy, ?_⟩
    clear hy yy gA1
    -- what is no number of things
    refine ⟨_, rfl, by show 0 ≤ sizeLine; decide, fun E hE => ⟨by show 1 ≤ sizeLine; decide, fun U hU => ⟨_, _, rfl, rfl, ⟨by decide, by decide, by decide⟩, by show 9 ≤ sizeLine; decide, fun O hO => ?_⟩⟩⟩
    have r1 := Same.new (o := .lst []) hE
    have r2 := Same.new (o := .tup [.int 3]) hU
    have r3 := Same.new (o := .lst [.int (-1), .int 62, .bl true, .bl false, .non, .str (Str.ofString "3"), .ref E, .ref U, .int ((10 : Int) ^ (50 : Int).toNat)]) hO
    have gE := r3 _ _ (r2 _ _ (upd_same (H := H5) (a := E) (o := .lst [])))
    have gU := r3 _ _ (upd_same (H := upd H5 E (.lst [])) (a := U) (o := .tup [.int 3]))
    have gO := upd_same (H := upd (upd H5 E (.lst [])) U (.tup [.int 3])) (a := O) (o := .lst [.int (-1), .int 62, .bl true, .bl false, .non, .str (Str.ofString "3"), .ref E, .ref U, .int ((10 : Int) ^ (50 : Int).toNat)])
    have nE : E ≠ p := (p5.ne hE).symm
    have nU : U ≠ p := ((p5.same r1).ne hU).symm
    have nO : O ≠ p := ((p5.same (Same.trans r1 r2)).ne hO).symm
    have p6 := p5.same (Same.trans r1 (Same.trans r2 r3))
    have sH := Same.trans sH (Same.trans r1 (Same.trans r2 r3))
    generalize upd (upd (upd H5 E (.lst [])) U (.tup [.int 3])) O (.lst [.int (-1), .int 62, .bl true, .bl false, .non, .str (Str.ofString "3"), .ref E, .ref U, .int ((10 : Int) ^ (50 : Int).toNat)]) = H6 at *
    refine ⟨_, rfl, p, 9, rfl, p6, by decide, by decide, fun z H7 z0 z1 o7 p7 => ?_⟩
    have sH := Off.same hpn sH o7
    have gE := o7 _ _ nE gE
    have gU := o7 _ _ nU gU
    obtain ⟨X, hX, mX⟩ := at_mem2 (L := [.int (-1), .int 62, .bl true, .bl false, .non, .str (Str.ofString "3"), .ref E, .ref U, .int ((10 : Int) ^ (50 : Int).toNat)]) z0 z1
    refine ⟨_, _, _, _, rfl, rfl, SqL.of (o7 _ _ nO gO), hX, ?_⟩
    have tX : ∃ d, ShX d ∧ ∀ H', Same H7 H' → ThW H' 62 X false ∧ Dp K H' X d := by
      simp only [List.mem_cons, List.not_mem_nil, or_false] at mX
      rcases mX with rfl | rfl | rfl | rfl | rfl | rfl | rfl | rfl | rfl
      · exact ⟨.int (-1), .small (by decide), fun _ _ => ⟨.inl ⟨_, rfl, by decide⟩, .int _⟩⟩
      · exact ⟨.int 62, .small (by decide), fun _ _ => ⟨.inl ⟨_, rfl, by decide⟩, .int _⟩⟩
      · exact ⟨.bool true, ⟨⟨by decide +kernel, by decide +kernel, by decide +kernel, by decide +kernel⟩, ⟨by decide +kernel, by decide +kernel, by decide +kernel, by decide +kernel⟩⟩, fun _ _ => ⟨.inr ⟨.inr (.inl ⟨_, rfl⟩), rfl⟩, .bl _⟩⟩
      · exact ⟨.bool false, ⟨⟨by decide +kernel, by decide +kernel, by decide +kernel, by decide +kernel⟩, ⟨by decide +kernel, by decide +kernel, by decide +kernel, by decide +kernel⟩⟩, fun _ _ => ⟨.inr ⟨.inr (.inl ⟨_, rfl⟩), rfl⟩, .bl _⟩⟩
      · exact ⟨.none, ⟨⟨by decide +kernel, by decide +kernel, by decide +kernel, by decide +kernel⟩, ⟨by decide +kernel, by decide +kernel, by decide +kernel, by decide +kernel⟩⟩, fun _ _ => ⟨.inr ⟨.inl rfl, rfl⟩, .non⟩⟩
      · exact ⟨.str (Str.ofString "3"), ⟨⟨by decide +kernel, by decide +kernel, by decide +kernel, by decide +kernel⟩, ⟨by decide +kernel, by decide +kernel, by decide +kernel, by decide +kernel⟩⟩, fun _ _ => ⟨.inr ⟨.inr (.inr (.inl ⟨_, rfl⟩)), rfl⟩, .str _⟩⟩
      · exact ⟨.list [], ⟨⟨by decide +kernel, by decide +kernel, by decide +kernel, by decide +kernel⟩, ⟨by decide +kernel, by decide +kernel, by decide +kernel, by decide +kernel⟩⟩, fun _ s => ⟨.inr ⟨.inr (.inr (.inr ⟨E, rfl, .inl ⟨_, s _ _ gE⟩⟩)), rfl⟩, .lst (Evl.sq_of (s _ _ gE)) .nil⟩⟩
      · exact ⟨.tuple [.int 3], ⟨⟨by decide +kernel, by decide +kernel, by decide +kernel, by decide +kernel⟩, ⟨by decide +kernel, by decide +kernel, by decide +kernel, by decide +kernel⟩⟩, fun _ s => ⟨.inr ⟨.inr (.inr (.inr ⟨U, rfl, .inr (.inl ⟨_, s _ _ gU⟩)⟩)), rfl⟩, .tup (Evl.st_of (s _ _ gU)) (.cons (.int _) .nil)⟩⟩
      · exact ⟨.int ((10 : Int) ^ (50 : Int).toNat), ⟨⟨by decide +kernel, by decide +kernel, by decide +kernel, by decide +kernel⟩, ⟨by decide +kernel, by decide +kernel, by decide +kernel, by decide +kernel⟩⟩, fun _ _ => ⟨.inl ⟨_, rfl, by decide +kernel⟩, .int _⟩⟩
    obtain ⟨dX, shX, tX⟩ := tX
    clear hX mX gO
    -- made, or not
    refine ⟨_, rfl, .int (n : Int), true, rfl, .inl ⟨_, rfl, (decide_eq_true ⟨by omega, by omega⟩).symm⟩, fun L1 H8 s8 n1 g1 => ?_⟩
    refine ⟨_, rfl, by show 2 ≤ sizeLine; decide, fun L2 h2 => ?_⟩
    have t2 := Same.new (o := .lst [.str (Str.ofString "told"), .int (n : Int)]) h2
    refine ⟨L1, L2, _, rfl, rfl, SqL.of (t2 _ _ g1), SqL.of upd_same, rfl, _, rfl, iteF ?_⟩
    refine ⟨_, rfl, X, false, rfl, (tX _ (Same.trans s8 t2)).1, fun L3 H9 s9 n3 g3 => ?_⟩
    have sX9 := Same.trans s8 (Same.trans t2 s9)
    have sh := shX.two
    refine ⟨_, .list [.str (Str.ofString "number"), dX], rfl, .lst (Evl.sq_of g3) (.cons (.str _) (.cons (tX _ sX9).2 .nil)), sh.1, sh.2.1, sh.2.2.1, sh.2.2.2, ?_⟩
    refine ⟨_, rfl, by show 2 ≤ sizeLine; decide, fun L4 h4 => ?_⟩
    have t4 := Same.new (o := .lst [.str (Str.ofString "number"), X]) h4
    refine ⟨_, .list [.str (Str.ofString "number"), dX], rfl, .lst (Evl.sq_of upd_same) (.cons (.str _) (.cons (tX _ (Same.trans sX9 t4)).2 .nil)), sh.1, sh.2.1, sh.2.2.1, sh.2.2.2, rfl, _, rfl, iteNS rfl ?_⟩
    have s10 := Same.trans sX9 t4
    have mk : ∀ {H1 H2 : Hp} {wa wd : Addr}, H1 wa = none → H1 wd = none → wd ≠ wa → Off wa (upd (upd H1 wd (.own wa)) wa (.ins C_World wd [])) H2 → Same H1 H2 := fun na nd nx off b o h => off b o (ne_of_none h na) (by rw [upd_ne (ne_of_none h na), upd_ne (ne_of_none h nd)]; exact h)
    generalize upd H9 L4 (.lst [.str (Str.ofString "number"), X]) = H10 at *
    refine fun wa wd na nd nx => ⟨wa, wd, .int 0, true, rfl, upd_same, .inl ⟨0, rfl, by decide⟩, ⟨fun _ n0 _ en dw H11 off11 ndw hw11 => ⟨rfl, ?_⟩, fun h => nomatch h⟩⟩
    obtain rfl : n0 = 0 := by injection en with en; omega
    refine ⟨wa, _, _, rfl, hw11.1.choose_spec, wa, dw, 0, [], rfl, hw11, by decide, fun H12 s12 => ⟨0, rfl, by decide, rfl, _, rfl, iteNS rfl ?_⟩⟩
    have s12 := Same.trans s10 (Same.trans (mk na nd nx off11) s12)
    clear hw11 ndw off11 nx nd na
    clear wa wd dw s10
    refine ⟨_, rfl, fun wa wd na nd nx => ⟨wa, wd, .int (n : Int), true, rfl, upd_same, .inl ⟨_, rfl, (decide_eq_true ⟨by omega, by omega⟩).symm⟩, ⟨fun _ n0 _ en dw H13 off13 ndw hw13 => ⟨rfl, ?_⟩, fun h => nomatch h⟩⟩⟩
    obtain rfl : n0 = n := by injection en with en; omega
    have s13 := Same.trans s12 (mk na nd nx off13)
    have wan : H wa = none := by
      cases q : H wa with
      | none => rfl
      | some o => rw [Same.trans sH s12 _ _ q] at na; cases na
    have wap : wa ≠ p := ((p7.same s12).ne na).symm
    have dwp : dw ≠ p := fun e => by
      have p13 := p7.same s13
      obtain ⟨c0, n0, g0, _⟩ := p13
      rw [← e, hw13.2] at g0
      cases g0
    have p13 := p7.same s13
    have sH := Same.trans sH s13
    clear tX sX9 s8 t2 s9 t4 gE gU nE nU nO n1 g1 g3 n3 h2 h4 o7 hE hU r1 r2 r3 s12 s13 mk
    -- a few more
    refine ⟨4, rfl, by decide, by decide, for_range (lo := 0) (n := 4) (fun j σ H' => ∃ (m : Nat) (x6 x7 : Option V), σ = [some (.ref a), some (.int (0 + (i : Int))), some (.ref p), some (.int (m : Int)), some X, some (.ref wa), x6, x7, x8, x9, x10] ∧ m ≤ 61 ∧ j ≤ m ∧ WAt C_World H' wa dw m [] ∧ Pool H' p ∧ Same H H') ⟨n0, _, _, rfl, hn, Nat.zero_le _, hw13, p13, sH⟩ ?_ ?_⟩
    · rintro j σ H14 hj ⟨m, x6, x7, rfl, hm, hjm, w14, p14, sH⟩
      refine ⟨_, rfl, by show 2 ≤ sizeLine; decide, fun M1 e1 => ⟨by show 2 ≤ sizeLine; decide, fun M2 e2 => ⟨by show 2 ≤ sizeLine; decide, fun M3 e3 => ?_⟩⟩⟩
      have u1 := Same.new (o := .lst [.str (Str.ofString "told"), .int (m : Int)]) e1
      have u2 := Same.new (o := .lst [.str (Str.ofString "full"), .int 62]) e2
      have u3 := Same.new (o := .lst [.ref M1, .ref M2]) e3
      have gM1 := u3 _ _ (u2 _ _ (upd_same (H := H14) (a := M1) (o := .lst [.str (Str.ofString "told"), .int (m : Int)])))
      have gM2 := u3 _ _ (upd_same (H := upd H14 M1 (.lst [.str (Str.ofString "told"), .int (m : Int)])) (a := M2) (o := .lst [.str (Str.ofString "full"), .int 62]))
      have gM3 := upd_same (H := upd (upd H14 M1 (.lst [.str (Str.ofString "told"), .int (m : Int)])) M2 (.lst [.str (Str.ofString "full"), .int 62])) (a := M3) (o := .lst [.ref M1, .ref M2])
      have w15 := w14.same (Same.trans u1 (Same.trans u2 u3))
      have p15 := p14.same (Same.trans u1 (Same.trans u2 u3))
      have sH := Same.trans sH (Same.trans u1 (Same.trans u2 u3))
      generalize upd (upd (upd H14 M1 (.lst [.str (Str.ofString "told"), .int (m : Int)])) M2 (.lst [.str (Str.ofString "full"), .int 62])) M3 (.lst [.ref M1, .ref M2]) = H15 at *
      obtain ⟨D, hat, gD⟩ : ∃ D, atI [V.ref M1, V.ref M2] (if decide (V.int (m : Int) = V.int 61) = true then 1 else 0) = some (V.ref D) ∧ H15 D = some (.lst (if m = 61 then [.str (Str.ofString "full"), .int 62] else [.str (Str.ofString "told"), .int (m : Int)])) := by
        by_cases h : m = 61
        · rw [decide_eq_true (by rw [h]; rfl), if_pos h]
          exact ⟨M2, rfl, gM2⟩
        · rw [decide_eq_false (fun e => h (by injection e with e; omega)), if_neg h]
          exact ⟨M1, rfl, gM1⟩
      refine ⟨_, rfl, rfl, .inr ⟨_, rfl, _, _, _, _, rfl, rfl, SqL.of gM3, hat, ?_⟩⟩
      refine ⟨_, rfl, wa, dw, m, [], rfl, w15, hm, fun q H16 o16 w16 nq gq => ?_⟩
      have nD : D ≠ wa := fun e => by
        rw [e, w15.1.choose_spec] at gD
        cases gD
      have gD := o16 _ _ nD gD
      have p16 : Pool H16 p := by
        obtain ⟨c0, n0, g0, r0⟩ := p15
        exact ⟨c0, n0, o16 _ _ wap.symm g0, r0⟩
      have sH := Off.same wan sH o16
      refine ⟨_, rfl, q, D, _, rfl, rfl, SqL.of gq, SqL.of gD, by split <;> rfl, _, rfl, iteF ?_⟩
      have em : (if (m : Int) + 1 < 61 then (m : Int) + 1 else 61) = (((if m = 61 then 61 else m + 1 : Nat)) : Int) := by
        split <;> split <;> omega
      refine ⟨_, rfl, _, _, rfl, rfl, _, _, rfl, ?_⟩
      dsimp only
      rw [em]
      have hm2 : (if m = 61 then 61 else m + 1 : Nat) ≤ 61 := by split <;> omega
      have hj2 : j + 1 ≤ (if m = 61 then 61 else m + 1 : Nat) := by split <;> omega
      generalize (if m = 61 then 61 else m + 1 : Nat) = m2 at *
      exact ⟨_, rfl, wa, _, _, rfl, w16.1.choose_spec, wa, dw, m2, [], rfl, w16, by omega, fun H17 s17 => ⟨m2, rfl, by omega, _, rfl, rfl, _, rfl, iteNS rfl ⟨m2, _, _, rfl, hm2, hj2, w16.same s17, p16.same s17, Same.trans sH s17⟩⟩⟩
    rintro σ H14 ⟨m, x6, x7, rfl, hm, hjm, w14, p14, sH⟩
    clear hw13 p13
    -- what is no deed
    refine ⟨by show 1 ≤ sizeLine; decide, fun E hE => fun F hF => ⟨by show 9 ≤ sizeLine; decide, fun O hO => ?_⟩⟩
    have r1 := Same.new (o := .lst [.str (Str.ofString "a")]) hE
    have r2 := Same.new (o := .dK []) hF
    have r3 := Same.new (o := .lst [.str (Str.ofString "A"), .str (Str.ofString "g"), .str (Str.ofString ""), .str (Str.ofString "aa"), .non, .int 7, .ref E, .ref F, .bl true]) hO
    have gE := r3 _ _ (r2 _ _ (upd_same (H := H14) (a := E) (o := .lst [.str (Str.ofString "a")])))
    have gF := r3 _ _ (upd_same (H := upd H14 E (.lst [.str (Str.ofString "a")])) (a := F) (o := .dK []))
    have gO := upd_same (H := upd (upd H14 E (.lst [.str (Str.ofString "a")])) F (.dK [])) (a := O) (o := .lst [.str (Str.ofString "A"), .str (Str.ofString "g"), .str (Str.ofString ""), .str (Str.ofString "aa"), .non, .int 7, .ref E, .ref F, .bl true])
    have nE : E ≠ p := (p14.ne hE).symm
    have nF : F ≠ p := ((p14.same r1).ne hF).symm
    have nO : O ≠ p := ((p14.same (Same.trans r1 r2)).ne hO).symm
    have p15 := p14.same (Same.trans r1 (Same.trans r2 r3))
    have w15 := w14.same (Same.trans r1 (Same.trans r2 r3))
    have sH := Same.trans sH (Same.trans r1 (Same.trans r2 r3))
    generalize upd (upd (upd H14 E (.lst [.str (Str.ofString "a")])) F (.dK [])) O (.lst [.str (Str.ofString "A"), .str (Str.ofString "g"), .str (Str.ofString ""), .str (Str.ofString "aa"), .non, .int 7, .ref E, .ref F, .bl true]) = H15 at *
    have offW : ∀ {H1 H2 : Hp}, WAt C_World H1 wa dw m [] → Off p H1 H2 → WAt C_World H2 wa dw m [] := fun ⟨⟨dx, g1⟩, g2⟩ o => ⟨⟨dx, o _ _ wap g1⟩, o _ _ dwp g2⟩
    refine ⟨_, rfl, p, 9, rfl, p15, by decide, by decide, fun z' H16 z0' z1' o16 p16 => ?_⟩
    have sH := Off.same hpn sH o16
    have w16 := offW w15 o16
    have gE := o16 _ _ nE gE
    have gF := o16 _ _ nF gF
    obtain ⟨Y, hY, mY⟩ := at_mem2 (L := [.str (Str.ofString "A"), .str (Str.ofString "g"), .str (Str.ofString ""), .str (Str.ofString "aa"), .non, .int 7, .ref E, .ref F, .bl true]) z0' z1'
    refine ⟨_, _, _, _, rfl, rfl, SqL.of (o16 _ _ nO gO), hY, ?_⟩
    have tY : SelfV Y = true ∧ ∀ H' : Hp, H' E = some (.lst [.str (Str.ofString "a")]) → H' F = some (.dK []) → DeedV H' Y false := by
      simp only [List.mem_cons, List.not_mem_nil, or_false] at mY
      rcases mY with rfl | rfl | rfl | rfl | rfl | rfl | rfl | rfl | rfl
      · exact ⟨rfl, fun _ _ _ => .inr (.inl ⟨[65], congrArg V.str (by decide +kernel), by decide, .inr ⟨65, rfl, by decide⟩, rfl⟩)⟩
      · exact ⟨rfl, fun _ _ _ => .inr (.inl ⟨[103], congrArg V.str (by decide +kernel), by decide, .inr ⟨103, rfl, by decide⟩, rfl⟩)⟩
      · exact ⟨rfl, fun _ _ _ => .inr (.inl ⟨[], congrArg V.str (by decide +kernel), by decide, .inl (by decide), rfl⟩)⟩
      · exact ⟨rfl, fun _ _ _ => .inr (.inl ⟨[97, 97], congrArg V.str (by decide +kernel), by decide, .inl (by decide), rfl⟩)⟩
      · exact ⟨rfl, fun _ _ _ => .inr (.inr ⟨.inl rfl, rfl⟩)⟩
      · exact ⟨rfl, fun _ _ _ => .inr (.inr ⟨.inr (.inr (.inl ⟨_, rfl⟩)), rfl⟩)⟩
      · exact ⟨rfl, fun _ g _ => .inr (.inr ⟨.inr (.inr (.inr ⟨E, rfl, .inl ⟨_, g⟩⟩)), rfl⟩)⟩
      · exact ⟨rfl, fun _ _ g => .inr (.inr ⟨.inr (.inr (.inr ⟨F, rfl, .inr (.inr ⟨_, g⟩)⟩)), rfl⟩)⟩
      · exact ⟨rfl, fun _ _ _ => .inr (.inr ⟨.inr (.inl ⟨_, rfl⟩), rfl⟩)⟩
    obtain ⟨selfY, tY⟩ := tY
    clear hY mY gO nO hO hE hF r1 r2 r3
    -- what is no thing
    refine ⟨_, rfl, _, rfl, by show 1 ≤ sizeLine; decide, fun U hU => ⟨by show 0 ≤ sizeLine; decide, fun G hG => ⟨_, _, rfl, rfl, ⟨by decide, by decide, by decide⟩, by show 8 ≤ sizeLine; decide, fun O hO => ?_⟩⟩⟩
    have r1 := Same.new (o := .tup [.int 0]) hU
    have r2 := Same.new (o := .lst []) hG
    have r3 := Same.new (o := .lst [.int (-1), .int (m : Int), .non, .str (Str.ofString "0"), .ref U, .ref G, .bl true, .int ((10 : Int) ^ (30 : Int).toNat)]) hO
    have r123 := Same.trans r1 (Same.trans r2 r3)
    have gU := r3 _ _ (r2 _ _ (upd_same (H := H16) (a := U) (o := .tup [.int 0])))
    have gG := r3 _ _ (upd_same (H := upd H16 U (.tup [.int 0])) (a := G) (o := .lst []))
    have gO := upd_same (H := upd (upd H16 U (.tup [.int 0])) G (.lst [])) (a := O) (o := .lst [.int (-1), .int (m : Int), .non, .str (Str.ofString "0"), .ref U, .ref G, .bl true, .int ((10 : Int) ^ (30 : Int).toNat)])
    have nU : U ≠ p := (p16.ne hU).symm
    have nG : G ≠ p := ((p16.same r1).ne hG).symm
    have nO : O ≠ p := ((p16.same (Same.trans r1 r2)).ne hO).symm
    have p17 := p16.same r123
    have w17 := w16.same r123
    have sH := Same.trans sH r123
    have gE := r123 _ _ gE
    have gF := r123 _ _ gF
    generalize upd (upd (upd H16 U (.tup [.int 0])) G (.lst [])) O (.lst [.int (-1), .int (m : Int), .non, .str (Str.ofString "0"), .ref U, .ref G, .bl true, .int ((10 : Int) ^ (30 : Int).toNat)]) = H17 at *
    refine ⟨_, rfl, p, 8, rfl, p17, by decide, by decide, fun u H18 u0 u1 o18 p18 => ?_⟩
    have sH := Off.same hpn sH o18
    have w18 := offW w17 o18
    have gE := o18 _ _ nE gE
    have gF := o18 _ _ nF gF
    have gU := o18 _ _ nU gU
    have gG := o18 _ _ nG gG
    obtain ⟨Z, hZ, mZ⟩ := at_mem2 (L := [.int (-1), .int (m : Int), .non, .str (Str.ofString "0"), .ref U, .ref G, .bl true, .int ((10 : Int) ^ (30 : Int).toNat)]) u0 u1
    refine ⟨_, _, _, _, rfl, rfl, SqL.of (o18 _ _ nO gO), hZ, ?_⟩
    have tZ : SelfV Z = true ∧ ∃ d, ShX d ∧ ∀ H', Same H18 H' → ThW H' m Z false ∧ Dp K H' Z d := by
      simp only [List.mem_cons, List.not_mem_nil, or_false] at mZ
      rcases mZ with rfl | rfl | rfl | rfl | rfl | rfl | rfl | rfl
      · exact ⟨rfl, .int (-1), .small (by decide), fun _ _ => ⟨.inl ⟨_, rfl, (decide_eq_false (by omega)).symm⟩, .int _⟩⟩
      · exact ⟨rfl, .int (m : Int), .small (by omega), fun _ _ => ⟨.inl ⟨_, rfl, (decide_eq_false (by omega)).symm⟩, .int _⟩⟩
      · exact ⟨rfl, .none, ⟨⟨by decide +kernel, by decide +kernel, by decide +kernel, by decide +kernel⟩, ⟨by decide +kernel, by decide +kernel, by decide +kernel, by decide +kernel⟩⟩, fun _ _ => ⟨.inr ⟨.inl rfl, rfl⟩, .non⟩⟩
      · exact ⟨rfl, .str (Str.ofString "0"), ⟨⟨by decide +kernel, by decide +kernel, by decide +kernel, by decide +kernel⟩, ⟨by decide +kernel, by decide +kernel, by decide +kernel, by decide +kernel⟩⟩, fun _ _ => ⟨.inr ⟨.inr (.inr (.inl ⟨_, rfl⟩)), rfl⟩, .str _⟩⟩
      · exact ⟨rfl, .tuple [.int 0], ⟨⟨by decide +kernel, by decide +kernel, by decide +kernel, by decide +kernel⟩, ⟨by decide +kernel, by decide +kernel, by decide +kernel, by decide +kernel⟩⟩, fun _ s => ⟨.inr ⟨.inr (.inr (.inr ⟨U, rfl, .inr (.inl ⟨_, s _ _ gU⟩)⟩)), rfl⟩, .tup (Evl.st_of (s _ _ gU)) (.cons (.int _) .nil)⟩⟩
      · exact ⟨rfl, .list [], ⟨⟨by decide +kernel, by decide +kernel, by decide +kernel, by decide +kernel⟩, ⟨by decide +kernel, by decide +kernel, by decide +kernel, by decide +kernel⟩⟩, fun _ s => ⟨.inr ⟨.inr (.inr (.inr ⟨G, rfl, .inl ⟨_, s _ _ gG⟩⟩)), rfl⟩, .lst (Evl.sq_of (s _ _ gG)) .nil⟩⟩
      · exact ⟨rfl, .bool true, ⟨⟨by decide +kernel, by decide +kernel, by decide +kernel, by decide +kernel⟩, ⟨by decide +kernel, by decide +kernel, by decide +kernel, by decide +kernel⟩⟩, fun _ _ => ⟨.inr ⟨.inr (.inl ⟨_, rfl⟩), rfl⟩, .bl _⟩⟩
      · refine ⟨rfl, .int ((10 : Int) ^ (30 : Int).toNat), ⟨⟨by decide +kernel, by decide +kernel, by decide +kernel, by decide +kernel⟩, ⟨by decide +kernel, by decide +kernel, by decide +kernel, by decide +kernel⟩⟩, fun _ _ => ⟨.inl ⟨_, rfl, (decide_eq_false fun h => ?_).symm⟩, .int _⟩⟩
        have h2 : ((10 : Int) ^ (30 : Int).toNat) < 1000 := by omega
        exact absurd h2 (by decide)
    obtain ⟨selfZ, dZ, shZ, tZ⟩ := tZ
    have sh := shZ.three
    have dc : ∀ H' : Hp, DeedV H' (.str (Str.ofString "c")) true := fun _ => .inl ⟨99, congrArg V.str (by decide +kernel), ⟨by decide, by decide⟩, rfl⟩
    have t0 : ∀ H' : Hp, ThW H' m (.int 0) true := fun _ => .inl ⟨0, rfl, (decide_eq_true ⟨by omega, by omega⟩).symm⟩
    clear hZ mZ gO nO hO hU hG r1 r2 r3 r123
    refine ⟨2, rfl, by decide, by decide, for_range (lo := 0) (n := 2) (fun j σ H' => ∃ (x10 : Option V), σ = [some (.ref a), some (.int (0 + (i : Int))), some (.ref p), some (.int (m : Int)), some X, some (.ref wa), x6, x7, some Y, some Z, x10] ∧ Same H18 H') ⟨_, rfl, Same.refl _⟩ ?_ ?_⟩
    · rintro j σ H19 hj ⟨x10, rfl, s19⟩
      refine ⟨_, rfl, _, rfl, _, rfl, _, rfl, _, rfl, wa, dw, m, 0 + (j : Int), Y, Z, Z, false, false, false, rfl, w18.same s19, tY _ (s19 _ _ gE) (s19 _ _ gF), (tZ _ s19).1, (tZ _ s19).1, .inl rfl, fun q H20 s20 nq gq => ?_⟩
      refine ⟨_, rfl, by show 3 ≤ sizeLine; decide, fun L hL => ?_⟩
      have t4 := Same.new (o := .lst [.str (Str.ofString "deed"), Y, .bl true]) hL
      refine ⟨q, L, [.str (Str.ofString "deed"), Y, .bl true], rfl, rfl, SqL.of (t4 _ _ gq), SqL.of upd_same, by show (SelfV _ && (SelfV Y && (SelfV _ && true))) = true; rw [selfY]; rfl, _, rfl, iteF ?_⟩
      have s21 := Same.trans s19 (Same.trans s20 t4)
      generalize upd H20 L (.lst [.str (Str.ofString "deed"), Y, .bl true]) = H21 at *
      refine ⟨_, rfl, _, rfl, _, rfl, wa, dw, m, 0 + (j : Int), .str (Str.ofString "c"), Z, .int 0, true, false, true, rfl, w18.same s21, dc _, (tZ _ s21).1, t0 _, .inr (.inl rfl), fun q2 H22 s22 nq2 gq2 => ?_⟩
      have s22 := Same.trans s21 s22
      refine ⟨_, .list [.str (Str.ofString "thing"), dZ, .bool true], rfl, .lst (Evl.sq_of gq2) (.cons (.str _) (.cons (tZ _ s22).2 (.cons (.bl _) .nil))), sh.1, sh.2.1, sh.2.2.1, sh.2.2.2, ?_⟩
      refine ⟨_, rfl, by show 3 ≤ sizeLine; decide, fun L4 h4 => ?_⟩
      have t4 := Same.new (o := .lst [.str (Str.ofString "thing"), Z, .bl true]) h4
      exact ⟨_, .list [.str (Str.ofString "thing"), dZ, .bool true], rfl, .lst (Evl.sq_of upd_same) (.cons (.str _) (.cons (tZ _ (Same.trans s22 t4)).2 (.cons (.bl _) .nil))), sh.1, sh.2.1, sh.2.2.1, sh.2.2.2, rfl, _, rfl, iteNS rfl ⟨_, rfl, Same.trans s22 t4⟩⟩
    rintro σ H19 ⟨x10, rfl, s19⟩
    refine ⟨_, rfl, _, rfl, wa, dw, m, 0, .str (Str.ofString "c"), .int 0, Z, true, true, false, rfl, w18.same s19, dc _, t0 _, (tZ _ s19).1, .inr (.inr ⟨rfl, rfl⟩), fun q H20 s20 nq gq => ?_⟩
    refine ⟨_, rfl, by show 3 ≤ sizeLine; decide, fun L hL => ?_⟩
    have t4 := Same.new (o := .lst [.str (Str.ofString "thing"), Z, .bl true]) hL
    refine ⟨q, L, [.str (Str.ofString "thing"), Z, .bl true], rfl, rfl, SqL.of (t4 _ _ gq), SqL.of upd_same, by show (SelfV _ && (SelfV Z && (SelfV _ && true))) = true; rw [selfZ]; rfl, _, rfl, iteF ?_⟩
    have s21 := Same.trans s19 (Same.trans s20 t4)
    generalize upd H20 L (.lst [.str (Str.ofString "thing"), Z, .bl true]) = H21 at *
    have w21 := w18.same s21
    refine ⟨_, rfl, wa, _, _, rfl, w21.1.choose_spec, rfl, wa, dw, m, [], rfl, w21, Ways.nil, Nat.zero_le _, fun us L5 H22 s22 n5 g5 tl => ?_⟩
    have el : us = [] := List.length_eq_zero_iff.mp (tl.len.trans (by simp [laidL, sortT, rawL]))
    subst el
    refine ⟨by show 0 ≤ sizeLine; decide, fun L6 h6 => ?_⟩
    have t6 := Same.new (o := .lst []) h6
    refine ⟨.list [], .list [], .lst (Evl.sq_of (t6 _ _ g5)) .nil, .lst (Evl.sq_of upd_same) .nil, by decide, by decide, ?_⟩
    refine ⟨_, rfl, ?_⟩
    rw [show PyData.eqv (.list []) (.list []) = true by decide +kernel]
    exact iteF ⟨_, _, _, _, _, _, _, _, _, _, rfl, Same.trans sH (Same.trans s21 (Same.trans s22 t6))⟩
end
theorem all_mk {l : PySem.W.OpenLaw} {w : World} {K : PySem.W.Frag} {h : Heap} {mg : Str → Option Value} {fa : Addr} (X : K.In h) (G : h.Ns mainGlobals mg) (hfa : mg "law" = some (.ref fa))
    {t_DEEDS : Tok}
    {t_MOST_THINGS : Tok}
    {C_Bare : Addr}
    {C_Full : Addr}
    {C_NoDeed : Addr}
    {C_NoNumber : Addr}
    {C_NoThing : Addr}
    {C_Taken : Addr}
    {C_World : Addr}
    {f_law_pool : Addr} {od_law_pool an_law_pool : Option Addr} {sl_law_pool : Array (Option Value)} {oc_law_pool kV_law_pool dc_law_pool pm_law_pool cd_law_pool ct_law_pool : Value}
    {f_law_take : Addr} {od_law_take an_law_take : Option Addr} {sl_law_take : Array (Option Value)} {oc_law_take kV_law_take dc_law_take pm_law_take cd_law_take ct_law_take : Value}
    {f_is_whole : Addr} {od_is_whole an_is_whole : Option Addr} {sl_is_whole : Array (Option Value)} {oc_is_whole kV_is_whole dc_is_whole pm_is_whole cd_is_whole ct_is_whole : Value}
    {f_NoNumber___init__ : Addr} {od_NoNumber___init__ an_NoNumber___init__ : Option Addr} {sl_NoNumber___init__ : Array (Option Value)} {oc_NoNumber___init__ kV_NoNumber___init__ dc_NoNumber___init__ pm_NoNumber___init__ cd_NoNumber___init__ ct_NoNumber___init__ : Value}
    {f_World___init__ : Addr} {od_World___init__ an_World___init__ : Option Addr} {sl_World___init__ : Array (Option Value)} {oc_World___init__ kV_World___init__ dc_World___init__ pm_World___init__ cd_World___init__ ct_World___init__ : Value}
    {T_World___init__ : Addr} {tc_World___init__ : Value} {tdd_World___init__ : Option Addr} {tn_World___init__ : Nat} {ts_World___init__ : Array (Option Value)} {td0_World___init__ : Tok}
    {f_World___len__ : Addr} {od_World___len__ an_World___len__ : Option Addr} {sl_World___len__ : Array (Option Value)} {oc_World___len__ kV_World___len__ dc_World___len__ pm_World___len__ cd_World___len__ ct_World___len__ : Value}
    {f_law_made : Addr} {od_law_made an_law_made : Option Addr} {sl_law_made : Array (Option Value)} {oc_law_made kV_law_made dc_law_made pm_law_made cd_law_made ct_law_made : Value}
    {f_Full___init__ : Addr} {od_Full___init__ an_Full___init__ : Option Addr} {sl_Full___init__ : Array (Option Value)} {oc_Full___init__ kV_Full___init__ dc_Full___init__ pm_Full___init__ cd_Full___init__ ct_Full___init__ : Value}
    {f_World_add : Addr} {od_World_add an_World_add : Option Addr} {sl_World_add : Array (Option Value)} {oc_World_add kV_World_add dc_World_add pm_World_add cd_World_add ct_World_add : Value}
    {f_law_added : Addr} {od_law_added an_law_added : Option Addr} {sl_law_added : Array (Option Value)} {oc_law_added kV_law_added dc_law_added pm_law_added cd_law_added ct_law_added : Value}
    {f_NoDeed___init__ : Addr} {od_NoDeed___init__ an_NoDeed___init__ : Option Addr} {sl_NoDeed___init__ : Array (Option Value)} {oc_NoDeed___init__ kV_NoDeed___init__ dc_NoDeed___init__ pm_NoDeed___init__ cd_NoDeed___init__ ct_NoDeed___init__ : Value}
    {f_World_look_at_deed : Addr} {od_World_look_at_deed an_World_look_at_deed : Option Addr} {sl_World_look_at_deed : Array (Option Value)} {oc_World_look_at_deed kV_World_look_at_deed dc_World_look_at_deed pm_World_look_at_deed cd_World_look_at_deed ct_World_look_at_deed : Value}
    {f_NoThing___init__ : Addr} {od_NoThing___init__ an_NoThing___init__ : Option Addr} {sl_NoThing___init__ : Array (Option Value)} {oc_NoThing___init__ kV_NoThing___init__ dc_NoThing___init__ pm_NoThing___init__ cd_NoThing___init__ ct_NoThing___init__ : Value}
    {f_World_look_at_thing : Addr} {od_World_look_at_thing an_World_look_at_thing : Option Addr} {sl_World_look_at_thing : Array (Option Value)} {oc_World_look_at_thing kV_World_look_at_thing dc_World_look_at_thing pm_World_look_at_thing cd_World_look_at_thing ct_World_look_at_thing : Value}
    {f_Taken___init__ : Addr} {od_Taken___init__ an_Taken___init__ : Option Addr} {sl_Taken___init__ : Array (Option Value)} {oc_Taken___init__ kV_Taken___init__ dc_Taken___init__ pm_Taken___init__ cd_Taken___init__ ct_Taken___init__ : Value}
    {f_World_lay : Addr} {od_World_lay an_World_lay : Option Addr} {sl_World_lay : Array (Option Value)} {oc_World_lay kV_World_lay dc_World_lay pm_World_lay cd_World_lay ct_World_lay : Value}
    {f_Bare___init__ : Addr} {od_Bare___init__ an_Bare___init__ : Option Addr} {sl_Bare___init__ : Array (Option Value)} {oc_Bare___init__ kV_Bare___init__ dc_Bare___init__ pm_Bare___init__ cd_Bare___init__ ct_Bare___init__ : Value}
    {f_World_lift : Addr} {od_World_lift an_World_lift : Option Addr} {sl_World_lift : Array (Option Value)} {oc_World_lift kV_World_lift dc_World_lift pm_World_lift cd_World_lift ct_World_lift : Value}
    {f_law_asked : Addr} {od_law_asked an_law_asked : Option Addr} {sl_law_asked : Array (Option Value)} {oc_law_asked kV_law_asked dc_law_asked pm_law_asked cd_law_asked ct_law_asked : Value}
    {f_World_laid : Addr} {od_World_laid an_World_laid : Option Addr} {sl_World_laid : Array (Option Value)} {oc_World_laid kV_World_laid dc_World_laid pm_World_laid cd_World_laid ct_World_laid : Value}
    {f_law : Addr} {od_law an_law : Option Addr} {sl_law : Array (Option Value)} {oc_law kV_law dc_law pm_law cd_law ct_law : Value}
    (z_IndexError : PySem.W.nsIn K mainGlobals "IndexError" = some none)
    (z_KeyError : PySem.W.nsIn K mainGlobals "KeyError" = some none)
    (z_LookupError : PySem.W.nsIn K mainGlobals "LookupError" = some none)
    (z_OverflowError : PySem.W.nsIn K mainGlobals "OverflowError" = some none)
    (z_RuntimeError : PySem.W.nsIn K mainGlobals "RuntimeError" = some none)
    (z_bool : PySem.W.nsIn K mainGlobals "bool" = some none)
    (z_int : PySem.W.nsIn K mainGlobals "int" = some none)
    (z_isinstance : PySem.W.nsIn K mainGlobals "isinstance" = some none)
    (z_len : PySem.W.nsIn K mainGlobals "len" = some none)
    (z_max : PySem.W.nsIn K mainGlobals "max" = some none)
    (z_min : PySem.W.nsIn K mainGlobals "min" = some none)
    (z_range : PySem.W.nsIn K mainGlobals "range" = some none)
    (z_repr : PySem.W.nsIn K mainGlobals "repr" = some none)
    (z_sorted : PySem.W.nsIn K mainGlobals "sorted" = some none)
    (z_str : PySem.W.nsIn K mainGlobals "str" = some none)
    (n_DEEDS : PySem.W.nsIn K mainGlobals "DEEDS" = some (some (.str "abcdef" t_DEEDS)))
    (n_MOST_THINGS : PySem.W.nsIn K mainGlobals "MOST_THINGS" = some (some (.int 61 t_MOST_THINGS)))
    (aC_Bare : PySem.W.nsIn K mainGlobals "Bare" = some (some (.ref C_Bare)))
    (xC_Bare : PySem.W.excInitIn K C_Bare [.type "LookupError", .type "Exception", .type "BaseException", .type "object"] "LookupError.__new__" = true)
    (kC_Bare : PySem.W.keepIn K (.ref C_Bare) = true)
    (bC_Bare : PySem.W.subIn K (.ref C_Bare) (.type "BaseException") = some true)
    (tC_Bare : PySem.W.typeIn K (.ref C_Bare) = some (.type "type"))
    (iC_Bare : PySem.W.isClsIn K C_Bare = true)
    (sC_Bare : PySem.W.subIn K (.ref C_Bare) (.ref C_Bare) = some true)
    (hg_Bare : PySem.W.findIn K (.ref C_Bare) "__getattribute__" = some (some (.builtin "BaseException.__getattribute__")))
    (hk_Bare : PySem.W.findIn K (.ref C_Bare) "__getattr__" = some none)
    (hd_Bare : PySem.W.hasDictIn K C_Bare = true)
    (ha_Bare : PySem.W.findIn K (.ref C_Bare) "__class__" = some (some (.builtin "object.__class__")))
    (hm_Bare : PySem.W.mroIn K C_Bare (.type "object") = some true)
    (oC_Bare : PySem.W.excOver K C_Bare [.type "LookupError", .type "Exception", .type "BaseException", .type "object"] = true)
    (sa_Bare : PySem.W.findIn K (.ref C_Bare) "__setattr__" = some (some (.builtin "object.__setattr__")))
    (aC_Full : PySem.W.nsIn K mainGlobals "Full" = some (some (.ref C_Full)))
    (xC_Full : PySem.W.excInitIn K C_Full [.type "OverflowError", .type "ArithmeticError", .type "Exception", .type "BaseException", .type "object"] "OverflowError.__new__" = true)
    (kC_Full : PySem.W.keepIn K (.ref C_Full) = true)
    (bC_Full : PySem.W.subIn K (.ref C_Full) (.type "BaseException") = some true)
    (tC_Full : PySem.W.typeIn K (.ref C_Full) = some (.type "type"))
    (iC_Full : PySem.W.isClsIn K C_Full = true)
    (sC_Full : PySem.W.subIn K (.ref C_Full) (.ref C_Full) = some true)
    (hg_Full : PySem.W.findIn K (.ref C_Full) "__getattribute__" = some (some (.builtin "BaseException.__getattribute__")))
    (hk_Full : PySem.W.findIn K (.ref C_Full) "__getattr__" = some none)
    (hd_Full : PySem.W.hasDictIn K C_Full = true)
    (ha_Full : PySem.W.findIn K (.ref C_Full) "__class__" = some (some (.builtin "object.__class__")))
    (hm_Full : PySem.W.mroIn K C_Full (.type "object") = some true)
    (oC_Full : PySem.W.excOver K C_Full [.type "OverflowError", .type "ArithmeticError", .type "Exception", .type "BaseException", .type "object"] = true)
    (sa_Full : PySem.W.findIn K (.ref C_Full) "__setattr__" = some (some (.builtin "object.__setattr__")))
    (aC_NoDeed : PySem.W.nsIn K mainGlobals "NoDeed" = some (some (.ref C_NoDeed)))
    (xC_NoDeed : PySem.W.excInitIn K C_NoDeed [.type "KeyError", .type "LookupError", .type "Exception", .type "BaseException", .type "object"] "LookupError.__new__" = true)
    (kC_NoDeed : PySem.W.keepIn K (.ref C_NoDeed) = true)
    (bC_NoDeed : PySem.W.subIn K (.ref C_NoDeed) (.type "BaseException") = some true)
    (tC_NoDeed : PySem.W.typeIn K (.ref C_NoDeed) = some (.type "type"))
    (iC_NoDeed : PySem.W.isClsIn K C_NoDeed = true)
    (sC_NoDeed : PySem.W.subIn K (.ref C_NoDeed) (.ref C_NoDeed) = some true)
    (hg_NoDeed : PySem.W.findIn K (.ref C_NoDeed) "__getattribute__" = some (some (.builtin "BaseException.__getattribute__")))
    (hk_NoDeed : PySem.W.findIn K (.ref C_NoDeed) "__getattr__" = some none)
    (hd_NoDeed : PySem.W.hasDictIn K C_NoDeed = true)
    (ha_NoDeed : PySem.W.findIn K (.ref C_NoDeed) "__class__" = some (some (.builtin "object.__class__")))
    (hm_NoDeed : PySem.W.mroIn K C_NoDeed (.type "object") = some true)
    (oC_NoDeed : PySem.W.excOver K C_NoDeed [.type "KeyError", .type "LookupError", .type "Exception", .type "BaseException", .type "object"] = true)
    (sa_NoDeed : PySem.W.findIn K (.ref C_NoDeed) "__setattr__" = some (some (.builtin "object.__setattr__")))
    (aC_NoNumber : PySem.W.nsIn K mainGlobals "NoNumber" = some (some (.ref C_NoNumber)))
    (xC_NoNumber : PySem.W.excInitIn K C_NoNumber [.type "LookupError", .type "Exception", .type "BaseException", .type "object"] "LookupError.__new__" = true)
    (kC_NoNumber : PySem.W.keepIn K (.ref C_NoNumber) = true)
    (bC_NoNumber : PySem.W.subIn K (.ref C_NoNumber) (.type "BaseException") = some true)
    (tC_NoNumber : PySem.W.typeIn K (.ref C_NoNumber) = some (.type "type"))
    (iC_NoNumber : PySem.W.isClsIn K C_NoNumber = true)
    (sC_NoNumber : PySem.W.subIn K (.ref C_NoNumber) (.ref C_NoNumber) = some true)
    (hg_NoNumber : PySem.W.findIn K (.ref C_NoNumber) "__getattribute__" = some (some (.builtin "BaseException.__getattribute__")))
    (hk_NoNumber : PySem.W.findIn K (.ref C_NoNumber) "__getattr__" = some none)
    (hd_NoNumber : PySem.W.hasDictIn K C_NoNumber = true)
    (ha_NoNumber : PySem.W.findIn K (.ref C_NoNumber) "__class__" = some (some (.builtin "object.__class__")))
    (hm_NoNumber : PySem.W.mroIn K C_NoNumber (.type "object") = some true)
    (oC_NoNumber : PySem.W.excOver K C_NoNumber [.type "LookupError", .type "Exception", .type "BaseException", .type "object"] = true)
    (sa_NoNumber : PySem.W.findIn K (.ref C_NoNumber) "__setattr__" = some (some (.builtin "object.__setattr__")))
    (aC_NoThing : PySem.W.nsIn K mainGlobals "NoThing" = some (some (.ref C_NoThing)))
    (xC_NoThing : PySem.W.excInitIn K C_NoThing [.type "IndexError", .type "LookupError", .type "Exception", .type "BaseException", .type "object"] "IndexError.__new__" = true)
    (kC_NoThing : PySem.W.keepIn K (.ref C_NoThing) = true)
    (bC_NoThing : PySem.W.subIn K (.ref C_NoThing) (.type "BaseException") = some true)
    (tC_NoThing : PySem.W.typeIn K (.ref C_NoThing) = some (.type "type"))
    (iC_NoThing : PySem.W.isClsIn K C_NoThing = true)
    (sC_NoThing : PySem.W.subIn K (.ref C_NoThing) (.ref C_NoThing) = some true)
    (hg_NoThing : PySem.W.findIn K (.ref C_NoThing) "__getattribute__" = some (some (.builtin "BaseException.__getattribute__")))
    (hk_NoThing : PySem.W.findIn K (.ref C_NoThing) "__getattr__" = some none)
    (hd_NoThing : PySem.W.hasDictIn K C_NoThing = true)
    (ha_NoThing : PySem.W.findIn K (.ref C_NoThing) "__class__" = some (some (.builtin "object.__class__")))
    (hm_NoThing : PySem.W.mroIn K C_NoThing (.type "object") = some true)
    (oC_NoThing : PySem.W.excOver K C_NoThing [.type "IndexError", .type "LookupError", .type "Exception", .type "BaseException", .type "object"] = true)
    (sa_NoThing : PySem.W.findIn K (.ref C_NoThing) "__setattr__" = some (some (.builtin "object.__setattr__")))
    (aC_Taken : PySem.W.nsIn K mainGlobals "Taken" = some (some (.ref C_Taken)))
    (xC_Taken : PySem.W.excInitIn K C_Taken [.type "RuntimeError", .type "Exception", .type "BaseException", .type "object"] "RuntimeError.__new__" = true)
    (kC_Taken : PySem.W.keepIn K (.ref C_Taken) = true)
    (bC_Taken : PySem.W.subIn K (.ref C_Taken) (.type "BaseException") = some true)
    (tC_Taken : PySem.W.typeIn K (.ref C_Taken) = some (.type "type"))
    (iC_Taken : PySem.W.isClsIn K C_Taken = true)
    (sC_Taken : PySem.W.subIn K (.ref C_Taken) (.ref C_Taken) = some true)
    (hg_Taken : PySem.W.findIn K (.ref C_Taken) "__getattribute__" = some (some (.builtin "BaseException.__getattribute__")))
    (hk_Taken : PySem.W.findIn K (.ref C_Taken) "__getattr__" = some none)
    (hd_Taken : PySem.W.hasDictIn K C_Taken = true)
    (ha_Taken : PySem.W.findIn K (.ref C_Taken) "__class__" = some (some (.builtin "object.__class__")))
    (hm_Taken : PySem.W.mroIn K C_Taken (.type "object") = some true)
    (oC_Taken : PySem.W.excOver K C_Taken [.type "RuntimeError", .type "Exception", .type "BaseException", .type "object"] = true)
    (sa_Taken : PySem.W.findIn K (.ref C_Taken) "__setattr__" = some (some (.builtin "object.__setattr__")))
    (hn : PySem.W.specialIn K (.builtin "object.__class__") "__get__" = some (some (.builtin "getset_descriptor.__get__")))
    (ht : PySem.W.takesIn K (.builtin "object.__class__") = some true)
    (w_IndexError : PySem.W.findCls K (.type "IndexError") (.type "type") "__init__" = some (.val (.builtin "IndexError.__init__")))
    (w_KeyError : PySem.W.findCls K (.type "KeyError") (.type "type") "__init__" = some (.val (.builtin "KeyError.__init__")))
    (w_LookupError : PySem.W.findCls K (.type "LookupError") (.type "type") "__init__" = some (.val (.builtin "LookupError.__init__")))
    (w_OverflowError : PySem.W.findCls K (.type "OverflowError") (.type "type") "__init__" = some (.val (.builtin "OverflowError.__init__")))
    (w_RuntimeError : PySem.W.findCls K (.type "RuntimeError") (.type "type") "__init__" = some (.val (.builtin "RuntimeError.__init__")))
    (aC_World : PySem.W.nsIn K mainGlobals "World" = some (some (.ref C_World)))
    (pg_World : PySem.W.plainGet K C_World Str.empty = true)
    (hd_World : PySem.W.hasDictIn K C_World = true)
    (po_World : PySem.W.plainOver K C_World = true)
    (sa_World : PySem.W.findIn K (.ref C_World) "__setattr__" = some (some (.builtin "object.__setattr__")))
    (mk_World : PySem.W.makesIn K C_World = true)
    (kC_World : PySem.W.keepIn K (.ref C_World) = true)
    (y_Bare_deed : PySem.W.findIn K (.ref C_Bare) "deed" = some none)
    (y_Bare_thing : PySem.W.findIn K (.ref C_Bare) "thing" = some none)
    (y_Full_size : PySem.W.findIn K (.ref C_Full) "size" = some none)
    (y_NoDeed_deed : PySem.W.findIn K (.ref C_NoDeed) "deed" = some none)
    (y_NoNumber_number : PySem.W.findIn K (.ref C_NoNumber) "number" = some none)
    (y_NoThing_thing : PySem.W.findIn K (.ref C_NoThing) "thing" = some none)
    (y_Taken_deed : PySem.W.findIn K (.ref C_Taken) "deed" = some none)
    (y_Taken_thing : PySem.W.findIn K (.ref C_Taken) "thing" = some none)
    (y_World_own_many : PySem.W.findIn K (.ref C_World) "own_many" = some none)
    (y_World_own_ways : PySem.W.findIn K (.ref C_World) "own_ways" = some none)
    (f_e1 : PySem.W.subIn K (.ref C_NoNumber) (.type "LookupError") = some true)
    (f_e2 : PySem.W.subIn K (.ref C_NoNumber) (.type "KeyError") = some false)
    (f_e3 : PySem.W.subIn K (.ref C_NoNumber) (.type "IndexError") = some false)
    (f_e4 : PySem.W.subIn K (.ref C_Full) (.type "OverflowError") = some true)
    (f_e5 : PySem.W.subIn K (.ref C_NoDeed) (.type "KeyError") = some true)
    (f_e6 : PySem.W.subIn K (.ref C_NoThing) (.type "IndexError") = some true)
    (f_e7 : PySem.W.subIn K (.ref C_NoThing) (.ref C_NoDeed) = some false)
    (a_law_pool : PySem.W.nsIn K mainGlobals "_law_pool" = some (some (.ref f_law_pool)))
    (l_law_pool : K.lookup f_law_pool = some ⟨oc_law_pool, od_law_pool, .func (PySem.W.fnOf "_law_pool" "_law_pool" (defArgs s_law_pool) (defBody s_law_pool) (defScope s_law_pool) .none kV_law_pool dc_law_pool pm_law_pool an_law_pool cd_law_pool ct_law_pool), sl_law_pool⟩)
    (c_law_pool : PySem.W.codeIn K cd_law_pool "_law_pool" = true)
    (k_law_pool : PySem.W.keepIn K (.ref f_law_pool) = true)
    (a_law_take : PySem.W.nsIn K mainGlobals "_law_take" = some (some (.ref f_law_take)))
    (l_law_take : K.lookup f_law_take = some ⟨oc_law_take, od_law_take, .func (PySem.W.fnOf "_law_take" "_law_take" (defArgs s_law_take) (defBody s_law_take) (defScope s_law_take) .none kV_law_take dc_law_take pm_law_take an_law_take cd_law_take ct_law_take), sl_law_take⟩)
    (c_law_take : PySem.W.codeIn K cd_law_take "_law_take" = true)
    (k_law_take : PySem.W.keepIn K (.ref f_law_take) = true)
    (a_is_whole : PySem.W.nsIn K mainGlobals "is_whole" = some (some (.ref f_is_whole)))
    (l_is_whole : K.lookup f_is_whole = some ⟨oc_is_whole, od_is_whole, .func (PySem.W.fnOf "is_whole" "is_whole" (defArgs s_is_whole) (defBody s_is_whole) (defScope s_is_whole) .none kV_is_whole dc_is_whole pm_is_whole an_is_whole cd_is_whole ct_is_whole), sl_is_whole⟩)
    (c_is_whole : PySem.W.codeIn K cd_is_whole "is_whole" = true)
    (k_is_whole : PySem.W.keepIn K (.ref f_is_whole) = true)
    (a_NoNumber___init__ : PySem.W.findIn K (.ref C_NoNumber) "__init__" = some (some (.ref f_NoNumber___init__)))
    (l_NoNumber___init__ : K.lookup f_NoNumber___init__ = some ⟨oc_NoNumber___init__, od_NoNumber___init__, .func (PySem.W.fnOf "__init__" "NoNumber.__init__" (defArgs s_NoNumber___init__) (defBody s_NoNumber___init__) (defScope s_NoNumber___init__) .none kV_NoNumber___init__ dc_NoNumber___init__ pm_NoNumber___init__ an_NoNumber___init__ cd_NoNumber___init__ ct_NoNumber___init__), sl_NoNumber___init__⟩)
    (c_NoNumber___init__ : PySem.W.codeIn K cd_NoNumber___init__ "NoNumber.__init__" = true)
    (k_NoNumber___init__ : PySem.W.keepIn K (.ref f_NoNumber___init__) = true)
    (u_NoNumber___init__ : PySem.W.typeIn K (.ref f_NoNumber___init__) = some (.type "function"))
    (fn_NoNumber___init__ : PySem.W.isFn K (.ref f_NoNumber___init__) = true)
    (a_World___init__ : PySem.W.findIn K (.ref C_World) "__init__" = some (some (.ref f_World___init__)))
    (l_World___init__ : K.lookup f_World___init__ = some ⟨oc_World___init__, od_World___init__, .func (PySem.W.fnOf "__init__" "World.__init__" (defArgs s_World___init__) (defBody s_World___init__) (defScope s_World___init__) (.ref T_World___init__) kV_World___init__ dc_World___init__ pm_World___init__ an_World___init__ cd_World___init__ ct_World___init__), sl_World___init__⟩)
    (t_World___init__ : K.lookup T_World___init__ = some ⟨tc_World___init__, tdd_World___init__, .seq #[.int 0 td0_World___init__] tn_World___init__, ts_World___init__⟩)
    (c_World___init__ : PySem.W.codeIn K cd_World___init__ "World.__init__" = true)
    (k_World___init__ : PySem.W.keepIn K (.ref f_World___init__) = true)
    (u_World___init__ : PySem.W.typeIn K (.ref f_World___init__) = some (.type "function"))
    (fn_World___init__ : PySem.W.isFn K (.ref f_World___init__) = true)
    (a_World___len__ : PySem.W.findIn K (.ref C_World) "__len__" = some (some (.ref f_World___len__)))
    (l_World___len__ : K.lookup f_World___len__ = some ⟨oc_World___len__, od_World___len__, .func (PySem.W.fnOf "__len__" "World.__len__" (defArgs s_World___len__) (defBody s_World___len__) (defScope s_World___len__) .none kV_World___len__ dc_World___len__ pm_World___len__ an_World___len__ cd_World___len__ ct_World___len__), sl_World___len__⟩)
    (c_World___len__ : PySem.W.codeIn K cd_World___len__ "World.__len__" = true)
    (k_World___len__ : PySem.W.keepIn K (.ref f_World___len__) = true)
    (u_World___len__ : PySem.W.typeIn K (.ref f_World___len__) = some (.type "function"))
    (fn_World___len__ : PySem.W.isFn K (.ref f_World___len__) = true)
    (a_law_made : PySem.W.nsIn K mainGlobals "_law_made" = some (some (.ref f_law_made)))
    (l_law_made : K.lookup f_law_made = some ⟨oc_law_made, od_law_made, .func (PySem.W.fnOf "_law_made" "_law_made" (defArgs s_law_made) (defBody s_law_made) (defScope s_law_made) .none kV_law_made dc_law_made pm_law_made an_law_made cd_law_made ct_law_made), sl_law_made⟩)
    (c_law_made : PySem.W.codeIn K cd_law_made "_law_made" = true)
    (k_law_made : PySem.W.keepIn K (.ref f_law_made) = true)
    (a_Full___init__ : PySem.W.findIn K (.ref C_Full) "__init__" = some (some (.ref f_Full___init__)))
    (l_Full___init__ : K.lookup f_Full___init__ = some ⟨oc_Full___init__, od_Full___init__, .func (PySem.W.fnOf "__init__" "Full.__init__" (defArgs s_Full___init__) (defBody s_Full___init__) (defScope s_Full___init__) .none kV_Full___init__ dc_Full___init__ pm_Full___init__ an_Full___init__ cd_Full___init__ ct_Full___init__), sl_Full___init__⟩)
    (c_Full___init__ : PySem.W.codeIn K cd_Full___init__ "Full.__init__" = true)
    (k_Full___init__ : PySem.W.keepIn K (.ref f_Full___init__) = true)
    (u_Full___init__ : PySem.W.typeIn K (.ref f_Full___init__) = some (.type "function"))
    (fn_Full___init__ : PySem.W.isFn K (.ref f_Full___init__) = true)
    (a_World_add : PySem.W.findIn K (.ref C_World) "add" = some (some (.ref f_World_add)))
    (l_World_add : K.lookup f_World_add = some ⟨oc_World_add, od_World_add, .func (PySem.W.fnOf "add" "World.add" (defArgs s_World_add) (defBody s_World_add) (defScope s_World_add) .none kV_World_add dc_World_add pm_World_add an_World_add cd_World_add ct_World_add), sl_World_add⟩)
    (c_World_add : PySem.W.codeIn K cd_World_add "World.add" = true)
    (k_World_add : PySem.W.keepIn K (.ref f_World_add) = true)
    (u_World_add : PySem.W.typeIn K (.ref f_World_add) = some (.type "function"))
    (fn_World_add : PySem.W.isFn K (.ref f_World_add) = true)
    (a_law_added : PySem.W.nsIn K mainGlobals "_law_added" = some (some (.ref f_law_added)))
    (l_law_added : K.lookup f_law_added = some ⟨oc_law_added, od_law_added, .func (PySem.W.fnOf "_law_added" "_law_added" (defArgs s_law_added) (defBody s_law_added) (defScope s_law_added) .none kV_law_added dc_law_added pm_law_added an_law_added cd_law_added ct_law_added), sl_law_added⟩)
    (c_law_added : PySem.W.codeIn K cd_law_added "_law_added" = true)
    (k_law_added : PySem.W.keepIn K (.ref f_law_added) = true)
    (a_NoDeed___init__ : PySem.W.findIn K (.ref C_NoDeed) "__init__" = some (some (.ref f_NoDeed___init__)))
    (l_NoDeed___init__ : K.lookup f_NoDeed___init__ = some ⟨oc_NoDeed___init__, od_NoDeed___init__, .func (PySem.W.fnOf "__init__" "NoDeed.__init__" (defArgs s_NoDeed___init__) (defBody s_NoDeed___init__) (defScope s_NoDeed___init__) .none kV_NoDeed___init__ dc_NoDeed___init__ pm_NoDeed___init__ an_NoDeed___init__ cd_NoDeed___init__ ct_NoDeed___init__), sl_NoDeed___init__⟩)
    (c_NoDeed___init__ : PySem.W.codeIn K cd_NoDeed___init__ "NoDeed.__init__" = true)
    (k_NoDeed___init__ : PySem.W.keepIn K (.ref f_NoDeed___init__) = true)
    (u_NoDeed___init__ : PySem.W.typeIn K (.ref f_NoDeed___init__) = some (.type "function"))
    (fn_NoDeed___init__ : PySem.W.isFn K (.ref f_NoDeed___init__) = true)
    (a_World_look_at_deed : PySem.W.findIn K (.ref C_World) "look_at_deed" = some (some (.ref f_World_look_at_deed)))
    (l_World_look_at_deed : K.lookup f_World_look_at_deed = some ⟨oc_World_look_at_deed, od_World_look_at_deed, .func (PySem.W.fnOf "look_at_deed" "World.look_at_deed" (defArgs s_World_look_at_deed) (defBody s_World_look_at_deed) (defScope s_World_look_at_deed) .none kV_World_look_at_deed dc_World_look_at_deed pm_World_look_at_deed an_World_look_at_deed cd_World_look_at_deed ct_World_look_at_deed), sl_World_look_at_deed⟩)
    (c_World_look_at_deed : PySem.W.codeIn K cd_World_look_at_deed "World.look_at_deed" = true)
    (k_World_look_at_deed : PySem.W.keepIn K (.ref f_World_look_at_deed) = true)
    (u_World_look_at_deed : PySem.W.typeIn K (.ref f_World_look_at_deed) = some (.type "function"))
    (fn_World_look_at_deed : PySem.W.isFn K (.ref f_World_look_at_deed) = true)
    (a_NoThing___init__ : PySem.W.findIn K (.ref C_NoThing) "__init__" = some (some (.ref f_NoThing___init__)))
    (l_NoThing___init__ : K.lookup f_NoThing___init__ = some ⟨oc_NoThing___init__, od_NoThing___init__, .func (PySem.W.fnOf "__init__" "NoThing.__init__" (defArgs s_NoThing___init__) (defBody s_NoThing___init__) (defScope s_NoThing___init__) .none kV_NoThing___init__ dc_NoThing___init__ pm_NoThing___init__ an_NoThing___init__ cd_NoThing___init__ ct_NoThing___init__), sl_NoThing___init__⟩)
    (c_NoThing___init__ : PySem.W.codeIn K cd_NoThing___init__ "NoThing.__init__" = true)
    (k_NoThing___init__ : PySem.W.keepIn K (.ref f_NoThing___init__) = true)
    (u_NoThing___init__ : PySem.W.typeIn K (.ref f_NoThing___init__) = some (.type "function"))
    (fn_NoThing___init__ : PySem.W.isFn K (.ref f_NoThing___init__) = true)
    (a_World_look_at_thing : PySem.W.findIn K (.ref C_World) "look_at_thing" = some (some (.ref f_World_look_at_thing)))
    (l_World_look_at_thing : K.lookup f_World_look_at_thing = some ⟨oc_World_look_at_thing, od_World_look_at_thing, .func (PySem.W.fnOf "look_at_thing" "World.look_at_thing" (defArgs s_World_look_at_thing) (defBody s_World_look_at_thing) (defScope s_World_look_at_thing) .none kV_World_look_at_thing dc_World_look_at_thing pm_World_look_at_thing an_World_look_at_thing cd_World_look_at_thing ct_World_look_at_thing), sl_World_look_at_thing⟩)
    (c_World_look_at_thing : PySem.W.codeIn K cd_World_look_at_thing "World.look_at_thing" = true)
    (k_World_look_at_thing : PySem.W.keepIn K (.ref f_World_look_at_thing) = true)
    (u_World_look_at_thing : PySem.W.typeIn K (.ref f_World_look_at_thing) = some (.type "function"))
    (fn_World_look_at_thing : PySem.W.isFn K (.ref f_World_look_at_thing) = true)
    (a_Taken___init__ : PySem.W.findIn K (.ref C_Taken) "__init__" = some (some (.ref f_Taken___init__)))
    (l_Taken___init__ : K.lookup f_Taken___init__ = some ⟨oc_Taken___init__, od_Taken___init__, .func (PySem.W.fnOf "__init__" "Taken.__init__" (defArgs s_Taken___init__) (defBody s_Taken___init__) (defScope s_Taken___init__) .none kV_Taken___init__ dc_Taken___init__ pm_Taken___init__ an_Taken___init__ cd_Taken___init__ ct_Taken___init__), sl_Taken___init__⟩)
    (c_Taken___init__ : PySem.W.codeIn K cd_Taken___init__ "Taken.__init__" = true)
    (k_Taken___init__ : PySem.W.keepIn K (.ref f_Taken___init__) = true)
    (u_Taken___init__ : PySem.W.typeIn K (.ref f_Taken___init__) = some (.type "function"))
    (fn_Taken___init__ : PySem.W.isFn K (.ref f_Taken___init__) = true)
    (a_World_lay : PySem.W.findIn K (.ref C_World) "lay" = some (some (.ref f_World_lay)))
    (l_World_lay : K.lookup f_World_lay = some ⟨oc_World_lay, od_World_lay, .func (PySem.W.fnOf "lay" "World.lay" (defArgs s_World_lay) (defBody s_World_lay) (defScope s_World_lay) .none kV_World_lay dc_World_lay pm_World_lay an_World_lay cd_World_lay ct_World_lay), sl_World_lay⟩)
    (c_World_lay : PySem.W.codeIn K cd_World_lay "World.lay" = true)
    (k_World_lay : PySem.W.keepIn K (.ref f_World_lay) = true)
    (u_World_lay : PySem.W.typeIn K (.ref f_World_lay) = some (.type "function"))
    (fn_World_lay : PySem.W.isFn K (.ref f_World_lay) = true)
    (a_Bare___init__ : PySem.W.findIn K (.ref C_Bare) "__init__" = some (some (.ref f_Bare___init__)))
    (l_Bare___init__ : K.lookup f_Bare___init__ = some ⟨oc_Bare___init__, od_Bare___init__, .func (PySem.W.fnOf "__init__" "Bare.__init__" (defArgs s_Bare___init__) (defBody s_Bare___init__) (defScope s_Bare___init__) .none kV_Bare___init__ dc_Bare___init__ pm_Bare___init__ an_Bare___init__ cd_Bare___init__ ct_Bare___init__), sl_Bare___init__⟩)
    (c_Bare___init__ : PySem.W.codeIn K cd_Bare___init__ "Bare.__init__" = true)
    (k_Bare___init__ : PySem.W.keepIn K (.ref f_Bare___init__) = true)
    (u_Bare___init__ : PySem.W.typeIn K (.ref f_Bare___init__) = some (.type "function"))
    (fn_Bare___init__ : PySem.W.isFn K (.ref f_Bare___init__) = true)
    (a_World_lift : PySem.W.findIn K (.ref C_World) "lift" = some (some (.ref f_World_lift)))
    (l_World_lift : K.lookup f_World_lift = some ⟨oc_World_lift, od_World_lift, .func (PySem.W.fnOf "lift" "World.lift" (defArgs s_World_lift) (defBody s_World_lift) (defScope s_World_lift) .none kV_World_lift dc_World_lift pm_World_lift an_World_lift cd_World_lift ct_World_lift), sl_World_lift⟩)
    (c_World_lift : PySem.W.codeIn K cd_World_lift "World.lift" = true)
    (k_World_lift : PySem.W.keepIn K (.ref f_World_lift) = true)
    (u_World_lift : PySem.W.typeIn K (.ref f_World_lift) = some (.type "function"))
    (fn_World_lift : PySem.W.isFn K (.ref f_World_lift) = true)
    (a_law_asked : PySem.W.nsIn K mainGlobals "_law_asked" = some (some (.ref f_law_asked)))
    (l_law_asked : K.lookup f_law_asked = some ⟨oc_law_asked, od_law_asked, .func (PySem.W.fnOf "_law_asked" "_law_asked" (defArgs s_law_asked) (defBody s_law_asked) (defScope s_law_asked) .none kV_law_asked dc_law_asked pm_law_asked an_law_asked cd_law_asked ct_law_asked), sl_law_asked⟩)
    (c_law_asked : PySem.W.codeIn K cd_law_asked "_law_asked" = true)
    (k_law_asked : PySem.W.keepIn K (.ref f_law_asked) = true)
    (a_World_laid : PySem.W.findIn K (.ref C_World) "laid" = some (some (.ref f_World_laid)))
    (l_World_laid : K.lookup f_World_laid = some ⟨oc_World_laid, od_World_laid, .func (PySem.W.fnOf "laid" "World.laid" (defArgs s_World_laid) (defBody s_World_laid) (defScope s_World_laid) .none kV_World_laid dc_World_laid pm_World_laid an_World_laid cd_World_laid ct_World_laid), sl_World_laid⟩)
    (c_World_laid : PySem.W.codeIn K cd_World_laid "World.laid" = true)
    (k_World_laid : PySem.W.keepIn K (.ref f_World_laid) = true)
    (u_World_laid : PySem.W.typeIn K (.ref f_World_laid) = some (.type "function"))
    (fn_World_laid : PySem.W.isFn K (.ref f_World_laid) = true)
    (a_law : PySem.W.nsIn K mainGlobals "law" = some (some (.ref f_law)))
    (l_law : K.lookup f_law = some ⟨oc_law, od_law, .func (PySem.W.fnOf "law" "law" (defArgs s_law) (defBody s_law) (defScope s_law) .none kV_law dc_law pm_law an_law cd_law ct_law), sl_law⟩)
    (c_law : PySem.W.codeIn K cd_law "law" = true)
    (k_law : PySem.W.keepIn K (.ref f_law) = true) :
    ∃ fd : FuncData, (∀ (s : Shared) (v : Value), BindsTo s fd ⟨[v], []⟩ [("_law_script", v)]) ∧ ∀ base : Heap, K.In base → base.Ns mainGlobals mg → FnG l.prog w K mg base CX0 6 fa fd ["_law_script"] (sp_law K) := by
  have e := hfa.symm.trans (PySem.W.mg_of X G a_law)
  cases e
  have T : Txt K mg C_Bare C_Full C_NoDeed C_NoNumber C_NoThing C_Taken C_World := ⟨PySem.W.mg_none_of X G z_IndexError, PySem.W.mg_none_of X G z_KeyError, PySem.W.mg_none_of X G z_LookupError, PySem.W.mg_none_of X G z_OverflowError, PySem.W.mg_none_of X G z_RuntimeError, PySem.W.mg_none_of X G z_bool, PySem.W.mg_none_of X G z_int, PySem.W.mg_none_of X G z_isinstance, PySem.W.mg_none_of X G z_len, PySem.W.mg_none_of X G z_max, PySem.W.mg_none_of X G z_min, PySem.W.mg_none_of X G z_range, PySem.W.mg_none_of X G z_repr, PySem.W.mg_none_of X G z_sorted, PySem.W.mg_none_of X G z_str, ⟨_, PySem.W.mg_of X G n_DEEDS, ⟨_, rfl⟩⟩, ⟨_, PySem.W.mg_of X G n_MOST_THINGS, ⟨_, rfl⟩⟩, w_IndexError, w_KeyError, w_LookupError, w_OverflowError, w_RuntimeError, y_Bare_deed, y_Bare_thing, y_Full_size, y_NoDeed_deed, y_NoNumber_number, y_NoThing_thing, y_Taken_deed, y_Taken_thing, y_World_own_many, y_World_own_ways, ⟨PySem.W.mg_of X G aC_Bare, ⟨PySem.XB0.XB.of PySem.F.excBase_LookupError, PySem.F.store_LookupError, xC_Bare, oC_Bare, hd_Bare, sa_Bare, bC_Bare, tC_Bare, kC_Bare⟩, iC_Bare, sC_Bare, ⟨hg_Bare, hk_Bare, bC_Bare, hd_Bare, ha_Bare, hn, ht, hm_Bare⟩, ⟨hg_Bare, hk_Bare, bC_Bare, hd_Bare⟩⟩, ⟨PySem.W.mg_of X G aC_Full, ⟨PySem.XB0.XB.of PySem.F.excBase_OverflowError, PySem.F.store_OverflowError, xC_Full, oC_Full, hd_Full, sa_Full, bC_Full, tC_Full, kC_Full⟩, iC_Full, sC_Full, ⟨hg_Full, hk_Full, bC_Full, hd_Full, ha_Full, hn, ht, hm_Full⟩, ⟨hg_Full, hk_Full, bC_Full, hd_Full⟩⟩, ⟨PySem.W.mg_of X G aC_NoDeed, ⟨PySem.XB0.xb_KeyError, PySem.XB0.st_KeyError, xC_NoDeed, oC_NoDeed, hd_NoDeed, sa_NoDeed, bC_NoDeed, tC_NoDeed, kC_NoDeed⟩, iC_NoDeed, sC_NoDeed, ⟨hg_NoDeed, hk_NoDeed, bC_NoDeed, hd_NoDeed, ha_NoDeed, hn, ht, hm_NoDeed⟩, ⟨hg_NoDeed, hk_NoDeed, bC_NoDeed, hd_NoDeed⟩⟩, ⟨PySem.W.mg_of X G aC_NoNumber, ⟨PySem.XB0.XB.of PySem.F.excBase_LookupError, PySem.F.store_LookupError, xC_NoNumber, oC_NoNumber, hd_NoNumber, sa_NoNumber, bC_NoNumber, tC_NoNumber, kC_NoNumber⟩, iC_NoNumber, sC_NoNumber, ⟨hg_NoNumber, hk_NoNumber, bC_NoNumber, hd_NoNumber, ha_NoNumber, hn, ht, hm_NoNumber⟩, ⟨hg_NoNumber, hk_NoNumber, bC_NoNumber, hd_NoNumber⟩⟩, ⟨PySem.W.mg_of X G aC_NoThing, ⟨PySem.XB0.XB.of PySem.F.excBase_IndexError, PySem.F.store_IndexError, xC_NoThing, oC_NoThing, hd_NoThing, sa_NoThing, bC_NoThing, tC_NoThing, kC_NoThing⟩, iC_NoThing, sC_NoThing, ⟨hg_NoThing, hk_NoThing, bC_NoThing, hd_NoThing, ha_NoThing, hn, ht, hm_NoThing⟩, ⟨hg_NoThing, hk_NoThing, bC_NoThing, hd_NoThing⟩⟩, ⟨PySem.W.mg_of X G aC_Taken, ⟨PySem.XB0.XB.of PySem.F.excBase_RuntimeError, PySem.F.store_RuntimeError, xC_Taken, oC_Taken, hd_Taken, sa_Taken, bC_Taken, tC_Taken, kC_Taken⟩, iC_Taken, sC_Taken, ⟨hg_Taken, hk_Taken, bC_Taken, hd_Taken, ha_Taken, hn, ht, hm_Taken⟩, ⟨hg_Taken, hk_Taken, bC_Taken, hd_Taken⟩⟩, ⟨PySem.W.mg_of X G aC_World, ⟨pg_World, hd_World, po_World, sa_World⟩, mk_World, kC_World⟩, f_e1, f_e2, f_e3, f_e4, f_e5, f_e6, f_e7⟩
  have F_law_pool := fun_mk (st := s_law_pool) l_law_pool c_law_pool k_law_pool
  have b_law_pool := F_law_pool.binds (ps := ["_law_script", "_law_k"]) fun _ _ _ _ _ _ us hl => match us, hl with | [_, _], _ => rfl
  have F_law_take := fun_mk (st := s_law_take) l_law_take c_law_take k_law_take
  have b_law_take := F_law_take.binds (ps := ["_law_pool_here", "_law_many"]) fun _ _ _ _ _ _ us hl => match us, hl with | [_, _], _ => rfl
  have F_is_whole := fun_mk (st := s_is_whole) l_is_whole c_is_whole k_is_whole
  have b_is_whole := F_is_whole.binds (ps := ["thing"]) fun _ _ _ _ _ _ us hl => match us, hl with | [_], _ => rfl
  have F_NoNumber___init__ := fun_mk (st := s_NoNumber___init__) l_NoNumber___init__ c_NoNumber___init__ k_NoNumber___init__
  have b_NoNumber___init__ := F_NoNumber___init__.binds (ps := ["self", "number"]) fun _ _ _ _ _ _ us hl => match us, hl with | [_, _], _ => rfl
  have F_World___init__ := funD_mk (st := s_World___init__) (its := [.int 0 td0_World___init__]) (dvs := [.int 0]) l_World___init__ c_World___init__ k_World___init__ t_World___init__ rfl (.cons ⟨_, rfl⟩ .nil) (by simp)
  obtain ⟨ds_World___init__, v_World___init__, b_World___init__⟩ := FunD.binds1 F_World___init__ (ps := ["self", "things"]) 2 1 (by simp) rfl fun _ _ _ _ _ _ _ us its hu hi => match us, hu, its, hi with | [_, _], _, [_], _ => ⟨_, rfl, rfl⟩
  obtain ⟨ds_World___init___d1, v_World___init___d1, b_World___init___d1⟩ := FunD.binds1 F_World___init__ (ps := ["self", "things"]) 1 0 (by simp) rfl fun _ _ _ _ _ _ _ us its hu hi => match us, hu, its, hi with | [_], _, [_], _ => ⟨_, rfl, rfl⟩
  have F_World___len__ := fun_mk (st := s_World___len__) l_World___len__ c_World___len__ k_World___len__
  have b_World___len__ := F_World___len__.binds (ps := ["self"]) fun _ _ _ _ _ _ us hl => match us, hl with | [_], _ => rfl
  have F_law_made := fun_mk (st := s_law_made) l_law_made c_law_made k_law_made
  have b_law_made := F_law_made.binds (ps := ["_law_thing"]) fun _ _ _ _ _ _ us hl => match us, hl with | [_], _ => rfl
  have F_Full___init__ := fun_mk (st := s_Full___init__) l_Full___init__ c_Full___init__ k_Full___init__
  have b_Full___init__ := F_Full___init__.binds (ps := ["self", "size"]) fun _ _ _ _ _ _ us hl => match us, hl with | [_, _], _ => rfl
  have F_World_add := fun_mk (st := s_World_add) l_World_add c_World_add k_World_add
  have b_World_add := F_World_add.binds (ps := ["self"]) fun _ _ _ _ _ _ us hl => match us, hl with | [_], _ => rfl
  have F_law_added := fun_mk (st := s_law_added) l_law_added c_law_added k_law_added
  have b_law_added := F_law_added.binds (ps := ["_law_world"]) fun _ _ _ _ _ _ us hl => match us, hl with | [_], _ => rfl
  have F_NoDeed___init__ := fun_mk (st := s_NoDeed___init__) l_NoDeed___init__ c_NoDeed___init__ k_NoDeed___init__
  have b_NoDeed___init__ := F_NoDeed___init__.binds (ps := ["self", "deed"]) fun _ _ _ _ _ _ us hl => match us, hl with | [_, _], _ => rfl
  have F_World_look_at_deed := fun_mk (st := s_World_look_at_deed) l_World_look_at_deed c_World_look_at_deed k_World_look_at_deed
  have b_World_look_at_deed := F_World_look_at_deed.binds (ps := ["self", "deed"]) fun _ _ _ _ _ _ us hl => match us, hl with | [_, _], _ => rfl
  have F_NoThing___init__ := fun_mk (st := s_NoThing___init__) l_NoThing___init__ c_NoThing___init__ k_NoThing___init__
  have b_NoThing___init__ := F_NoThing___init__.binds (ps := ["self", "thing"]) fun _ _ _ _ _ _ us hl => match us, hl with | [_, _], _ => rfl
  have F_World_look_at_thing := fun_mk (st := s_World_look_at_thing) l_World_look_at_thing c_World_look_at_thing k_World_look_at_thing
  have b_World_look_at_thing := F_World_look_at_thing.binds (ps := ["self", "thing"]) fun _ _ _ _ _ _ us hl => match us, hl with | [_, _], _ => rfl
  have F_Taken___init__ := fun_mk (st := s_Taken___init__) l_Taken___init__ c_Taken___init__ k_Taken___init__
  have b_Taken___init__ := F_Taken___init__.binds (ps := ["self", "deed", "thing"]) fun _ _ _ _ _ _ us hl => match us, hl with | [_, _, _], _ => rfl
  have F_World_lay := fun_mk (st := s_World_lay) l_World_lay c_World_lay k_World_lay
  have b_World_lay := F_World_lay.binds (ps := ["self", "deed", "one", "other"]) fun _ _ _ _ _ _ us hl => match us, hl with | [_, _, _, _], _ => rfl
  have F_Bare___init__ := fun_mk (st := s_Bare___init__) l_Bare___init__ c_Bare___init__ k_Bare___init__
  have b_Bare___init__ := F_Bare___init__.binds (ps := ["self", "deed", "thing"]) fun _ _ _ _ _ _ us hl => match us, hl with | [_, _, _], _ => rfl
  have F_World_lift := fun_mk (st := s_World_lift) l_World_lift c_World_lift k_World_lift
  have b_World_lift := F_World_lift.binds (ps := ["self", "deed", "thing"]) fun _ _ _ _ _ _ us hl => match us, hl with | [_, _, _], _ => rfl
  have F_law_asked := fun_mk (st := s_law_asked) l_law_asked c_law_asked k_law_asked
  have b_law_asked := F_law_asked.binds (ps := ["_law_world", "_law_door", "_law_deed", "_law_one", "_law_other"]) fun _ _ _ _ _ _ us hl => match us, hl with | [_, _, _, _, _], _ => rfl
  have F_World_laid := fun_mk (st := s_World_laid) l_World_laid c_World_laid k_World_laid
  have b_World_laid := F_World_laid.binds (ps := ["self"]) fun _ _ _ _ _ _ us hl => match us, hl with | [_], _ => rfl
  have F_law := fun_mk (st := s_law) l_law c_law k_law
  refine ⟨PySem.W.fnOf "law" "law" (defArgs s_law) (defBody s_law) (defScope s_law) .none kV_law dc_law pm_law an_law cd_law ct_law, fun s v => .of_eq rfl, fun base _ _ => ?_⟩
  have N_law_pool : KN l.prog w K mg base CX0 1 ["_law_script", "_law_k"] (sp_law_pool K) "_law_pool" [] := ⟨_, _, [], PySem.W.mg_of X G a_law_pool, k_law_pool, .nil, b_law_pool, ok_law_pool F_law_pool T⟩
  have N_law_take : KN l.prog w K mg base CX0 1 ["_law_pool_here", "_law_many"] (sp_law_take) "_law_take" [] := ⟨_, _, [], PySem.W.mg_of X G a_law_take, k_law_take, .nil, b_law_take, ok_law_take F_law_take T⟩
  have N_is_whole : KN l.prog w K mg base CX0 1 ["thing"] (sp_is_whole) "is_whole" [] := ⟨_, _, [], PySem.W.mg_of X G a_is_whole, k_is_whole, .nil, b_is_whole, ok_is_whole F_is_whole T⟩
  have N_NoNumber___init__ : KM l.prog w K mg base CX0 1 ["self", "number"] (sp_NoNumber___init__ C_NoNumber) C_NoNumber "__init__" [] := ⟨_, _, [], a_NoNumber___init__, u_NoNumber___init__, fn_NoNumber___init__, k_NoNumber___init__, .nil, b_NoNumber___init__, ok_NoNumber___init__ F_NoNumber___init__ T⟩
  have N_World___init__ : KM l.prog w K mg base (L2.CX l.prog w) 3 ["self", "things"] (sp_World___init__ C_World C_NoNumber) C_World "__init__" [] := ⟨_, _, _, a_World___init__, u_World___init__, fn_World___init__, k_World___init__, v_World___init__, b_World___init__, ok_World___init__ F_World___init__ T N_is_whole N_NoNumber___init__⟩
  have N_World___init___d1 : KM l.prog w K mg base (L2.CX l.prog w) 3 ["self", "things"] (sp_World___init__ C_World C_NoNumber) C_World "__init__" [.int 0] := ⟨_, _, _, a_World___init__, u_World___init__, fn_World___init__, k_World___init__, v_World___init___d1, b_World___init___d1, ok_World___init__ F_World___init__ T N_is_whole N_NoNumber___init__⟩
  have N_World___len__ : KM l.prog w K mg base CX0 1 ["self"] (sp_World___len__ C_World) C_World "__len__" [] := ⟨_, _, [], a_World___len__, u_World___len__, fn_World___len__, k_World___len__, .nil, b_World___len__, ok_World___len__ F_World___len__ T⟩
  have N_law_made : KN l.prog w K mg base CX0 5 ["_law_thing"] (sp_law_made C_World C_NoNumber) "_law_made" [] := ⟨_, _, [], PySem.W.mg_of X G a_law_made, k_law_made, .nil, b_law_made, ok_law_made F_law_made T N_World___init__ N_World___len__⟩
  have N_Full___init__ : KM l.prog w K mg base CX0 1 ["self", "size"] (sp_Full___init__ C_Full) C_Full "__init__" [] := ⟨_, _, [], a_Full___init__, u_Full___init__, fn_Full___init__, k_Full___init__, .nil, b_Full___init__, ok_Full___init__ F_Full___init__ T⟩
  have N_World_add : KM l.prog w K mg base (L2.CX l.prog w) 3 ["self"] (sp_World_add C_World C_Full) C_World "add" [] := ⟨_, _, [], a_World_add, u_World_add, fn_World_add, k_World_add, .nil, b_World_add, ok_World_add F_World_add T N_Full___init__⟩
  have N_law_added : KN l.prog w K mg base CX0 4 ["_law_world"] (sp_law_added C_World C_Full) "_law_added" [] := ⟨_, _, [], PySem.W.mg_of X G a_law_added, k_law_added, .nil, b_law_added, ok_law_added F_law_added T N_World_add⟩
  have N_NoDeed___init__ : KM l.prog w K mg base CX0 1 ["self", "deed"] (sp_NoDeed___init__ C_NoDeed) C_NoDeed "__init__" [] := ⟨_, _, [], a_NoDeed___init__, u_NoDeed___init__, fn_NoDeed___init__, k_NoDeed___init__, .nil, b_NoDeed___init__, ok_NoDeed___init__ F_NoDeed___init__ T⟩
  have N_World_look_at_deed : KM l.prog w K mg base (L2.CX l.prog w) 3 ["self", "deed"] (sp_World_look_at_deed C_World C_NoDeed) C_World "look_at_deed" [] := ⟨_, _, [], a_World_look_at_deed, u_World_look_at_deed, fn_World_look_at_deed, k_World_look_at_deed, .nil, b_World_look_at_deed, ok_World_look_at_deed F_World_look_at_deed T N_NoDeed___init__⟩
  have N_NoThing___init__ : KM l.prog w K mg base CX0 1 ["self", "thing"] (sp_NoThing___init__ C_NoThing) C_NoThing "__init__" [] := ⟨_, _, [], a_NoThing___init__, u_NoThing___init__, fn_NoThing___init__, k_NoThing___init__, .nil, b_NoThing___init__, ok_NoThing___init__ F_NoThing___init__ T⟩
  have N_World_look_at_thing : KM l.prog w K mg base (L2.CX l.prog w) 3 ["self", "thing"] (sp_World_look_at_thing C_World C_NoThing) C_World "look_at_thing" [] := ⟨_, _, [], a_World_look_at_thing, u_World_look_at_thing, fn_World_look_at_thing, k_World_look_at_thing, .nil, b_World_look_at_thing, ok_World_look_at_thing F_World_look_at_thing T N_is_whole N_NoThing___init__⟩
  have N_Taken___init__ : KM l.prog w K mg base CX0 1 ["self", "deed", "thing"] (sp_Taken___init__ C_Taken) C_Taken "__init__" [] := ⟨_, _, [], a_Taken___init__, u_Taken___init__, fn_Taken___init__, k_Taken___init__, .nil, b_Taken___init__, ok_Taken___init__ F_Taken___init__ T⟩
  have N_World_lay : KM l.prog w K mg base (L2.CX l.prog w) 4 ["self", "deed", "one", "other"] (sp_World_lay C_World C_NoDeed C_NoThing C_Taken) C_World "lay" [] := ⟨_, _, [], a_World_lay, u_World_lay, fn_World_lay, k_World_lay, .nil, b_World_lay, ok_World_lay F_World_lay T N_World_look_at_deed N_World_look_at_thing N_Taken___init__⟩
  have N_Bare___init__ : KM l.prog w K mg base CX0 1 ["self", "deed", "thing"] (sp_Bare___init__ C_Bare) C_Bare "__init__" [] := ⟨_, _, [], a_Bare___init__, u_Bare___init__, fn_Bare___init__, k_Bare___init__, .nil, b_Bare___init__, ok_Bare___init__ F_Bare___init__ T⟩
  have N_World_lift : KM l.prog w K mg base (L2.CX l.prog w) 4 ["self", "deed", "thing"] (sp_World_lift C_World C_NoDeed C_NoThing C_Bare) C_World "lift" [] := ⟨_, _, [], a_World_lift, u_World_lift, fn_World_lift, k_World_lift, .nil, b_World_lift, ok_World_lift F_World_lift T N_World_look_at_deed N_World_look_at_thing N_Bare___init__⟩
  have N_law_asked : KN l.prog w K mg base CX0 5 ["_law_world", "_law_door", "_law_deed", "_law_one", "_law_other"] (sp_law_asked C_World C_NoDeed C_NoThing) "_law_asked" [] := ⟨_, _, [], PySem.W.mg_of X G a_law_asked, k_law_asked, .nil, b_law_asked, ok_law_asked F_law_asked T N_World_lay N_World_lift⟩
  have N_World_laid : KM l.prog w K mg base CX0 1 ["self"] (sp_World_laid K C_World) C_World "laid" [] := ⟨_, _, [], a_World_laid, u_World_laid, fn_World_laid, k_World_laid, .nil, b_World_laid, ok_World_laid F_World_laid T⟩
  exact ok_law F_law T N_law_pool N_law_take N_law_made N_World___init___d1 N_World___len__ N_World___init__ N_law_added N_law_asked N_World_laid
theorem walk {l : PySem.W.OpenLaw} {q : Program} {loose : List Str} {XP : (Str → Option Value) → Heap → Prop} {YP : World → Heap → Prop} {d : DefRec} {K : Params → PySem.W.Frag} (hn : l.most = some 63) (hdf : d.params.defaults = [])
    (hY : ∀ (w : World) (h : Heap), YP w h → (K w.params).In h)
    (F : ∀ (w : World) (mg : Str → Option Value) (fa : Addr) (h : Heap), (K w.params).In h → h.Ns mainGlobals mg → mg d.name = some (.ref fa) →
      ∃ fd : FuncData, (∀ (s : Shared) (u : Value), BindsTo s fd ⟨[u], []⟩ [("_law_script", u)]) ∧ ∀ base : Heap, (K w.params).In base → base.Ns mainGlobals mg → FnG l.prog w (K w.params) mg base CX0 6 fa fd ["_law_script"] (sp_law (K w.params))) :
    PySem.W.WalkO q loose XP YP l.row.toRowW d [] (fun f vs => PySem.call f vs) :=
  L2.walk_ofG (n := 63) (k := 6) (x := "_law_script") (sp := fun w => sp_law (K w.params)) hn (by decide) hdf ⟨rfl, by decide, by decide⟩ hY F (fun _ _ a ns hl _ hS => ⟨a, ns, rfl, hS, hl, fun _ => rfl⟩)
end Toy

open PySem PySem.W PyProof.Rows in
set_option maxRecDepth 100000 in
set_option maxHeartbeats 0 in
theorem PySem.Challenge.cw_undotrees_k11_worlds_refused_holds : PySem.Challenge.rw_undotrees_k11_worlds_refused.Holds := by
  w_on; o_law; k_head; (case hw => w_witness2)
  k_fill
  refine Toy.walk (l := PySem.Challenge.rw_undotrees_k11_worlds_refused) rfl rfl (fun w h Y => PySem.W.kIn_of Y) ?F
  case F =>
    intro w mg fa h KX G hmg
    refine' Toy.all_mk KX G hmg ?z_IndexError ?z_KeyError ?z_LookupError ?z_OverflowError ?z_RuntimeError ?z_bool ?z_int ?z_isinstance ?z_len ?z_max ?z_min ?z_range ?z_repr ?z_sorted ?z_str ?n_DEEDS ?n_MOST_THINGS ?aC_Bare ?xC_Bare ?kC_Bare ?bC_Bare ?tC_Bare ?iC_Bare ?sC_Bare ?hg_Bare ?hk_Bare ?hd_Bare ?ha_Bare ?hm_Bare ?oC_Bare ?sa_Bare ?aC_Full ?xC_Full ?kC_Full ?bC_Full ?tC_Full ?iC_Full ?sC_Full ?hg_Full ?hk_Full ?hd_Full ?ha_Full ?hm_Full ?oC_Full ?sa_Full ?aC_NoDeed ?xC_NoDeed ?kC_NoDeed ?bC_NoDeed ?tC_NoDeed ?iC_NoDeed ?sC_NoDeed ?hg_NoDeed ?hk_NoDeed ?hd_NoDeed ?ha_NoDeed ?hm_NoDeed ?oC_NoDeed ?sa_NoDeed ?aC_NoNumber ?xC_NoNumber ?kC_NoNumber ?bC_NoNumber ?tC_NoNumber ?iC_NoNumber ?sC_NoNumber ?hg_NoNumber ?hk_NoNumber ?hd_NoNumber ?ha_NoNumber ?hm_NoNumber ?oC_NoNumber ?sa_NoNumber ?aC_NoThing ?xC_NoThing ?kC_NoThing ?bC_NoThing ?tC_NoThing ?iC_NoThing ?sC_NoThing ?hg_NoThing ?hk_NoThing ?hd_NoThing ?ha_NoThing ?hm_NoThing ?oC_NoThing ?sa_NoThing ?aC_Taken ?xC_Taken ?kC_Taken ?bC_Taken ?tC_Taken ?iC_Taken ?sC_Taken ?hg_Taken ?hk_Taken ?hd_Taken ?ha_Taken ?hm_Taken ?oC_Taken ?sa_Taken ?hn ?ht ?w_IndexError ?w_KeyError ?w_LookupError ?w_OverflowError ?w_RuntimeError ?aC_World ?pg_World ?hd_World ?po_World ?sa_World ?mk_World ?kC_World ?y_Bare_deed ?y_Bare_thing ?y_Full_size ?y_NoDeed_deed ?y_NoNumber_number ?y_NoThing_thing ?y_Taken_deed ?y_Taken_thing ?y_World_own_many ?y_World_own_ways ?f_e1 ?f_e2 ?f_e3 ?f_e4 ?f_e5 ?f_e6 ?f_e7 ?a_law_pool ?l_law_pool ?c_law_pool ?k_law_pool ?a_law_take ?l_law_take ?c_law_take ?k_law_take ?a_is_whole ?l_is_whole ?c_is_whole ?k_is_whole ?a_NoNumber___init__ ?l_NoNumber___init__ ?c_NoNumber___init__ ?k_NoNumber___init__ ?u_NoNumber___init__ ?fn_NoNumber___init__ ?a_World___init__ ?l_World___init__ ?t_World___init__ ?c_World___init__ ?k_World___init__ ?u_World___init__ ?fn_World___init__ ?a_World___len__ ?l_World___len__ ?c_World___len__ ?k_World___len__ ?u_World___len__ ?fn_World___len__ ?a_law_made ?l_law_made ?c_law_made ?k_law_made ?a_Full___init__ ?l_Full___init__ ?c_Full___init__ ?k_Full___init__ ?u_Full___init__ ?fn_Full___init__ ?a_World_add ?l_World_add ?c_World_add ?k_World_add ?u_World_add ?fn_World_add ?a_law_added ?l_law_added ?c_law_added ?k_law_added ?a_NoDeed___init__ ?l_NoDeed___init__ ?c_NoDeed___init__ ?k_NoDeed___init__ ?u_NoDeed___init__ ?fn_NoDeed___init__ ?a_World_look_at_deed ?l_World_look_at_deed ?c_World_look_at_deed ?k_World_look_at_deed ?u_World_look_at_deed ?fn_World_look_at_deed ?a_NoThing___init__ ?l_NoThing___init__ ?c_NoThing___init__ ?k_NoThing___init__ ?u_NoThing___init__ ?fn_NoThing___init__ ?a_World_look_at_thing ?l_World_look_at_thing ?c_World_look_at_thing ?k_World_look_at_thing ?u_World_look_at_thing ?fn_World_look_at_thing ?a_Taken___init__ ?l_Taken___init__ ?c_Taken___init__ ?k_Taken___init__ ?u_Taken___init__ ?fn_Taken___init__ ?a_World_lay ?l_World_lay ?c_World_lay ?k_World_lay ?u_World_lay ?fn_World_lay ?a_Bare___init__ ?l_Bare___init__ ?c_Bare___init__ ?k_Bare___init__ ?u_Bare___init__ ?fn_Bare___init__ ?a_World_lift ?l_World_lift ?c_World_lift ?k_World_lift ?u_World_lift ?fn_World_lift ?a_law_asked ?l_law_asked ?c_law_asked ?k_law_asked ?a_World_laid ?l_World_laid ?c_World_laid ?k_World_laid ?u_World_laid ?fn_World_laid ?a_law ?l_law ?c_law ?k_law
    (case z_IndexError => k_is)
    (case z_KeyError => k_is)
    (case z_LookupError => k_is)
    (case z_OverflowError => k_is)
    (case z_RuntimeError => k_is)
    (case z_bool => k_is)
    (case z_int => k_is)
    (case z_isinstance => k_is)
    (case z_len => k_is)
    (case z_max => k_is)
    (case z_min => k_is)
    (case z_range => k_is)
    (case z_repr => k_is)
    (case z_sorted => k_is)
    (case z_str => k_is)
    (case n_DEEDS => k_is)
    (case n_MOST_THINGS => k_is)
    (case aC_Bare => k_is)
    (case xC_Bare => kx_is)
    (case kC_Bare => k_is)
    (case bC_Bare => k_is)
    (case tC_Bare => k_is)
    (case iC_Bare => k_is)
    (case sC_Bare => first | rfl | k_is)
    (case hg_Bare => k_is)
    (case hk_Bare => k_is)
    (case hd_Bare => k_is)
    (case ha_Bare => k_is)
    (case hm_Bare => k_is)
    (case oC_Bare => kx_is)
    (case sa_Bare => k_is)
    (case aC_Full => k_is)
    (case xC_Full => kx_is)
    (case kC_Full => k_is)
    (case bC_Full => k_is)
    (case tC_Full => k_is)
    (case iC_Full => k_is)
    (case sC_Full => first | rfl | k_is)
    (case hg_Full => k_is)
    (case hk_Full => k_is)
    (case hd_Full => k_is)
    (case ha_Full => k_is)
    (case hm_Full => k_is)
    (case oC_Full => kx_is)
    (case sa_Full => k_is)
    (case aC_NoDeed => k_is)
    (case xC_NoDeed => kx_is)
    (case kC_NoDeed => k_is)
    (case bC_NoDeed => k_is)
    (case tC_NoDeed => k_is)
    (case iC_NoDeed => k_is)
    (case sC_NoDeed => first | rfl | k_is)
    (case hg_NoDeed => k_is)
    (case hk_NoDeed => k_is)
    (case hd_NoDeed => k_is)
    (case ha_NoDeed => k_is)
    (case hm_NoDeed => k_is)
    (case oC_NoDeed => kx_is)
    (case sa_NoDeed => k_is)
    (case aC_NoNumber => k_is)
    (case xC_NoNumber => kx_is)
    (case kC_NoNumber => k_is)
    (case bC_NoNumber => k_is)
    (case tC_NoNumber => k_is)
    (case iC_NoNumber => k_is)
    (case sC_NoNumber => first | rfl | k_is)
    (case hg_NoNumber => k_is)
    (case hk_NoNumber => k_is)
    (case hd_NoNumber => k_is)
    (case ha_NoNumber => k_is)
    (case hm_NoNumber => k_is)
    (case oC_NoNumber => kx_is)
    (case sa_NoNumber => k_is)
    (case aC_NoThing => k_is)
    (case xC_NoThing => kx_is)
    (case kC_NoThing => k_is)
    (case bC_NoThing => k_is)
    (case tC_NoThing => k_is)
    (case iC_NoThing => k_is)
    (case sC_NoThing => first | rfl | k_is)
    (case hg_NoThing => k_is)
    (case hk_NoThing => k_is)
    (case hd_NoThing => k_is)
    (case ha_NoThing => k_is)
    (case hm_NoThing => k_is)
    (case oC_NoThing => kx_is)
    (case sa_NoThing => k_is)
    (case aC_Taken => k_is)
    (case xC_Taken => kx_is)
    (case kC_Taken => k_is)
    (case bC_Taken => k_is)
    (case tC_Taken => k_is)
    (case iC_Taken => k_is)
    (case sC_Taken => first | rfl | k_is)
    (case hg_Taken => k_is)
    (case hk_Taken => k_is)
    (case hd_Taken => k_is)
    (case ha_Taken => k_is)
    (case hm_Taken => k_is)
    (case oC_Taken => kx_is)
    (case sa_Taken => k_is)
    (case hn => k_is)
    (case ht => k_is)
    (case w_IndexError => k_is)
    (case w_KeyError => k_is)
    (case w_LookupError => k_is)
    (case w_OverflowError => k_is)
    (case w_RuntimeError => k_is)
    (case aC_World => k_is)
    (case pg_World => k_is)
    (case hd_World => k_is)
    (case po_World => k_is)
    (case sa_World => k_is)
    (case mk_World => k_is)
    (case kC_World => k_is)
    (case y_Bare_deed => k_is)
    (case y_Bare_thing => k_is)
    (case y_Full_size => k_is)
    (case y_NoDeed_deed => k_is)
    (case y_NoNumber_number => k_is)
    (case y_NoThing_thing => k_is)
    (case y_Taken_deed => k_is)
    (case y_Taken_thing => k_is)
    (case y_World_own_many => k_is)
    (case y_World_own_ways => k_is)
    (case f_e1 => k_is)
    (case f_e2 => k_is)
    (case f_e3 => k_is)
    (case f_e4 => k_is)
    (case f_e5 => k_is)
    (case f_e6 => k_is)
    (case f_e7 => k_is)
    (case a_law_pool => k_is)
    (case l_law_pool => k_is)
    (case c_law_pool => k_is)
    (case k_law_pool => k_is)
    (case a_law_take => k_is)
    (case l_law_take => k_is)
    (case c_law_take => k_is)
    (case k_law_take => k_is)
    (case a_is_whole => k_is)
    (case l_is_whole => k_is)
    (case c_is_whole => k_is)
    (case k_is_whole => k_is)
    (case a_NoNumber___init__ => k_is)
    (case l_NoNumber___init__ => k_is)
    (case c_NoNumber___init__ => k_is)
    (case k_NoNumber___init__ => k_is)
    (case u_NoNumber___init__ => k_is)
    (case fn_NoNumber___init__ => k_is)
    (case a_World___init__ => k_is)
    (case l_World___init__ => k_is)
    (case t_World___init__ => k_is)
    (case c_World___init__ => k_is)
    (case k_World___init__ => k_is)
    (case u_World___init__ => k_is)
    (case fn_World___init__ => k_is)
    (case a_World___len__ => k_is)
    (case l_World___len__ => k_is)
    (case c_World___len__ => k_is)
    (case k_World___len__ => k_is)
    (case u_World___len__ => k_is)
    (case fn_World___len__ => k_is)
    (case a_law_made => k_is)
    (case l_law_made => k_is)
    (case c_law_made => k_is)
    (case k_law_made => k_is)
    (case a_Full___init__ => k_is)
    (case l_Full___init__ => k_is)
    (case c_Full___init__ => k_is)
    (case k_Full___init__ => k_is)
    (case u_Full___init__ => k_is)
    (case fn_Full___init__ => k_is)
    (case a_World_add => k_is)
    (case l_World_add => k_is)
    (case c_World_add => k_is)
    (case k_World_add => k_is)
    (case u_World_add => k_is)
    (case fn_World_add => k_is)
    (case a_law_added => k_is)
    (case l_law_added => k_is)
    (case c_law_added => k_is)
    (case k_law_added => k_is)
    (case a_NoDeed___init__ => k_is)
    (case l_NoDeed___init__ => k_is)
    (case c_NoDeed___init__ => k_is)
    (case k_NoDeed___init__ => k_is)
    (case u_NoDeed___init__ => k_is)
    (case fn_NoDeed___init__ => k_is)
    (case a_World_look_at_deed => k_is)
    (case l_World_look_at_deed => k_is)
    (case c_World_look_at_deed => k_is)
    (case k_World_look_at_deed => k_is)
    (case u_World_look_at_deed => k_is)
    (case fn_World_look_at_deed => k_is)
    (case a_NoThing___init__ => k_is)
    (case l_NoThing___init__ => k_is)
    (case c_NoThing___init__ => k_is)
    (case k_NoThing___init__ => k_is)
    (case u_NoThing___init__ => k_is)
    (case fn_NoThing___init__ => k_is)
    (case a_World_look_at_thing => k_is)
    (case l_World_look_at_thing => k_is)
    (case c_World_look_at_thing => k_is)
    (case k_World_look_at_thing => k_is)
    (case u_World_look_at_thing => k_is)
    (case fn_World_look_at_thing => k_is)
    (case a_Taken___init__ => k_is)
    (case l_Taken___init__ => k_is)
    (case c_Taken___init__ => k_is)
    (case k_Taken___init__ => k_is)
    (case u_Taken___init__ => k_is)
    (case fn_Taken___init__ => k_is)
    (case a_World_lay => k_is)
    (case l_World_lay => k_is)
    (case c_World_lay => k_is)
    (case k_World_lay => k_is)
    (case u_World_lay => k_is)
    (case fn_World_lay => k_is)
    (case a_Bare___init__ => k_is)
    (case l_Bare___init__ => k_is)
    (case c_Bare___init__ => k_is)
    (case k_Bare___init__ => k_is)
    (case u_Bare___init__ => k_is)
    (case fn_Bare___init__ => k_is)
    (case a_World_lift => k_is)
    (case l_World_lift => k_is)
    (case c_World_lift => k_is)
    (case k_World_lift => k_is)
    (case u_World_lift => k_is)
    (case fn_World_lift => k_is)
    (case a_law_asked => k_is)
    (case l_law_asked => k_is)
    (case c_law_asked => k_is)
    (case k_law_asked => k_is)
    (case a_World_laid => k_is)
    (case l_World_laid => k_is)
    (case c_World_laid => k_is)
    (case k_World_laid => k_is)
    (case u_World_laid => k_is)
    (case fn_World_laid => k_is)
    (case a_law => k_is)
    (case l_law => k_is)
    (case c_law => k_is)
    (case k_law => k_is)

