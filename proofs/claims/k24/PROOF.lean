import PyProof.Rows.All
import Wide.All
import OpenK.AllK
import Wide.FinOn
import HandS.ForMost
import HandS.ForExc
import HandS.Walk
import HandS.StrMore
import HandS.Replace
import HandS.IsInst
import HandS.Style
import HandS.Steps
import HandS.Evl
import HandS.Wide
import HandS.Defaults
import HandS.ExcIs
import HandS.TryMany
import HandS.ExcInit
import HandS.ExcField
import KE.KExcInit
import KE.KExcLine
import KE.KExcIs
import PyProof.ListStr
import KE.DataCmp
import KE.GoesZip
import KE.GoesMore
import KE.GoesEnum
import HandS.Dict
import HandS.TryOnly
import PyProof.StrBlock2
import KE.SortData
import HandS.Zip
import HandS.DeepEq
import PyProof.NeKinds
import HandS.Ends
import HandS.Codes
import PyProof.ReprRoads
import PyProof.CallFns
import PyProof.ReprBulk
import HandS.Flow
import HandS.More
import HandS.WrittenGet
import HandS.CallLocal
import HandS.Deep
import HandS.TupMul
import PyProof.MinMaxWalk
import PyProof.WalkInts
import PyProof.SeqI3
import HandS.List
import HandS.TupLe
import PySem.Challenge.RW_undotrees_k24_no_steps
set_option Elab.async false
set_option linter.all false
set_option maxRecDepth 100000
set_option maxHeartbeats 4000000

namespace RowM
/-- the twelve signs, in their order -/
def sgns : List Nat := [97, 65, 98, 66, 99, 67, 100, 68, 101, 69, 102, 70]
def con (c : Nat) : Nat := if 97 ≤ c then c - 32 else c + 32
def ix (c : Nat) : Nat := sgns.idxOf c
def lo (c : Nat) : Nat := if 97 ≤ c then c else c + 32
def up (c : Nat) : Nat := if 97 ≤ c then c - 32 else c
abbrev Row (l : List Nat) : Prop := ∀ c ∈ l, c ∈ sgns
theorem con_mem {c : Nat} (h : c ∈ sgns) : con c ∈ sgns := by
  have : ∀ c ∈ sgns, con c ∈ sgns := by decide
  exact this c h
theorem con_con {c : Nat} (h : c ∈ sgns) : con (con c) = c := by
  have : ∀ c ∈ sgns, con (con c) = c := by decide
  exact this c h
theorem con_ne {c : Nat} (h : c ∈ sgns) : con c ≠ c := by
  have : ∀ c ∈ sgns, con c ≠ c := by decide
  exact this c h
theorem con_inj {a b : Nat} (ha : a ∈ sgns) (hb : b ∈ sgns) (h : con a = con b) : a = b := by
  rw [← con_con ha, h, con_con hb]
/-! ### stacks: the plain row, its last sign first -/
def push (st : List Nat) (c : Nat) : List Nat := match st with
  | [] => [c]
  | d :: r => if d = con c then r else c :: d :: r
theorem push_cons (d c : Nat) (r : List Nat) : push (d :: r) c = if d = con c then r else c :: d :: r := rfl
def act (w st : List Nat) : List Nat := w.foldl push st
def plain (w : List Nat) : List Nat := (act w []).reverse
def turn (w : List Nat) : List Nat := (w.reverse).map con
/-- no sign next to its contrary -/
def Red : List Nat → Prop
  | [] => True
  | [_] => True
  | a :: b :: r => b ≠ con a ∧ Red (b :: r)
theorem Red.tail {a : Nat} {r : List Nat} (h : Red (a :: r)) : Red r := by
  cases r with
  | nil => trivial
  | cons b r => exact h.2
theorem Row.tail {a : Nat} {r : List Nat} (h : Row (a :: r)) : Row r := fun c hc => h c (List.mem_cons_of_mem _ hc)
theorem Row.head {a : Nat} {r : List Nat} (h : Row (a :: r)) : a ∈ sgns := h a List.mem_cons_self
theorem push_row {st : List Nat} {c : Nat} (h : Row st) (hc : c ∈ sgns) : Row (push st c) := by
  cases st with
  | nil => intro d hd; simp [push] at hd; rw [hd]; exact hc
  | cons d r =>
    rw [push_cons]
    by_cases q : d = con c
    · rw [if_pos q]
      exact Row.tail h
    · rw [if_neg q]
      intro e he
      rcases List.mem_cons.mp he with rfl | he
      · exact hc
      · exact h e he
theorem push_red {st : List Nat} {c : Nat} (h : Red st) : Red (push st c) := by
  cases st with
  | nil => simp [push, Red]
  | cons d r =>
    rw [push_cons]
    by_cases q : d = con c
    · rw [if_pos q]
      exact h.tail
    · rw [if_neg q]
      exact ⟨q, h⟩
theorem push_push {st : List Nat} {c : Nat} (h : Red st) (hc : c ∈ sgns) : push (push st c) (con c) = st := by
  cases st with
  | nil => simp [push, con_con hc]
  | cons d r =>
    by_cases e : d = con c
    · simp only [push, if_pos e]
      cases r with
      | nil => simp [e]
      | cons b r =>
        have hb : b ≠ c := by
          intro q
          have := h.1
          rw [e, con_con hc] at this
          exact this q
        simp only [con_con hc, if_neg hb, e]
    · simp only [push, if_neg e, con_con hc, if_pos]
theorem push_push' {st : List Nat} {c : Nat} (h : Red st) (hc : c ∈ sgns) : push (push st (con c)) c = st := by
  have := push_push (c := con c) h (con_mem hc)
  rw [con_con hc] at this
  exact this
theorem act_append (u v st : List Nat) : act (u ++ v) st = act v (act u st) := by simp [act, List.foldl_append]
theorem act_cons (a : Nat) (w st : List Nat) : act (a :: w) st = act w (push st a) := rfl
theorem act_row : ∀ (w st : List Nat), Row w → Row st → Row (act w st)
  | [], _, _, h => h
  | a :: w, st, hw, h => act_row w (push st a) (Row.tail hw) (push_row h (Row.head hw))
theorem act_red : ∀ (w st : List Nat), Red st → Red (act w st)
  | [], _, h => h
  | a :: w, st, h => act_red w (push st a) (push_red h)
theorem turn_cons (a : Nat) (w : List Nat) : turn (a :: w) = turn w ++ [con a] := by simp [turn]
theorem turn_append (u v : List Nat) : turn (u ++ v) = turn v ++ turn u := by simp [turn]
theorem turn_row {w : List Nat} (h : Row w) : Row (turn w) := by
  intro c hc
  simp only [turn, List.mem_map, List.mem_reverse] at hc
  obtain ⟨d, hd, rfl⟩ := hc
  exact con_mem (h d hd)
theorem turn_turn {w : List Nat} (h : Row w) : turn (turn w) = w := by
  unfold turn
  rw [← List.map_reverse, List.reverse_reverse, List.map_map]
  conv => rhs; rw [← List.map_id w]
  exact List.map_congr_left fun c hc => con_con (h c hc)
theorem turn_length (w : List Nat) : (turn w).length = w.length := by simp [turn]
theorem act_turn : ∀ {w st : List Nat}, Row w → Red st → act (turn w) (act w st) = st
  | [], _, _, _ => rfl
  | a :: w, st, hw, h => by
    rw [turn_cons, act_append]
    have e : act (a :: w) st = act w (push st a) := rfl
    rw [e, act_turn (Row.tail hw) (push_red h)]
    exact push_push h (Row.head hw)
theorem act_turn' {w st : List Nat} (hw : Row w) (h : Red st) : act w (act (turn w) st) = st := by
  have := act_turn (turn_row hw) h
  rw [turn_turn hw] at this
  exact this
/-- an unplain pair goes -/
theorem act_pair {c : Nat} {u v st : List Nat} (hc : c ∈ sgns) (h : Red st) : act (u ++ c :: con c :: v) st = act (u ++ v) st := by
  rw [act_append, act_append]
  show act v (push (push (act u st) c) (con c)) = _
  rw [push_push (act_red _ _ h) hc]
theorem act_pair' {c : Nat} {u v st : List Nat} (hc : c ∈ sgns) (h : Red st) : act (u ++ con c :: c :: v) st = act (u ++ v) st := by
  have := act_pair (c := con c) (u := u) (v := v) (con_mem hc) h
  rw [con_con hc] at this
  exact this
theorem Red.snoc_iff : ∀ {l : List Nat} {a b : Nat}, Red (l ++ [a, b]) ↔ Red (l ++ [a]) ∧ b ≠ con a
  | [], a, b => by simp [Red]
  | [x], a, b => by simp [Red, and_assoc]
  | x :: y :: l, a, b => by
    have := Red.snoc_iff (l := y :: l) (a := a) (b := b)
    simp only [List.cons_append] at this ⊢
    simp only [Red]
    constructor
    · rintro ⟨h1, h2⟩
      exact ⟨⟨h1, (this.mp h2).1⟩, (this.mp h2).2⟩
    · rintro ⟨⟨h1, h2⟩, h3⟩
      exact ⟨h1, this.mpr ⟨h2, h3⟩⟩
/-- a plain row as a stack: the same read backwards -/
theorem red_reverse : ∀ {l : List Nat}, Row l → (Red l ↔ Red l.reverse)
  | [], _ => by simp [Red]
  | [a], _ => by simp [Red]
  | a :: b :: r, h => by
    have ih := red_reverse (l := b :: r) (Row.tail h)
    rw [List.reverse_cons, List.reverse_cons, List.append_assoc]
    show Red (a :: b :: r) ↔ Red (r.reverse ++ [b, a])
    rw [Red.snoc_iff]
    rw [List.reverse_cons] at ih
    rw [← ih]
    show (b ≠ con a ∧ Red (b :: r)) ↔ _
    constructor
    · rintro ⟨h1, h2⟩
      refine ⟨h2, fun e => h1 ?_⟩
      rw [e, con_con (Row.head (Row.tail h))]
    · rintro ⟨h1, h2⟩
      refine ⟨fun e => h2 ?_, h1⟩
      rw [e, con_con (Row.head h)]
theorem red_drop : ∀ {l m : List Nat}, Red (l ++ m) → Red m
  | [], _, h => h
  | _ :: l, m, h => red_drop (l := l) (Red.tail h)
theorem act_of_red : ∀ {p st : List Nat}, Red (p.reverse ++ st) → act p st = p.reverse ++ st
  | [], _, _ => by simp [act]
  | a :: p, st, h => by
    have e : (a :: p).reverse ++ st = p.reverse ++ (a :: st) := by simp
    rw [e] at h ⊢
    show act p (push st a) = _
    have hp : push st a = a :: st := by
      cases st with
      | nil => rfl
      | cons d r =>
        have hr : Red (a :: d :: r) := red_drop h
        rw [push_cons, if_neg hr.1]
    rw [hp]
    exact act_of_red h
theorem plain_row {w : List Nat} (h : Row w) : Row (plain w) := fun c hc => act_row _ _ h (fun _ q => (by cases q)) c (List.mem_reverse.mp hc)
theorem plain_red {w : List Nat} (h : Row w) : Red (plain w) := by
  unfold plain
  exact (red_reverse (act_row _ _ h fun _ q => (by cases q))).mp (act_red w _ (by trivial))
theorem plain_of_red {w : List Nat} (h : Row w) (r : Red w) : plain w = w := by
  unfold plain
  rw [act_of_red (by rw [List.append_nil]; exact (red_reverse h).mp r), List.append_nil, List.reverse_reverse]
theorem plain_plain {w : List Nat} (h : Row w) : plain (plain w) = plain w := plain_of_red (plain_row h) (plain_red h)
theorem plain_pair {c : Nat} {u v : List Nat} (hc : c ∈ sgns) : plain (u ++ c :: con c :: v) = plain (u ++ v) := by
  unfold plain
  rw [act_pair hc (by trivial)]
theorem push_plain {w : List Nat} {c : Nat} : act (w ++ [c]) [] = push (act w []) c := by rw [act_append]; rfl
/-- a row and it made plain act alike on plain stacks -/
theorem act_plain_aux : ∀ {w : List Nat}, Row w → ∀ {st : List Nat}, Red st → Row st → act (plain w) st = act w st := by
  intro w
  generalize hn : w.length = n
  induction n generalizing w with
  | zero =>
    intro h st _ _
    have : w = [] := List.eq_nil_of_length_eq_zero hn
    subst this
    rfl
  | succ n ih =>
    intro h st hr hs
    obtain ⟨u, c, rfl⟩ : ∃ u c, w = u ++ [c] := ⟨w.dropLast, w.getLast (by intro e; simp [e] at hn), (List.dropLast_concat_getLast _).symm⟩
    have hu : Row u := fun d hd => h d (List.mem_append_left _ hd)
    have hc : c ∈ sgns := h c (by simp)
    have hl : u.length = n := by simp at hn; exact hn
    have e := ih hl hu hr hs
    rw [act_append]
    show act (plain (u ++ [c])) st = push (act u st) c
    rw [← e]
    unfold plain
    rw [push_plain]
    cases hst : act u [] with
    | nil => simp [push, act]
    | cons d r =>
      by_cases q : d = con c
      · simp only [push, if_pos q]
        have e2 : (d :: r).reverse = r.reverse ++ [d] := by simp
        rw [e2, act_append]
        show _ = push (push (act r.reverse st) d) c
        rw [q, push_push' (act_red _ _ hr) hc]
      · simp only [push, if_neg q]
        have e2 : (c :: d :: r).reverse = (d :: r).reverse ++ [c] := by simp
        rw [e2, act_append]
        rfl
theorem act_plain {w st : List Nat} (h : Row w) (hr : Red st) (hs : Row st) : act (plain w) st = act w st := act_plain_aux h hr hs
theorem nil_row : Row [] := fun _ q => (by cases q)
theorem plain_turn {w : List Nat} (h : Row w) : plain (turn w) = turn (plain w) := by
  have hp := plain_row h
  have rp : Red (turn (plain w)) := by
    unfold turn
    have : ∀ l : List Nat, Row l → Red l → Red (l.map con) := by
      intro l
      induction l with
      | nil => intros; trivial
      | cons a l ih =>
        cases l with
        | nil => intros; trivial
        | cons b l =>
          intro hl hr
          refine ⟨fun e => hr.1 ?_, ih (Row.tail hl) hr.2⟩
          have := con_inj (Row.head (Row.tail hl)) (con_mem (Row.head hl)) e
          exact this
    exact this _ (fun c hc => hp c (List.mem_reverse.mp hc)) ((red_reverse hp).mp (plain_red h))
  have e : act (turn w) [] = act (turn (plain w)) [] := by
    have h1 : act w (act (turn w) []) = [] := act_turn' h (by trivial)
    have r1 : Red (act (turn w) []) := act_red _ _ (by trivial)
    have w1 : Row (act (turn w) []) := act_row _ _ (turn_row h) nil_row
    rw [← act_plain h r1 w1] at h1
    have h2 := act_turn (w := plain w) (st := act (turn w) []) hp r1
    rw [h1] at h2
    exact h2.symm
  have e2 : plain (turn w) = plain (turn (plain w)) := by unfold plain at *; rw [e]
  rw [e2, plain_of_red (turn_row hp) rp]
theorem plain_there_back {u : List Nat} (h : Row u) : plain (u ++ turn u) = [] := by
  unfold plain
  rw [act_append, act_turn h (by trivial)]
  rfl
theorem push_length (st : List Nat) (c : Nat) : (push st c).length ≤ st.length + 1 := by
  cases st with
  | nil => simp [push]
  | cons d r =>
    rw [push_cons]
    by_cases q : d = con c
    · rw [if_pos q]; simp; omega
    · rw [if_neg q]; simp
theorem act_length : ∀ (w st : List Nat), (act w st).length ≤ st.length + w.length
  | [], st => by simp [act]
  | a :: w, st => by
    have := act_length w (push st a)
    have h2 := push_length st a
    show (act w (push st a)).length ≤ _
    simp only [List.length_cons]
    omega
theorem plain_length (w : List Nat) : (plain w).length ≤ w.length := by
  unfold plain
  rw [List.length_reverse]
  simpa using act_length w []
/-! ### the order of rows -/
def lexI : List Nat → List Nat → Bool
  | a :: l, b :: m => if a = b then lexI l m else decide (a < b)
  | _, _ => false
def aheadL : List Nat → List Nat → Bool
  | a :: l, b :: m => if a = b then aheadL l m else if lo a ≠ lo b then decide (lo a < lo b) else decide (97 ≤ a)
  | _, _ => false
def before (l m : List Nat) : Bool := if l.length = m.length then lexI (l.map ix) (m.map ix) else decide (l.length < m.length)
theorem ix_inj {a b : Nat} (ha : a ∈ sgns) (hb : b ∈ sgns) : ix a = ix b ↔ a = b := by
  have : ∀ a ∈ sgns, ∀ b ∈ sgns, (ix a = ix b ↔ a = b) := by decide
  exact this a ha b hb
theorem ix_lt {a b : Nat} (ha : a ∈ sgns) (hb : b ∈ sgns) (h : a ≠ b) : decide (ix a < ix b) = (if lo a ≠ lo b then decide (lo a < lo b) else decide (97 ≤ a)) := by
  have : ∀ a ∈ sgns, ∀ b ∈ sgns, a ≠ b → decide (ix a < ix b) = (if lo a ≠ lo b then decide (lo a < lo b) else decide (97 ≤ a)) := by decide
  exact this a ha b hb h
theorem ahead_lex : ∀ {l m : List Nat}, Row l → Row m → aheadL l m = lexI (l.map ix) (m.map ix)
  | [], _, _, _ => by simp [aheadL, lexI]
  | a :: l, [], _, _ => by simp [aheadL, lexI]
  | a :: l, b :: m, hl, hm => by
    have ih := ahead_lex (Row.tail hl) (Row.tail hm)
    simp only [aheadL, List.map_cons, lexI, ix_inj (Row.head hl) (Row.head hm)]
    by_cases e : a = b
    · rw [if_pos e, if_pos e, ih]
    · rw [if_neg e, if_neg e, ix_lt (Row.head hl) (Row.head hm) e]
theorem lexI_trans : ∀ {l m n : List Nat}, l.length = m.length → m.length = n.length → lexI l m = true → lexI m n = true → lexI l n = true
  | [], _, _, _, _, h, _ => by simp [lexI] at h
  | a :: l, [], _, h, _, _, _ => by simp at h
  | a :: l, b :: m, [], _, h, _, _ => by simp at h
  | a :: l, b :: m, c :: n, h1, h2, h3, h4 => by
    simp only [lexI] at h3 h4 ⊢
    have e1 : l.length = m.length := by simpa using h1
    have e2 : m.length = n.length := by simpa using h2
    by_cases p : a = b
    · subst p
      rw [if_pos rfl] at h3
      by_cases q : a = c
      · subst q
        rw [if_pos rfl] at h4 ⊢
        exact lexI_trans e1 e2 h3 h4
      · rw [if_neg q] at h4 ⊢
        exact h4
    · rw [if_neg p] at h3
      have h3' := of_decide_eq_true h3
      by_cases q : b = c
      · subst q
        rw [if_neg p]
        exact h3
      · rw [if_neg q] at h4
        have h4' := of_decide_eq_true h4
        have : a ≠ c := by omega
        rw [if_neg this]
        exact decide_eq_true (by omega)
theorem before_trans {l m n : List Nat} (h1 : before l m = true) (h2 : before m n = true) : before l n = true := by
  unfold before at *
  by_cases e1 : l.length = m.length
  · rw [if_pos e1] at h1
    by_cases e2 : m.length = n.length
    · rw [if_pos e2] at h2
      rw [if_pos (e1.trans e2)]
      exact lexI_trans (by simpa using e1) (by simpa using e2) h1 h2
    · rw [if_neg e2] at h2
      have := of_decide_eq_true h2
      rw [if_neg (by omega)]
      exact decide_eq_true (by omega)
  · rw [if_neg e1] at h1
    have h1' := of_decide_eq_true h1
    by_cases e2 : m.length = n.length
    · rw [if_neg (by omega)]
      exact decide_eq_true (by omega)
    · rw [if_neg e2] at h2
      have := of_decide_eq_true h2
      rw [if_neg (by omega)]
      exact decide_eq_true (by omega)
end RowM

namespace L2
open PySem PySem.Spec PyProof.Rows
/-! ### rules beside the layer's own -/
section
variable {X : Cx}
/-- a constant of the module -/
theorem pe_globC {x : Str} {v : V} {pos : Pos} (h : ∃ u, X.mg x = some u ∧ RelV v u) (hg : Gl X x := by rfl) (hd : (x == ("__debug__" : Str)) = false := by decide) : PE X (.Name x pos) (tC v) := by
  obtain ⟨u, hm, r⟩ := h
  exact pe_glob hg hm r hd
/-- data that are alike: < -/
def rLtD (K : PySem.W.Frag) : R2 := fun x y H Q => ∃ d e, Dp K H x d ∧ Dp K H y e ∧ PySem.W.alike d e = true ∧ d ≠ .none ∧ min d.depth e.depth ≤ 60 ∧ Q (.bl (PySem.W.dataLt d e)) H
theorem op_ltD (hu : X.A.units + 64 < cLine) : OpR X (compareOp .Lt) (rLtD X.K) := by
  intro pins s σ H x y v u Q I rx ry h
  obtain ⟨d, e, hd, he, al, hn, hz, q⟩ := h
  obtain ⟨as, r1⟩ := Dp.reads I d x v hd rx
  obtain ⟨bs, r2⟩ := Dp.reads I e y u he ry
  exact PySem.W.lt_data r1 r2 al hn (by omega) ⟨.bl _, H, I, rfl, q⟩
/-- text[::-1] -/
def tRevS (te : TE) : TE := fun σ H Q => te σ H fun x H1 => ∃ z : Str, x = .str z ∧ z.length ≤ sizeLine ∧ Q (.str ⟨z.cps.toList.reverse.toArray⟩) H1
theorem pick_rev (z : Str) : ((Builtin.Str.strSliceIndices none none (-1) z.length).filterMap (z.cps[·]?)).toArray = z.cps.toList.reverse.toArray := by
  rw [PyProof.Rows.picked_rev]
  congr 1
  rw [PyProof.Rows.filterMap_get _ _ (fun i hi => by
    simp only [List.mem_map, List.mem_range] at hi
    obtain ⟨k, hk, rfl⟩ := hi
    have : z.length = z.cps.size := rfl
    omega)]
  apply List.ext_getElem
  · simp [Str.length]
  · intro i h1 h2
    simp only [List.length_map, List.length_range, Str.length] at h1
    simp only [List.map_map, List.getElem_map, List.getElem_range, List.getElem_reverse, Function.comp, Str.length, Array.length_toList]
    rw [Array.getD_eq_getD_getElem?]
    rw [Array.getElem?_eq_getElem (by omega)]
    simp
theorem pe_revS {e : Expr} {te : TE} {k : Nat} {p1 p2 p3 pos : Pos} (he : PE X e te) : PE X (.Subscript e (.Slice none none (some (.UnaryOp .USub (.Constant (.int 1) k p1) p2)) p3) pos) (tRevS te) := by
  refine ⟨fun pins s σ H Q I h => ?_⟩
  refine Subscript_ (thn (he.run pins s σ H _ I h) fun v s1 ⟨x, H1, I1, r1, q1⟩ => ?_)
  obtain ⟨z, ex, hz, q⟩ := q1
  subst ex
  obtain ⟨t, rfl⟩ := r1
  have hst : PO X (some (.UnaryOp .USub (.Constant (.int 1) k p1) p2)) (tPart (tUn (rU fun i => .int (-i)) (tC (.int 1)))) := po_some (pe_un un_neg pe_int)
  refine wpAny_Slice (thn (po_none.run pins s1 σ H1 (fun o H2 => o = none ∧ H2 = H1) I1 ⟨rfl, rfl⟩) fun vl s2 ⟨l, H2, I2, pl, el, e2⟩ => ?_)
  subst el e2
  refine thn (po_none.run pins s2 σ H2 (fun o H3 => o = none ∧ H3 = H2) I2 ⟨rfl, rfl⟩) fun vu s3 ⟨u, H3, I3, pu, eu, e3⟩ => ?_
  subst eu e3
  refine thn (hst.run pins s3 σ H3 (fun o H4 => o = some (-1) ∧ H4 = H3) I3 ⟨1, rfl, -1, rfl, rfl, rfl⟩) fun vs s4 ⟨o, H4, I4, ps, eo, e4⟩ => ?_
  subst eo e4
  obtain ⟨l1, rfl, hl1⟩ := IsPart.raw pl
  obtain ⟨u1, rfl, hu1⟩ := IsPart.raw pu
  obtain ⟨w1, rfl, hw1⟩ := IsPart.raw ps
  have I5 : Inv X pins σ H4 { s4 with heap := s4.heap.push { cls := .type "slice", data := .fields #[partValue l1, partValue u1, partValue w1] } } := I4.kept (t' := s4.toks) fun b ob q => Heap.get?_push_of_some _ q
  show wpAny (model X.prog X.w) X.A (subscriptTail e (.Slice none none (some (.UnaryOp .USub (.Constant (.int 1) k p1) p2)) p3) (.str z t) (.ref s4.heap.objs.size)) (EP X pins σ Q) X.xe { s4 with heap := s4.heap.push { cls := .type "slice", data := .fields #[partValue l1, partValue u1, partValue w1] } }
  refine tail_any (ops := [.str z t, .ref s4.heap.objs.size]) (typeIs_str _ _ _) F.slot_str_getitem.lookup ?_ (by with_unfolding_all rfl)
  refine wpAny_getItem_str_slice (l := l1) (u := u1) (st := w1) ⟨_, Heap.get?_push_size _ rfl, rfl, rfl⟩ (by rw [hw1]; rfl) ?_
  have hl : (⟨z.cps.toList.reverse.toArray⟩ : Str).length ≤ sizeLine := by
    show z.cps.toList.reverse.toArray.size ≤ sizeLine
    simpa [Str.length] using hz
  show Made.post (if ((w1.map (·.1)).getD 1 == 1 && (Builtin.Str.strSliceIndices (l1.map (·.1)) (u1.map (·.1)) ((w1.map (·.1)).getD 1) z.length).length == z.length) = true then Made.val (.str z t)
    else Made.str ⟨((Builtin.Str.strSliceIndices (l1.map (·.1)) (u1.map (·.1)) ((w1.map (·.1)).getD 1) z.length).filterMap (z.cps[·]?)).toArray⟩) (EP X pins σ Q) _
  rw [hl1, hu1, hw1]
  show Made.post (if ((-1 : Int) == 1 && (Builtin.Str.strSliceIndices none none (-1) z.length).length == z.length) = true then Made.val (.str z t)
    else Made.str ⟨((Builtin.Str.strSliceIndices none none (-1) z.length).filterMap (z.cps[·]?)).toArray⟩) (EP X pins σ Q) _
  rw [if_neg (by simp), pick_rev]
  exact ⟨hl, .str _, H4, I5.tok _, ⟨_, rfl⟩, q⟩
end
end L2

namespace L2
open PySem PySem.Spec PyProof.Rows
/-! ### zip of two texts -/
def Itzs (x y : Str) : It :=
  ⟨fun i _ => i < x.cps.size ∧ i < y.cps.size,
    fun i H v H' => ∃ T c d, v = .ref T ∧ H T = none ∧ H' = upd H T (.tup [.str ⟨#[c]⟩, .str ⟨#[d]⟩]) ∧ x.cps[i]? = some c ∧ y.cps[i]? = some d,
    fun i _ => (i ≤ x.cps.size ∧ i ≤ y.cps.size) ∧ (i = x.cps.size ∨ i = y.cps.size)⟩
theorem turn_zipS {P : Program} {w : World} {K : PySem.W.Frag} {elts : List Expr} {kk : Nat} {tpos : Pos} {z TI TO i1 i2 : Addr} (S : ZipSep2 z TI TO i1 i2 [i1] [i2]) (x y : Str) (t u : Tok) :
    Turn P w K (.Tuple elts kk tpos) (Itzs x y) [z, TI, TO, i1, i2] z
      (fun i h => IsZip h z TI TO .none ∧ IsTupOf2 h TI (.ref i1) (.ref i2) ∧ (∃ a b, IsTupOf2 h TO a b) ∧ h.IsStrIter i1 (strIterType x) x t i ∧ h.IsStrIter i2 (strIterType y) y u i) where
  mem := by simp
  obj := fun i h st c hc => by
    obtain ⟨hz, hTI, ⟨a, b, hTO⟩, ⟨o1, e1, _, d1⟩, ⟨o2, e2, _, d2⟩⟩ := st
    have e' : c = z ∨ c = TI ∨ c = TO ∨ c = i1 ∨ c = i2 := by simpa using hc
    rcases e' with q | q | q | q | q
    · rw [q]; exact ⟨_, hz, fun v q => nomatch q⟩
    · rw [q]; exact ⟨_, hTI, fun v q => nomatch q⟩
    · rw [q]; exact ⟨_, hTO, fun v q => nomatch q⟩
    · rw [q]; exact ⟨o1, e1, fun v q => by rw [d1] at q; cases q⟩
    · rw [q]; exact ⟨o2, e2, fun v q => by rw [d2] at q; cases q⟩
  keep := fun i h h' st k => by
    obtain ⟨hz, hTI, ⟨a, b, hTO⟩, ⟨o1, e1, r1⟩, ⟨o2, e2, r2⟩⟩ := st
    exact ⟨k z (by simp) _ hz, k TI (by simp) _ hTI, ⟨a, b, k TO (by simp) _ hTO⟩, ⟨o1, k i1 (by simp) _ e1, r1⟩, ⟨o2, k i2 (by simp) _ e2, r2⟩⟩
  item := by
    intro X hP hw hK hc i pins s σ H E I hf st hg
    subst hP hw hK
    obtain ⟨hz, hTI, ⟨a0, b0, hTO⟩, h1, h2⟩ := st
    obtain ⟨g1, g2⟩ := hg
    have hh : X.A.in1.handled = none := I.ok.hd hc
    have hzl : z < s.heap.objs.size := Heap.lt_size hz
    refine wpAny_pyNext_zipD2_item S (Draws.text hh i1 x t) (Draws.text hh i2 y u) hz hTI hTO h1 h2 g1 g2 fun x1 x2 h' tk p1 p2 h1' TO' s1 s2 hT hsz hk => ?_
    obtain ⟨c, tc, hc1, rfl⟩ := p1
    obtain ⟨d, td, hd1, rfl⟩ := p2
    refine ⟨_, rfl, wpAny_letOwnedTupleGo_zip (s := { s with heap := h', toks := tk }) h1' fun h'' z'' sb => ?_⟩
    have hT2 : h''.get? s.heap.objs.size = some { cls := .type "tuple", data := .seq #[Value.str ⟨#[c]⟩ tc, Value.str ⟨#[d]⟩ td] } := (sb.2 _ (Nat.ne_of_gt hzl)).trans hT
    have new : ObjOk X.prog X.w (upd H s.heap.objs.size (.tup [.str ⟨#[c]⟩, .str ⟨#[d]⟩])) h'' s.heap.objs.size (.tup [.str ⟨#[c]⟩, .str ⟨#[d]⟩]) :=
      ⟨by show 2 ≤ sizeLine; decide, [Value.str ⟨#[c]⟩ tc, Value.str ⟨#[d]⟩ td], .cons ⟨tc, rfl⟩ (.cons ⟨td, rfl⟩ .nil), ⟨_, hT2, rfl, _, rfl⟩⟩
    have I1 : Inv X pins σ (upd H s.heap.objs.size (.tup [.str ⟨#[c]⟩, .str ⟨#[d]⟩])) { s with heap := h'', toks := tk } :=
      I.turnedNew (t' := tk) (ch := [z, TI, TO, i1, i2]) (fun c o hb q => (sb.2 c (fun q' => hb (by simp [q']))).trans (hk c o (fun q' => hb (by simp [q'])) (fun q' => hb (by simp [q'])) (fun q' => hb (by simp [q'])) (fun q' => hb (by simp [q'])) q)) hf (Nat.le_refl _) new
    have st1 : h''.IsStrIter i1 (strIterType x) x t (i + 1) := by
      obtain ⟨o, e, r⟩ := s1
      exact ⟨o, (sb.2 _ (fun q => S.zf1 (by rw [← q]; simp))).trans e, r⟩
    have st2 : h''.IsStrIter i2 (strIterType y) y u (i + 1) := by
      obtain ⟨o, e, r⟩ := s2
      exact ⟨o, (sb.2 _ (fun q => S.zf2 (by rw [← q]; simp))).trans e, r⟩
    refine ⟨.ref s.heap.objs.size, _, I1, rfl, ⟨_, c, d, rfl, I.hok.fresh (Nat.le_refl _), rfl, hc1, hd1⟩, ⟨z'', ?_, ⟨.str ⟨#[c]⟩ tc, .str ⟨#[d]⟩ td, ?_⟩, st1, st2⟩, fun b hbm => ?_⟩
    · exact (sb.2 _ S.TIz).trans (hk _ _ S.TIz S.TITO S.TIi1 S.TIi2 hTI)
    · exact (sb.2 _ S.TOz).trans TO'
    · have hlt : b < s.heap.objs.size := by
        have e' : b = z ∨ b = TI ∨ b = TO ∨ b = i1 ∨ b = i2 := by simpa using hbm
        rcases e' with q | q | q | q | q
        · rw [q]; exact hzl
        · rw [q]; exact Heap.lt_size hTI
        · rw [q]; exact Heap.lt_size hTO
        · rw [q]; obtain ⟨_, e1, _⟩ := h1; exact Heap.lt_size e1
        · rw [q]; obtain ⟨_, e2, _⟩ := h2; exact Heap.lt_size e2
      rw [upd_ne (Nat.ne_of_lt hlt)]
      exact (hf b hbm).1
  done := by
    intro X hP hw hK hc i pins s σ H E I hf st hg
    subst hP hw hK
    obtain ⟨hz, hTI, ⟨a0, b0, hTO⟩, h1, h2⟩ := st
    obtain ⟨⟨g1, g2⟩, g3⟩ := hg
    have hh : X.A.in1.handled = none := I.ok.hd hc
    exact wpAny_pyNext_zipD2_end S (Draws.text hh i1 x t) (Draws.text hh i2 y u) hz hTI hTO h1 h2 g1 g2 g3 fun h' tk hk => ⟨rfl, I.turnedL (t' := tk) (ch := [z, TI, TO, i1, i2]) (fun c o hb q =>
      hk c o (fun q' => hb (by simp [q'])) (fun q' => hb (by simp [q'])) (fun q' => hb (by simp [q'])) (fun q' => hb (by simp [q'])) q) hf⟩
  self := fun A i s Q E st h => wpAny_pyIter_zip st.1 h
def iZipS (ta : TA) : TI := fun σ H R => ta σ H fun vs H1 => ∃ x y, vs = [.str x, .str y] ∧ R (Itzs x y) H1
theorem pi_zipS {X : Cx} {e e2 : Expr} {ta : TA} {p pos tpos : Pos} {elts : List Expr} {kk : Nat} (hg : Gl X "zip") (hm : X.mg "zip" = none) (ha : PA X [e, e2] ta)
    (hs : starEach [e, e2] X.env = (false, eval e X.env) :: starEach [e2] X.env := by rfl) (hpl : (backTo pos (starEach [e2] X.env)).any (·.1) = false := by rfl) :
    PI X (.Tuple elts kk tpos) (.Call (.Name "zip" p) [e, e2] [] pos) (iZipS ta) := by
  refine ⟨fun pins s σ H R I h => ?_⟩
  refine Call_ (ld_blt I hg hm PyProof.Rows.boot_zip (PyProof.Rows.callWith_type1 (thn (ha.run pos pins s σ H _ I h) fun us s1 ⟨vs, H1, I1, r1, q1⟩ => ?_) hs hpl))
  obtain ⟨x, y, ex, q⟩ := q1
  subst ex
  cases r1 with
  | cons r rr =>
    cases rr with
    | cons r' rr =>
      cases rr
      obtain ⟨t, rfl⟩ := r
      obtain ⟨u, rfl⟩ := r'
      refine zip_begins2 (begins_text x t) (begins_text y u) trivial trivial fun h' hz hTI hTO h1 h2 hsz hk => wpAny_pyIter_zip hz ?_
      have I2 : Inv X pins σ H1 { s1 with heap := h' } := I1.kept (t' := s1.toks) hk
      have S : ZipSep2 (s1.heap.objs.size + 4) (s1.heap.objs.size + 2) (s1.heap.objs.size + 3) s1.heap.objs.size (s1.heap.objs.size + 1) [s1.heap.objs.size] [s1.heap.objs.size + 1] :=
        zip_sep2 (fp1 := []) (fp2 := []) (fun b hb => by cases hb) (fun b hb => by cases hb)
      refine ⟨s1.heap.objs.size + 4, [s1.heap.objs.size + 4, s1.heap.objs.size + 2, s1.heap.objs.size + 3, s1.heap.objs.size, s1.heap.objs.size + 1], _, _, H1, rfl, I2, turn_zipS S x y t u, ⟨hz, hTI, ⟨_, _, hTO⟩, ⟨_, h1, rfl, rfl⟩, ⟨_, h2, rfl, rfl⟩⟩, fun c hcm => ?_, q⟩
      have e' : c = s1.heap.objs.size + 4 ∨ c = s1.heap.objs.size + 2 ∨ c = s1.heap.objs.size + 3 ∨ c = s1.heap.objs.size ∨ c = s1.heap.objs.size + 1 := by simpa using hcm
      have hle : s1.heap.objs.size ≤ c := by
        rcases e' with z | z | z | z | z
        · rw [z]; exact Nat.le_add_right _ _
        · rw [z]; exact Nat.le_add_right _ _
        · rw [z]; exact Nat.le_add_right _ _
        · rw [z]; exact Nat.le_refl _
        · rw [z]; exact Nat.le_add_right _ _
      exact I1.fpOk hle (I1.hok.fresh hle)
theorem walk_zipS {x y : Str} {n : Nat} (hn : n = min x.cps.size y.cps.size) : Walk (Itzs x y) n (fun _ => True) (fun i H v H' => ∃ T c d, v = .ref T ∧ H T = none ∧ H' = upd H T (.tup [.str ⟨#[c]⟩, .str ⟨#[d]⟩]) ∧ x.cps[i]? = some c ∧ y.cps[i]? = some d) := by
  subst hn
  exact ⟨fun _ _ hi _ => ⟨by omega, by omega⟩, fun _ _ => ⟨⟨by omega, by omega⟩, by omega⟩, fun _ _ _ _ _ _ y => y⟩
end L2

namespace L2
open PySem PySem.Spec PyProof.Rows
/-! ### rules whose readings name the written part, over any context that has it (a comprehension's block too) -/
section
variable {X : Cx} {K : PySem.W.Frag}
theorem ix_listK (h : X.K = K := by rfl) : IxR X (rIxL K) := h ▸ ix_list
theorem ix_tupK (h : X.K = K := by rfl) : IxR X (rIxT K) := h ▸ ix_tup
theorem sl_listK (h : X.K = K := by rfl) : SlR X (rSlL K) := h ▸ sl_list
theorem sl_tupK (h : X.K = K := by rfl) : SlR X (rSlT K) := h ▸ sl_tup
theorem op_inK (h : X.K = K := by rfl) : OpR X (compareOp .In) (rIn K false) := h ▸ op_in_seq
theorem op_notInK (h : X.K = K := by rfl) : OpR X (compareOp .NotIn) (rIn K true) := h ▸ op_notIn_seq
theorem op_eqDK (hu : X.A.units + 64 < cLine) (h : X.K = K := by rfl) : OpR X (compareOp .Eq) (rEqD K) := h ▸ op_eqD hu
theorem op_neDK (hu : X.A.units + 64 < cLine) (h : X.K = K := by rfl) : OpR X (compareOp .NotEq) (rNeD K) := h ▸ op_neD hu
theorem op_ltDK (hu : X.A.units + 64 < cLine) (h : X.K = K := by rfl) : OpR X (compareOp .Lt) (rLtD K) := h ▸ op_ltD hu
/-- len of a list or tuple -/
def rLenK (K : PySem.W.Frag) : List V → Hp → VK → Prop := fun xs H Q => ∃ p ys, xs = [.ref p] ∧ (SqL K H p ys ∨ SqT K H p ys) ∧ Q (.int ys.length) H
theorem call_lenK (h : X.K = K := by rfl) : CallR X (.builtin "len") (rLenK K) := h ▸ call_len_seq
def rListK (K : PySem.W.Frag) : List V → Hp → VK → Prop := fun xs H Q => ∃ p ys, xs = [.ref p] ∧ (SqL K H p ys ∨ SqT K H p ys) ∧ ∀ l, H l = none → Q (.ref l) (upd H l (.lst ys))
theorem call_listK (h : X.K = K := by rfl) : CallR X (.type "list") (rListK K) := h ▸ call_list_of
theorem cr_allK (hc : X.calm = true) (h : X.K = K := by rfl) : CallR X (.builtin "all") (rAll K) := h ▸ cr_all hc
theorem cr_anyK (hc : X.calm = true) (h : X.K = K := by rfl) : CallR X (.builtin "any") (rAny K) := h ▸ cr_any hc
theorem cr_sumK (hc : X.calm = true) (h : X.K = K := by rfl) : CallR X (.builtin "sum") (rSum K) := h ▸ cr_sum hc
theorem call_isiK1 (h : X.K = K := by rfl) : CallR X (.builtin "isinstance") (rIsi K) := h ▸ call_isi
theorem call_isiTK (h : X.K = K := by rfl) : CallR X (.builtin "isinstance") (rIsiT K) := h ▸ call_isiT
/-- sep.join(texts) -/
def rJoinK (K : PySem.W.Frag) : V → List V → Hp → VK → Prop := fun x xs H Q => ∃ a p, ∃ ys : List Str, x = .str a ∧ xs = [.ref p] ∧ (SqL K H p (ys.map V.str) ∨ SqT K H p (ys.map V.str)) ∧ (ys.map (·.length)).sum + ys.length * a.length ≤ 16777216 ∧ Q (.str (Txt.join a ys)) H
theorem mt_joinK (h : X.K = K := by rfl) : MtR X "str.join" (rJoinK K) := h ▸ mt_join
end
end L2

namespace L2
open PySem PySem.Spec PyProof.Rows
/-! ### exceptions that a suite holds, and list(text) -/
section
variable {X : Cx}
/-- the exception at a, of the class cls, its own dict d: an instance of D -/
structure ExAt (K : PySem.W.Frag) (H : Hp) (cls : Value) (d : Option Addr) (D : Addr) : Prop where
  cls : cls = .ref D
  dict : d = none ∨ ∃ dd fs, d = some dd ∧ H dd = some (.xd fs)
  ok : ExcC K D
theorem ExAt.inst {pins : List (Addr × Obj)} {σ : St} {H : Hp} {s : Shared} {cls : Value} {d : Option Addr} {D a : Addr} {oe : Obj} (I : Inv X pins σ H s) (E : ExAt X.K H cls d D) (hz : Zc cls d oe) (hf : ∃ vs, oe.data = .fields vs) (ha : s.heap.get? a = some oe) : ∃ od, PySem.W.InstAt s.heap a oe D od := by
  obtain ⟨vs, hv⟩ := hf
  obtain ⟨oc, odd, oda, osl⟩ := oe
  obtain ⟨h1, h2⟩ := hz
  dsimp only at h1 h2 hv
  have e := E.cls
  subst e h1 h2 hv
  rcases E.dict with rfl | ⟨dd, fs, rfl, hd⟩
  · exact ⟨none, ha, rfl, rfl, trivial⟩
  · obtain ⟨mA, ⟨od, es, ep, e2, _⟩, _⟩ := (show ObjOk X.prog X.w H s.heap dd (.xd fs) from I.hok dd _ hd)
    exact ⟨some od, ha, rfl, rfl, e2⟩
theorem ExcC.kit {K : PySem.W.Frag} {D a : Addr} {oe : Obj} {od : Option Obj} (C : ExcC K D) : PySem.W.KitX K (.ref a) (.ref D) (fun h => PySem.W.InstAt h a oe D od) :=
  PySem.W.kitx_exc (by obtain ⟨cd, hc, _⟩ := PySem.W.any_some C.hd; rw [hc]; rfl) C.hg C.hk C.hs C.ha C.hn C.ht C.hm
/-- isinstance(e, c) -/
def rIsX (K : PySem.W.Frag) (a : Addr) (cls : Value) (d : Option Addr) : List V → Hp → VK → Prop := fun xs H Q => ∃ (D : Addr) (c : V) (cv : Value) (b : Bool), ExAt K H cls d D ∧ xs = [.ref a, c] ∧ ClsV c cv ∧ PySem.W.kitOne K (.ref D) cv = some b ∧ Q (.bl b) H
theorem call_isX {K : PySem.W.Frag} {a : Addr} {cls : Value} {d : Option Addr} {oe : Obj} {pn : List (Addr × Obj)} (hz : Zc cls d oe) (hf : ∃ vs, oe.data = .fields vs) (hK : X.K = K := by rfl) : CallR (X.suite a ((a, oe) :: pn)) (.builtin "isinstance") (rIsX K a cls d) := by
  subst hK
  intro pins s σ H xs us Q I r h
  obtain ⟨D, c, cv, b, E, rfl, hcv, e, q⟩ := h
  obtain ⟨u1, u2, rfl, rx, rt⟩ := vals2 r
  cases rx
  have ec := hcv.eq rt
  subst ec
  obtain ⟨hget, _⟩ := I.pin (a, oe) (List.mem_append.mpr (.inl List.mem_cons_self))
  obtain ⟨od, J⟩ := ExAt.inst (X := X.suite a ((a, oe) :: pn)) I E hz hf hget
  exact PySem.W.kia_one (E.ok.kit) I.kIn J e (fun z => nomatch z) fun tk => ⟨.bl b, H, I.kept (t' := tk) fun _ _ z => z, rfl, q⟩
/-- isinstance(e, (c, ..)) -/
def rIsXT (K : PySem.W.Frag) (a : Addr) (cls : Value) (d : Option Addr) : List V → Hp → VK → Prop := fun xs H Q => ∃ (D tp : Addr) (cs : List V) (us : List Value) (b : Bool), ExAt K H cls d D ∧ xs = [.ref a, .ref tp] ∧ H tp = some (.tup cs) ∧ Paired ClsV cs us ∧ PySem.W.kitAny K (.ref D) us = some b ∧ Q (.bl b) H
theorem call_isXT {K : PySem.W.Frag} {a : Addr} {cls : Value} {d : Option Addr} {oe : Obj} {pn : List (Addr × Obj)} (hz : Zc cls d oe) (hf : ∃ vs, oe.data = .fields vs) (hK : X.K = K := by rfl) : CallR (X.suite a ((a, oe) :: pn)) (.builtin "isinstance") (rIsXT K a cls d) := by
  subst hK
  intro pins s σ H xs us Q I r h
  obtain ⟨D, tp, cs, ws, b, E, rfl, hT, k, e, q⟩ := h
  obtain ⟨u1, u2, rfl, rx, rt⟩ := vals2 r
  cases rx
  cases (show u2 = Value.ref tp from rt)
  obtain ⟨hget, _⟩ := I.pin (a, oe) (List.mem_append.mpr (.inl List.mem_cons_self))
  obtain ⟨od, J⟩ := ExAt.inst (X := X.suite a ((a, oe) :: pn)) I E hz hf hget
  obtain ⟨_, its, rv, o, h1, h2, n, h3⟩ := (show ObjOk X.prog X.w H s.heap tp (.tup cs) from I.hok tp _ hT)
  have e3 := ClsV.all k rv
  subst e3
  obtain ⟨oc, od', dt, sl⟩ := o
  simp only at h2 h3
  subst h2 h3
  exact PySem.W.kia_tup (E.ok.kit) I.kIn J h1 e (fun z => nomatch z) fun tk => ⟨.bl b, H, I.kept (t' := tk) fun _ _ z => z, rfl, q⟩
/-- list(text) -/
def rListS (H : Hp) (z : Str) (Q : VK) : Prop := ∀ l, H l = none → Q (.ref l) (upd H l (.lst (z.cps.toList.map fun c => V.str ⟨#[c]⟩)))
theorem vals_signs : ∀ (l : List Nat) (us : List Value), us.length = l.length → (∀ (i : Nat) (v : Value), us[i]? = some v → ∃ c t, l[i]? = some c ∧ v = .str ⟨#[c]⟩ t) → Vals (l.map fun c => V.str ⟨#[c]⟩) us
  | [], [], _, _ => .nil
  | [], _ :: _, h, _ => by simp at h
  | _ :: _, [], h, _ => by simp at h
  | c :: l, u :: us, h, hv => by
    obtain ⟨c', t, e1, e2⟩ := hv 0 u rfl
    have : c = c' := by simpa using e1
    subst this
    exact .cons ⟨t, e2⟩ (vals_signs l us (by simpa using h) fun i v e => by simpa using hv (i + 1) v (by simpa using e))
theorem call_listS (hc : X.calm = true) : CallR X (.type "list") (fun xs H Q => ∃ z, xs = [.str z] ∧ z.length ≤ sizeLine ∧ rListS H z Q) := by
  intro pins s σ H xs us Q I r h
  obtain ⟨z, rfl, hz, q⟩ := h
  obtain ⟨u, rfl, t, rfl⟩ := vals1 r
  have hh : X.A.handled = none := I.ok.hd hc
  refine call_list_str hh z t (hn := hz) fun h' tk acc' c' hk hS hacc => ?_
  have rv : Vals (z.cps.toList.map fun c => V.str ⟨#[c]⟩) acc'.toList := vals_signs _ _ (by simpa using hacc.1) fun i v e => by
    obtain ⟨c, u, h1, h2⟩ := hacc.2 i v (by simpa using e)
    exact ⟨c, u, by simpa using h1, h2⟩
  refine ⟨.ref s.heap.objs.size, _, I.laid (t' := tk) hk (Nat.le_refl _) (show ObjOk X.prog X.w _ h' _ (.lst _) from ⟨by rw [List.length_map, Array.length_toList]; exact hz, acc'.toList, c', rv, by simpa using hS⟩), rfl, q _ (I.hok.fresh (Nat.le_refl _))⟩
end
end L2
namespace L2
open PySem PySem.Spec PyProof.Rows
/-! ### what the written part says of an own exception class -/
structure ExK (K : PySem.W.Frag) (mg : Str → Option Value) (x : Str) (C : Addr) (bm : List Value) (newId : String) : Prop where
  gC : mg x = some (.ref C)
  xC : PySem.W.excIn K C bm newId = true
  kC : PySem.W.keepIn K (.ref C) = true
  bC : PySem.W.subIn K (.ref C) (.type "BaseException") = some true
  tC : PySem.W.typeIn K (.ref C) = some (.type "type")
  iC : PySem.W.isClsIn K C = true
  sC : PySem.W.subIn K (.ref C) (.ref C) = some true
  ok : ExcC K C
theorem ExK.te {K : PySem.W.Frag} {mg : Str → Option Value} {x : Str} {C : Addr} {bm : List Value} {newId : String} (T : ExK K mg x C bm newId) : PySem.W.exmOne K (.ref C) (.ref C) = some true := by
  have e1 : (PySem.W.subIn K (.ref C) (.type "BaseException") == some true) = true := by rw [T.bC]; rfl
  have e2 : ((PySem.W.clsIn K C).isSome && PySem.W.typeIn K (.ref C) == some (.type "type")) = true := by
    have q : (PySem.W.clsIn K C).isSome = true := T.iC
    rw [q, T.tC]
    rfl
  show (if (PySem.W.subIn K (.ref C) (.type "BaseException") == some true) = true then (if ((PySem.W.clsIn K C).isSome && PySem.W.typeIn K (.ref C) == some (.type "type")) = true then PySem.W.subIn K (.ref C) (.ref C) else none) else none) = some true
  rw [if_pos e1, if_pos e2]
  exact T.sC
section
variable {X : Cx} {CX : CXT} {x : Str} {k : Nat} {f : Addr} {fd : FuncData} {ps : List Str} {sp : Sp} {dvs : List V} {ds : List Value} {E : St → XK} {e : Expr} {es : List Expr} {t : TA} {p pos : Pos}
/-- f(e, ..) in a try's body, defaults behind -/
def tCallSD (sp : Sp) (dvs : List V) (E : St → XK) (t : TA) : TE := fun σ H Q => t σ H fun vs H1 => sp (vs ++ dvs) H1 Q (E σ)
theorem pe_callSD (F : FnOk X.prog X.w X.K X.mg X.base CX k f fd ps sp) (hr : Room k X.A) (hg : Gl X x) (hm : X.mg x = some (.ref f)) (hk : PySem.W.keepIn X.K (.ref f) = true) (hb : Binds X.K fd ps ds) (hd : Vals dvs ds) (hx : ∀ σ, PassesAt CX X σ (E σ))
    (ha : PA X (e :: es) t) (hdb : (x == ("__debug__" : Str)) = false := by decide) (he : starEach (e :: es) X.env = (false, eval e X.env) :: starEach es X.env := by rfl) (hpl : (backTo pos (starEach es X.env)).any (·.1) = false := by rfl) :
    PE X (.Call (.Name x p) (e :: es) [] pos) (tCallSD sp dvs E t) := by
  refine ⟨fun pins s σ H Q I h => ?_⟩
  refine wpAny_Call_Name_kw (ld_glob I hg hm ?_ hdb)
  refine PySem.W.callWith_K (h₀ := X.base) I.ok.mod.kin hk (thn (ha.run pos pins s σ H _ I h) fun us s1 ⟨vs, H1, I1, r, q⟩ => ⟨I1.kIn, ?_⟩) he hpl
  have r2 : Vals (vs ++ dvs) (us ++ ds) := r.append hd
  have hl : (us ++ ds).length = ps.length := by rw [← r2.length]; exact F.len _ _ _ _ q
  refine wpAny_call (codeAny_mono (F.run X.A X.stack s1 H1 ⟨us, []⟩ (us ++ ds) (vs ++ dvs) Q (E σ) hr I1.env0 (hb s1 us I1.kIn hl) r2 q) fun r s' hq => ?_)
  cases r with
  | error er => exact hx σ pins H1 s1 er s' I1 hq
  | ok fl =>
    cases fl with
    | ret u => exact I1.after hq
    | next => exact False.elim hq
    | brk => exact False.elim hq
    | cont => exact False.elim hq
end
end L2

namespace PySem
namespace XB0
open PySem.W
open PySem.HandSPX (excO)
/-- of a built-in exception class B: how its own classes are made (by L's __new__) and begun -/
structure XB (B newId initId : String) (bm : List Value) : Prop where
  nw : ∃ (L iL : String) (bL : List Value), ExcBaseFacts L newId iL bL ∧ bm.contains (.type L) = true
  hasB : bm.contains (.type B) = true
  noA : bm.contains (.type "AttributeError") = false
  noN : bm.contains (.type "NameError") = false
  init : Slot B "__init__" initId
  iE : entryFor table initId = some Builtin.«BaseException.__init__»
  iS : splitId initId = some (B, "__init__")
  iK : builtinKind initId = some .slot
  iR : Manifest.signature? initId = some ⟨.positional, "*", B, .self, [⟨"args", .varPos, false⟩]⟩
  nS : (B != "*") = true
theorem XB.of {B ni ii : String} {bm : List Value} (F : ExcBaseFacts B ni ii bm) : XB B ni ii bm := ⟨⟨B, ii, bm, F, F.hasB⟩, F.hasB, F.noAttr, F.noName, F.init, F.initEntry, F.initSplit, F.initKind, F.initRow, F.noStar⟩
abbrev keTail : List Value := [.type "KeyError", .type "LookupError", .type "Exception", .type "BaseException", .type "object"]
theorem xb_KeyError : XB "KeyError" "LookupError.__new__" "KeyError.__init__" keTail where
  nw := ⟨"LookupError", _, _, F.excBase_LookupError, by decide +kernel⟩
  hasB := by decide +kernel
  noA := by decide +kernel
  noN := by decide +kernel
  init := .of (owner := "KeyError") (n := "__init__") (by rw [typeLookup_type, builtinLookup_eq_fast]; kernel_rfl) (by decide +kernel) (by decide +kernel) (by decide +kernel)
    (by first | exact .inl (by decide +kernel) | exact .inr (by decide +kernel)) (by rw [isSubtype_type]; kernel_rfl)
  iE := by kernel_rfl
  iS := by decide +kernel
  iK := by decide +kernel
  iR := by kernel_rfl
  nS := by decide +kernel
theorem st_KeyError : StoreFacts "KeyError" keTail "object.__setattr__" "object" where
  mro := by kernel_rfl
  slot := .of (owner := "object") (n := "__setattr__") (by rw [typeLookup_type, builtinLookup_eq_fast]; kernel_rfl) (by decide +kernel) (by decide +kernel) (by decide +kernel) (by first | exact .inl (by decide +kernel) | exact .inr (by decide +kernel)) (by rw [isSubtype_type]; kernel_rfl)
  entry := F.entry_object_sa
  kind := by decide +kernel
  split := by decide +kernel
  hasOwner := by decide +kernel
  args := fun x y z => by unfold argsOk; kernel_rfl
  passes := fun x => by kernel_rfl
section
variable {prog : Program} {w : World} {A : Around} {E : Value → Shared → Prop} {R : Result → Shared → Prop} {h : Heap} {g : Array GenState} {d : Drawn} {t : Nat} {os : OsState}
variable {nm q : Str} {C N : Addr} {bs bm bmB : List Value} {hdct : Bool} {sn : List Str} {sub : List Value} {ab : Bool} {col : Option Bool} {dd : Option Addr} {k0 k1 k2 k3 k5 : Option Value} {B ni ii : String}
theorem xb_checkNew (F : XB B ni ii bmB) (hT : ∀ X : String, bm.contains (.type X) = bmB.contains (.type X)) {us : List Value} {Q : Unit → Shared → Prop}
    (hC : h.get? C = some (excClassObj nm q C N bs bm hdct sn sub ab col dd k0 k1 k2 k3 k5 ni)) (z : Q () ⟨h, g, d, t, os⟩) : wpAny (model prog w) A (checkBuiltinCall ni ⟨.ref C :: us, []⟩) Q E ⟨h, g, d, t, os⟩ := by
  obtain ⟨L, iL, bL, G, hL⟩ := F.nw
  have c1 : (Value.ref C :: bm).contains (.type L) = true := by rw [List.contains_cons, hT, hL, Bool.or_true]
  have c2 := G.noStar
  simp only [checkBuiltinCall, G.newKind, G.newSplit, G.newRow]
  repeat (first | refine wpAny_loadPart_at hC ?_ | (refine wpAny_isSubtype_exc hC ?_; rw [c1]) | refine wpAny_staticBase_exc hC ?_ | refine wpAny_madeBy_exc hC ?_ | simp only [bne_self_eq_false, Bool.false_eq_true, if_false] | wp_step)
  exact z
theorem xb_new (F : XB B ni ii bmB) (hT : ∀ X : String, bm.contains (.type X) = bmB.contains (.type X)) {us : List Value}
    (hC : h.get? C = some (excClassObj nm q C N bs bm hdct sn sub ab col dd k0 k1 k2 k3 k5 ni))
    (z : R (.ok (.ret (.ref (h.objs.size + 1)))) ⟨(h.push (PySem.W.kdv_tup us)).push (excO C h.objs.size), g, d, t, os⟩) (hl : us.length ≤ sizeLine) :
    codeAny (model prog w) A (.builtin ni ⟨.ref C :: us, []⟩) R ⟨h, g, d, t, os⟩ := by
  obtain ⟨L, iL, bL, G, hL⟩ := F.nw
  have c0 := G.ends
  have c1 : (Value.ref C :: bm).contains (.type L) = true := by rw [List.contains_cons, hT, hL, Bool.or_true]
  have c2 : (Value.ref C :: bm).contains (.type "AttributeError") = false := by rw [List.contains_cons, hT, F.noA]; rfl
  have c3 : (Value.ref C :: bm).contains (.type "NameError") = false := by rw [List.contains_cons, hT, F.noN]; rfl
  refine codeAny_builtinAt G.entry ?_
  unfold Builtin.«BaseException.__new__»
  refine wpAt_bind ?_
  show wpAt _ _ _ (stack >>= _) _ _ _
  refine wpAt_bind (wpAt_stack fun p below => wpAt_of_wpAny ?_)
  wp_walk
  refine wpAt_of_wpAny ?_
  rw [G.owner]
  repeat (first | with_reducible refine wpAny_madeHere_exc G.canon hC ?_ | with_reducible refine wpAny_loadPart_at hC ?_ | (with_reducible refine wpAny_isSubtype_exc hC ?_; first | rw [c1] | rw [c2] | rw [c3]) | wp_step)
  show R _ _
  rw [Heap.size_push]
  exact z
theorem xb_checkInit (F : XB B ni ii bmB) (hT : ∀ X : String, bm.contains (.type X) = bmB.contains (.type X)) {e : Addr} {oe : Obj} {us : List Value} {Q : Unit → Shared → Prop}
    (hC : h.get? C = some (excClassObj nm q C N bs bm hdct sn sub ab col dd k0 k1 k2 k3 k5 ni)) (he : h.get? e = some oe) (hc : oe.cls = .ref C) (z : Q () ⟨h, g, d, t, os⟩) :
    wpAny (model prog w) A (checkBuiltinCall ii ⟨.ref e :: us, []⟩) Q E ⟨h, g, d, t, os⟩ := by
  have c1 : (Value.ref C :: bm).contains (.type B) = true := by rw [List.contains_cons, hT, F.hasB, Bool.or_true]
  have c2 := F.nS
  simp only [checkBuiltinCall, F.iK, F.iS, F.iR]
  repeat (first | (with_reducible refine wpAny_loadPart_at he ?_; rw [hc]) | with_reducible refine wpAny_loadPart_at hC ?_ | (with_reducible refine wpAny_isSubtype_exc hC ?_; rw [c1]) | wp_step)
  refine wpAny_onRaise ?_
  rw [show ∀ (x y : String) (n : Nat), Bind.check ⟨.positional, "*", B, .self, [⟨"args", .varPos, false⟩]⟩ x y n (List.map (fun v => v.fst) ({ pos := Value.ref e :: us } : Args).kw) = pure () from
    fun x y n => check_star_args _ _ _ _ _ _]
  exact wpAny_pure z
theorem xb_init (F : XB B ni ii bmB) (hT : ∀ X : String, bm.contains (.type X) = bmB.contains (.type X)) {e t0 : Addr} {us : List Value}
    (hC : h.get? C = some (excClassObj nm q C N bs bm hdct sn sub ab col dd k0 k1 k2 k3 k5 ni)) (he : h.get? e = some (excO C t0)) (hl : us.length ≤ sizeLine)
    (z : ∀ h' t1, (∀ b o, b ≠ e → h.get? b = some o → h'.get? b = some o) → h'.get? e = some (excO C t1) → R (.ok (.ret .none)) ⟨h', g, d, t, os⟩) :
    codeAny (model prog w) A (.call (.builtin ii) ⟨.ref e :: us, []⟩) R ⟨h, g, d, t, os⟩ := by
  refine codeAny_call_builtin F.init.plain F.iE (xb_checkInit F hT hC he rfl ?_)
  wp_walk
  refine z _ h.objs.size (fun x o hx ho => ?_) ?_
  · rw [Heap.get?_update_other _ _ (Ne.symm hx)]
    exact Heap.get?_push_of_some _ ho
  · rw [Heap.get?_update_self _ (Heap.get?_push_of_some _ he) rfl]
    rfl
theorem xb_typeCall (F : XB B ni ii bmB) (hT : ∀ X : String, bm.contains (.type X) = bmB.contains (.type X)) {us : List Value} {fI : Addr} {Q : Fin → Shared → Prop}
    (hC : h.get? C = some (excClassObj nm q C N bs bm hdct sn sub ab col dd k0 k1 k2 k3 k5 ni))
    (hi : W.Looks (model prog w) h (typeLookup (.ref C) "__init__") (some (.ref fI))) (hb : ∀ x, W.Looks (model prog w) h (bindSpecial (.ref fI) x) (.ref fI, [x])) (hl : us.length ≤ sizeLine)
    (z : codeAny (model prog w) A (.call (.ref fI) ⟨.ref (h.objs.size + 1) :: us, []⟩)
      (fun r s' => match r with | .ok (.ret v) => v = .none ∧ Q (.done (.ret (.ref (h.objs.size + 1)))) s' | .ok _ => False | .error e => E e s')
      ⟨(h.push (PySem.W.kdv_tup us)).push (excO C h.objs.size), g, d, t, os⟩) :
    wpAny (model prog w) A (Builtin.«type.__call__» ⟨.ref C :: us, []⟩) Q E ⟨h, g, d, t, os⟩ := by
  obtain ⟨L, iL, bL, G, hL⟩ := F.nw
  repeat (first | with_reducible refine wpAny_loadPart_at hC ?_ | with_reducible refine wpAny_madeBy_exc hC ?_ | wp_step)
  refine codeAny_call_builtin_code (Code.quiet_builtin _ G.quiet) (xb_checkNew F hT hC ?_)
  refine xb_new F hT hC ?_ hl
  show wpAny _ _ _ _ _ _
  have k : ∀ b o, h.get? b = some o → ((h.push (PySem.W.kdv_tup us)).push (excO C h.objs.size)).get? b = some o := fun b o e => Heap.get?_push_of_some _ (Heap.get?_push_of_some _ e)
  have c1 := k _ _ hC
  have c2 : ((h.push (PySem.W.kdv_tup us)).push (excO C h.objs.size)).get? (h.objs.size + 1) = some (excO C h.objs.size) := by heap_get
  have c3 : (Value.ref C :: bm).contains (.ref C) = true := by simp
  have i1 := hi.keeps k
  have b1 := (hb (.ref (h.objs.size + 1))).keeps k
  unfold isInstance
  repeat (first | with_reducible refine wpAny_loadPart_at c2 ?_ | (with_reducible refine wpAny_isSubtype_exc c1 ?_; rw [c3]) | wp_step)
  show wpAny _ _ (typeLookup (.ref C) _) _ _ _
  refine i1.at ?_
  refine wpAny_holding (wpAny_bind (b1.at ?_))
  refine wpAny_bind (wpAny_call (codeAny_mono z fun r s' y => ?_))
  rcases r with e | (v | _ | _ | _) <;> first | exact y | exact y.elim | skip
  obtain ⟨rfl, y⟩ := y
  first
    | exact wpAny_pure (wpAny_pure y)
    | (wp_walk; exact y)
theorem xb_call (F : XB B ni ii bmB) (hT : ∀ X : String, bm.contains (.type X) = bmB.contains (.type X)) {us : List Value} {fI : Addr}
    (hC : h.get? C = some (excClassObj nm q C N bs bm hdct sn sub ab col dd k0 k1 k2 k3 k5 ni))
    (hi : W.Looks (model prog w) h (typeLookup (.ref C) "__init__") (some (.ref fI))) (hb : ∀ x, W.Looks (model prog w) h (bindSpecial (.ref fI) x) (.ref fI, [x])) (hl : us.length ≤ sizeLine)
    (z : codeAny (model prog w) (A.under (.builtin "type.__call__" ⟨.ref C :: us, []⟩)) (.call (.ref fI) ⟨.ref (h.objs.size + 1) :: us, []⟩) (W.InitBack (h.objs.size + 1) R)
      ⟨(h.push (PySem.W.kdv_tup us)).push (excO C h.objs.size), g, d, t, os⟩) :
    codeAny (model prog w) A (.call (.ref C) ⟨us, []⟩) R ⟨h, g, d, t, os⟩ := by
  have f1 := tc_lookup
  have f2 := tc_bind (.ref C)
  have f3 : (⟨h, g, d, t, os⟩ : Shared).TypeIs (.ref C) "type" := ⟨_, hC, rfl⟩
  refine codeAny_of_tree ?_
  show wpAny _ _ (callAny (.ref C) _) _ _ _
  repeat (any_goals (first | assumption | with_reducible refine wpAny_loadPart_at hC ?_ | wp_step))
  refine ⟨rfl, ?_⟩
  refine codeAny_call_builtin_at (Code.quiet_builtin _ (by decide +kernel)) entry_typeCall (wpAny_check_type_call_sub hC (xb_typeCall F hT hC hi hb hl ?_))
  refine codeAny_mono z fun r s' y => ?_
  rcases r with e | (v | _ | _ | _) <;> exact y
end
end XB0
end PySem
namespace L2
open PySem PySem.Spec PyProof.Rows
/-! ### own exceptions with fields over any built-in base -/
/-- what is asked of such a class C over the built-in class B -/
structure XiC (K : PySem.W.Frag) (C : Addr) (B newId initId : String) (bmB : List Value) : Prop where
  fb : PySem.XB0.XB B newId initId bmB
  sf : StoreFacts B bmB "object.__setattr__" "object"
  made : PySem.W.excInitIn K C bmB newId = true
  ov : PySem.W.excOver K C bmB = true
  hd : PySem.W.hasDictIn K C = true
  sa : PySem.W.findIn K (.ref C) "__setattr__" = some (some (.builtin "object.__setattr__"))
  bC : PySem.W.subIn K (.ref C) (.type "BaseException") = some true
  tC : PySem.W.typeIn K (.ref C) = some (.type "type")
  kC : PySem.W.keepIn K (.ref C) = true
section
variable {X : Cx} {pins : List (Addr × Obj)} {σ : St} {H : Hp} {s : Shared} {a C dx : Addr} {f : Str} {y : V} {u : Value} {fs : List (Str × V)} {Q : Unit → Shared → Prop} {E : Value → Shared → Prop} {A : Around} {B ni ii : String} {bm : List Value}
/-- e.f = y, the first field: the exception's dict is made -/
theorem xi_first (T : XiC X.K C B ni ii bm) (I : Inv X pins σ H s) (he : H a = some (exo a C none)) (ht : PySem.W.takerIn X.K C f = some none) (ry : RelV y u)
    (k : ∀ dx s', H dx = none → dx ≠ a → Inv X pins σ (upd (upd (upd H dx (exd dx [])) a (exo a C (some dx))) dx (exd dx [(f, y)])) s' → Q () s') : wpAny (model X.prog X.w) A (setAttr (.ref a) f u) Q E s := by
  obtain ⟨t1, ho⟩ := exo_at I.hok he
  obtain ⟨hp, g, dr, t, os⟩ := s
  obtain ⟨cd, hc, hdct⟩ := PySem.W.any_some T.hd
  have lt : a < hp.objs.size := Heap.lt_size ho
  refine PySem.W.set_plain I.kIn (od := none) ⟨ho, rfl, rfl, trivial⟩ T.sa ?_
  refine PySem.W.osa_openX (od := none) T.sf I.kIn ⟨ho, rfl, rfl, trivial⟩ T.ov ht fun b => ?_
  refine wpAny_bind (wpAny_pure (wpAny_bind (PySem.W.instanceDict_exc ho (PySem.W.looks_clsIn I.kIn hc) hdct ?_)))
  show wpAny _ _ (Builtin.ObjectAttr.storeInDict hp.objs.size _ f u) _ _ _
  have gd : (hp.push (PySem.W.dictOf [] 0)).get? hp.objs.size = some (PySem.W.dictOf [] 0) := Heap.get?_push_size _ rfl
  have ns0 : (hp.push (PySem.W.dictOf [] 0)).Ns1 hp.objs.size (fun _ => none) := Heap.Ns1.of_empty ⟨_, #[], _, gd, rfl, fun e he => absurd he (by simp), fun _ => rfl⟩
  have J1 := I.laid (a := hp.objs.size) (o := exd hp.objs.size []) (h' := hp.push (PySem.W.dictOf [] 0)) (t' := t) (fun _ _ q => Heap.get?_push_of_some _ q) (Nat.le_refl _) (exd_ok ns0 fun _ => True.intro)
  have fr : H hp.objs.size = none := I.hok.fresh (Nat.le_refl _)
  have na : hp.objs.size ≠ a := Nat.ne_of_gt lt
  have gx := Heap.get?_update_self (fun o : Obj => { o with dict := some hp.objs.size }) (Heap.get?_push_of_some (PySem.W.dictOf [] 0) ho) rfl
  have J2 := J1.write (x := a) (e := a) (o := exo a C (some hp.objs.size)) (h' := (hp.push (PySem.W.dictOf [] 0)).update a fun o => { o with dict := some hp.objs.size }) (t' := t)
    (by rw [upd_ne na.symm, he]; exact True.intro) (.inl rfl) (fun b o hb q => (Heap.get?_update_ne _ _ _ _ hb).trans q) ⟨_, gx⟩ (exo_ok gx)
  have ns1 : ((hp.push (PySem.W.dictOf [] 0)).update a fun o => { o with dict := some hp.objs.size }).Ns1 hp.objs.size (fun _ => none) :=
    Heap.Ns1.of_empty ⟨_, #[], _, (Heap.get?_update_ne _ _ _ _ na).trans gd, rfl, fun e he => absurd he (by simp), fun _ => rfl⟩
  refine PySem.OEX.store_in_old (ns := []) ns1 Within.nil (by decide) fun h' tk' hn' sb => ?_
  have ex : ∃ o, h'.get? hp.objs.size = some o := by
    obtain ⟨o, _, _, q, _⟩ := hn'
    exact ⟨o, q⟩
  exact k hp.objs.size _ fr na (J2.write (x := hp.objs.size) (e := hp.objs.size) (o := exd hp.objs.size [(f, y)]) (h' := h') (t' := tk')
    (by rw [upd_ne na, upd_same]; exact True.intro) (.inl rfl) (fun b o hb q => (sb.2 b hb).trans q) ex (exd_ok hn' (relO_put (fs := []) ry fun _ => True.intro)))
/-- e.f = y, a later field -/
theorem xi_later (T : XiC X.K C B ni ii bm) (I : Inv X pins σ H s) (he : H a = some (exo a C (some dx))) (hd : H dx = some (exd dx fs)) (hl : fs.length ≤ 900) (ht : PySem.W.takerIn X.K C f = some none) (ry : RelV y u)
    (k : ∀ s', Inv X pins σ (upd H dx (exd dx ((f, y) :: fs))) s' → Q () s') : wpAny (model X.prog X.w) A (setAttr (.ref a) f u) Q E s := by
  obtain ⟨t1, ho⟩ := exo_at I.hok he
  obtain ⟨mA, ns1, rel⟩ := exd_at I.hok hd
  have wi := within_of rel
  obtain ⟨hp, g, dr, t, os⟩ := s
  obtain ⟨cd, hc, hdct⟩ := PySem.W.any_some T.hd
  obtain ⟨oD, _, _, gD, _, _⟩ := ns1.count wi
  refine PySem.W.set_plain I.kIn (od := some oD) ⟨ho, rfl, rfl, gD⟩ T.sa ?_
  refine PySem.W.osa_openX (od := some oD) T.sf I.kIn ⟨ho, rfl, rfl, gD⟩ T.ov ht fun b => ?_
  refine wpAny_bind (wpAny_pure (wpAny_bind (wpAny_bind (wpAny_loadPart ho (wpAny_bind ((PySem.W.looks_clsIn I.kIn hc).at ?_))))))
  rw [hdct]
  refine wpAny_pure (a := some dx) ?_
  refine PySem.OEX.store_in_old ns1 wi (by rw [List.length_map]; omega) fun h' tk' hn' sb => ?_
  have ex : ∃ o, h'.get? dx = some o := by
    obtain ⟨o, _, _, q, _⟩ := hn'
    exact ⟨o, q⟩
  exact k _ (I.write (x := dx) (e := dx) (o := exd dx ((f, y) :: fs)) (h' := h') (t' := tk') (by rw [hd]; exact True.intro) (.inl rfl) (fun b o hb q => (sb.2 b hb).trans q) ex (exd_ok hn' (relO_put ry rel)))
/-- B.__init__(e, ..): nothing of it is told -/
theorem xi_base {us : List Value} {P : Value → Shared → Prop} (T : XiC X.K C B ni ii bm) (I : Inv X pins σ H s) (he : H a = some (exo a C none)) (hl : us.length ≤ sizeLine) (k : ∀ s', Inv X pins σ H s' → P .none s') :
    wpAny (model X.prog X.w) A (call (.builtin ii) (.ref a :: us)) P E s := by
  obtain ⟨nm, N, q, bs, bm', hdct, sn, sub, ab, col, dd, k0, k1, k2, k3, k5, hC, hT⟩ := PySem.W.excInit_of I.kIn T.made
  obtain ⟨t1, ho⟩ := exo_at I.hok he
  obtain ⟨hp, g, d, t, os⟩ := s
  refine wpAny_call (PySem.XB0.xb_init T.fb hT hC ho hl fun h' t2 kp hx => ?_)
  have J := I.write (t' := t) (x := a) (e := a) (o := exo a C none) (by rw [he]; exact True.intro) (.inl rfl) kp ⟨_, hx⟩ (exo_ok hx)
  have same : upd H a (exo a C none) = H := funext fun b => by
    by_cases hb : b = a
    · subst hb; rw [upd_same, he]
    · exact upd_ne hb
  rw [same] at J
  exact k _ J
end
/-- B.__init__(self, ..) -/
def tXi (K : PySem.W.Frag) (B ni ii : String) (bm : List Value) (ta : TA) : TE := fun σ H Q => ta σ H fun vs H1 => ∃ (a C : Addr) (ws : List V), vs = .ref a :: ws ∧ ws.length ≤ 1000 ∧ XiC K C B ni ii bm ∧ H1 a = some (exo a C none) ∧ Q .non H1
/-- self.f = e -/
def tXs (K : PySem.W.Frag) (B ni ii : String) (bm : List Value) (f : Str) (to te : TE) : TS := fun D σ H => te σ H fun y H1 => to σ H1 fun x H2 => ∃ a C : Addr, x = .ref a ∧ XiC K C B ni ii bm ∧ PySem.W.takerIn K C f = some none ∧
  ((H2 a = some (exo a C none) ∧ ∀ dx, H2 dx = none → dx ≠ a → D.nx σ (upd (upd (upd H2 dx (exd dx [])) a (exo a C (some dx))) dx (exd dx [(f, y)]))) ∨
    ∃ (dx : Addr) (fs : List (Str × V)), H2 a = some (exo a C (some dx)) ∧ H2 dx = some (exd dx fs) ∧ fs.length ≤ 900 ∧ D.nx σ (upd H2 dx (exd dx ((f, y) :: fs))))
section
variable {X : Cx} {o e : Expr} {es : List Expr} {to te : TE} {ta : TA} {f : Str} {p p' p1 p2 pos : Pos} {B ni ii : String} {bm : List Value}
theorem pe_xi {x : Str} {pl : Sem Bool} (hg : Gl X x) (hm : X.mg x = none) (hv : bootBuiltins x = some (.type B)) (hn : x ≠ "__name__") (hdb : (x == ("__debug__" : Str)) = false) (ty : typeOf (.type B) = pure (.type "type")) (vV : PySem.W.findCls X.K (.type B) (.type "type") "__init__" = some (.val (.builtin ii))) (ha : PA X (e :: es) ta)
    (stub : Manifest.isStub B = false := by decide +kernel) (hnd : PySem.W.handedIn (.builtin ii) = true := by decide +kernel)
    (hc : eval (.Call (.Attribute (.Name x p1) "__init__" p2) (e :: es) [] pos) X.env = (do
      let ov ← eval (.Name x p1) X.env
      standAt p2.atName
      let (f, first) ← holding [ov] (getMethod ov "__init__" pl)
      callWith pos f first (backTo pos (starEach (e :: es) X.env)) (backToKw pos (keywordEach [] X.env))) := by rfl)
    (he : starEach (e :: es) X.env = (false, eval e X.env) :: starEach es X.env := by rfl) (hpl : (backTo pos (starEach es X.env)).any (·.1) = false := by rfl) :
    PE X (.Call (.Attribute (.Name x p1) "__init__" p2) (e :: es) [] pos) (tXi X.K B ni ii bm ta) := by
  refine ⟨fun pins s σ H Q I h => ?_⟩
  refine PySem.W.methodCall_KW (ld_blt I hg hm hv ?_ hn hdb) hc
  obtain ⟨m, fr⟩ := I.fr
  refine PySem.W.method_type fr I.ok.mod.kin ty stub vV hnd ?_
  show wpAny _ _ (callWith pos (Value.builtin ii) [] (backTo pos (starEach (e :: es) X.env)) []) _ _ _
  refine PyProof.Rows.callWith_method1 (thn (ha.run pos pins _ σ H _ (I.tok _) h) fun us s1 z => ?_) he hpl
  obtain ⟨vs, H1, J, r, a, C, ws, rfl, hl, T, ea, q⟩ := z
  cases r with
  | @cons _ u0 _ ur ra rw' =>
    cases (show u0 = Value.ref a from ra)
    exact xi_base T J ea (by rw [← Paired.length rw', sizeLine_eq]; omega) fun s' J' => ⟨.non, H1, J', rfl, q⟩
theorem ps_xs (ho : PE X o to) (he : PE X e te) (hs : swapsWith e (some (.Attribute o f p')) pos.line X.env = pure false := by rfl) : PS X (.Assign [.Attribute o f p'] e pos) (tXs X.K B ni ii bm f to te) := by
  refine ⟨fun pins s σ H D I h => plainObj_wpAny_Assign_Attribute (thn (he.run pins s σ H _ I h) fun v s1 z1 => ?_) hs⟩
  obtain ⟨y, H1, J1, ry, q1⟩ := z1
  refine thn (ho.run pins s1 σ H1 _ J1 q1) fun u s2 z2 => ?_
  obtain ⟨x, H2, J2, rx, a, C, rfl, T, ht, q⟩ := z2
  cases (show u = Value.ref a from rx)
  rcases q with ⟨ea, q⟩ | ⟨dx, fs, ea, ed, hl, q⟩
  · exact xi_first T J2 ea ht ry fun dx s' n ne J => ⟨σ, _, J, q dx n ne⟩
  · exact xi_later T J2 ea ed hl ht ry fun s' J => ⟨σ, _, J, q⟩
/-- C(e, ..), C's own __init__ keeping sp -/
theorem pmk_xi {CX : CXT} {x : Str} {C fI : Addr} {k : Nat} {fd : FuncData} {ps : List Str} {sp : Sp} {ds : List Value} {dvs : List V} (T : XiC X.K C B ni ii bm) (iC : PySem.W.findIn X.K (.ref C) "__init__" = some (some (.ref fI))) (tI : PySem.W.typeIn X.K (.ref fI) = some (.type "function"))
    (F1 : FnOk X.prog X.w X.K X.mg X.base CX k fI fd ps sp) (hr : Room (k + 1) X.A) (hb : Binds X.K fd ps ds) (hd : Vals dvs ds) (hx : Passes CX X (fun _ _ _ => False)) (hg : Gl X x) (hm : X.mg x = some (.ref C)) (ha : PA X (e :: es) ta)
    (hdb : (x == ("__debug__" : Str)) = false := by decide) (he : starEach (e :: es) X.env = (false, eval e X.env) :: starEach es X.env := by rfl) (hpl : (backTo pos (starEach es X.env)).any (·.1) = false := by rfl) :
    PMk X (.Call (.Name x p) (e :: es) [] pos) (tMkO C sp dvs ta) := by
  intro pins s σ H Q I h
  refine wpAny_Call_Name_kw (ld_glob I hg hm ?_ hdb)
  refine PySem.W.callWith_K (h₀ := X.base) I.ok.mod.kin T.kC (thn (ha.run pos pins s σ H _ I h) fun us s1 z => ?_) he hpl
  obtain ⟨vs, H1, J, r, hz, q⟩ := z
  refine ⟨J.kIn, ?_⟩
  show wpAny _ _ (call (.ref C) us) _ _ _
  obtain ⟨nm, N, qn, bs, bm', hdct, sn, sub, ab, col, dd, k0, k1, k2, k3, k5, hC, hT⟩ := PySem.W.excInit_of J.kIn T.made
  obtain ⟨hp, g, dr, tk, os⟩ := s1
  have n1 : hp.objs.size ≤ hp.objs.size + 1 := Nat.le_succ _
  have Z := q (hp.objs.size + 1) (J.hok.fresh n1)
  have kp : ∀ b o, hp.get? b = some o → ((hp.push (PySem.W.kdv_tup us)).push (PySem.HandSPX.excO C hp.objs.size)).get? b = some o := fun _ _ z => Heap.get?_push_of_some _ (Heap.get?_push_of_some _ z)
  have gt : ((hp.push (PySem.W.kdv_tup us)).push (PySem.HandSPX.excO C hp.objs.size)).get? (hp.objs.size + 1) = some (PySem.HandSPX.excO C hp.objs.size) := by heap_get
  have J2 := J.laid (t' := tk) (a := hp.objs.size + 1) (o := exo (hp.objs.size + 1) C none) (h' := (hp.push (PySem.W.kdv_tup us)).push (PySem.HandSPX.excO C hp.objs.size)) kp n1 (exo_ok gt)
  have r2 : Vals (V.ref (hp.objs.size + 1) :: (vs ++ dvs)) (Value.ref (hp.objs.size + 1) :: (us ++ ds)) := .cons rfl (r.append hd)
  have zl : (Value.ref (hp.objs.size + 1) :: us ++ ds).length = ps.length := (r2.length.symm.trans (F1.len _ _ _ _ Z)).symm ▸ rfl
  refine wpAny_call (PySem.XB0.xb_call T.fb hT hC (PySem.W.looks_findIn J.kIn iC) (fun self => PySem.W.bind_fn J.kIn self tI) (by rw [← Paired.length r, sizeLine_eq]; omega)
    (codeAny_mono (F1.run _ X.stack _ _ ⟨Value.ref (hp.objs.size + 1) :: us, []⟩ (Value.ref (hp.objs.size + 1) :: (us ++ ds)) _ _ (fun _ _ _ => False) (hr.make C us []) (J2.env0.make C us []) (hb _ (Value.ref (hp.objs.size + 1) :: us) J2.kIn zl) r2 Z) fun rs s' z => ?_))
  cases rs with
  | error er => exact hx pins σ _ _ er s' J2 z
  | ok fl =>
    cases fl with
    | ret u =>
      obtain ⟨v, H2, os2, bare2, un2, hok2, rv, ev, d, fs, ea, ed, hd1, q2⟩ := z
      subst ev
      obtain ⟨h2, g2, d2, t2, os'⟩ := s'
      exact ⟨rv, mk_end (raises_own T.bC T.tC) J n1 kp un2 hok2 os2 bare2 ea ed hd1 q2⟩
    | _ => exact False.elim z
end
end L2
namespace L2
open PySem PySem.Spec PyProof.Rows
/-! ### what the written part says of such a class -/
structure ExF (K : PySem.W.Frag) (mg : Str → Option Value) (x : Str) (C : Addr) (B ni ii : String) (bm : List Value) : Prop where
  gC : mg x = some (.ref C)
  xi : XiC K C B ni ii bm
  iC : PySem.W.isClsIn K C = true
  sC : PySem.W.subIn K (.ref C) (.ref C) = some true
  ok : ExcC K C
  xf : XfC K C
section
variable {K : PySem.W.Frag} {mg : Str → Option Value} {x : Str} {C D : Addr} {B ni ii : String} {bm : List Value} {b : Bool} {T : String} {f : Str}
theorem ExF.tC (E : ExF K mg x C B ni ii bm) : PySem.W.typeIn K (.ref C) = some (.type "type") := E.xi.tC
theorem ExF.bC (E : ExF K mg x C B ni ii bm) : PySem.W.subIn K (.ref C) (.type "BaseException") = some true := E.xi.bC
/-- which clause takes an exception -/
theorem exm_of (s : PySem.W.subIn K (.ref C) (.ref D) = some b) (bD : PySem.W.subIn K (.ref D) (.type "BaseException") = some true) (iD : PySem.W.isClsIn K D = true) (tD : PySem.W.typeIn K (.ref D) = some (.type "type")) : PySem.W.exmOne K (.ref C) (.ref D) = some b := by
  have q : (PySem.W.clsIn K D).isSome = true := iD
  show (if (PySem.W.subIn K (.ref D) (.type "BaseException") == some true) = true then (if ((PySem.W.clsIn K D).isSome && PySem.W.typeIn K (.ref D) == some (.type "type")) = true then PySem.W.subIn K (.ref C) (.ref D) else none) else none) = some b
  rw [if_pos (by rw [bD]; rfl), if_pos (by rw [q, tD]; rfl), s]
theorem ExF.te (E : ExF K mg x C B ni ii bm) : PySem.W.exmOne K (.ref C) (.ref C) = some true := exm_of E.sC E.bC E.iC E.tC
theorem kit_exT (s : PySem.W.subIn K (.ref C) (.type T) = some b) (m : PySem.W.kitMeta T = true := by decide +kernel) : PySem.W.kitOne K (.ref C) (.type T) = some b := by
  have n : (Value.ref C == Value.type T) = false := by
    apply beq_eq_false_iff_ne.mpr
    intro z
    cases z
  show (if (Value.ref C == Value.type T) = true then some true else if PySem.W.kitMeta T = true then PySem.W.subIn K (.ref C) (.type T) else none) = some b
  rw [n, if_neg (by decide), if_pos m, s]
theorem kit_exC (s : PySem.W.subIn K (.ref C) (.ref D) = some b) (iD : PySem.W.isClsIn K D = true) (tD : PySem.W.typeIn K (.ref D) = some (.type "type")) (sD : PySem.W.subIn K (.ref D) (.ref D) = some true) : PySem.W.kitOne K (.ref C) (.ref D) = some b := by
  have q : (PySem.W.clsIn K D).isSome = true := iD
  show (if (Value.ref C == Value.ref D) = true then some true else if ((PySem.W.clsIn K D).isSome && PySem.W.typeIn K (.ref D) == some (.type "type")) = true then PySem.W.subIn K (.ref C) (.ref D) else none) = some b
  by_cases e : C = D
  · subst e
    rw [if_pos (by simp)]
    exact sD.symm.trans s
  · rw [if_neg (by simpa using e), if_pos (by rw [q, tD]; rfl), s]
theorem taker_none (h : PySem.W.findIn K (.ref C) f = some none) : PySem.W.takerIn K C f = some none := by
  unfold PySem.W.takerIn
  rw [h]
  rfl
end
/-- what such a class's heap is behind its __init__, once the exception is let go -/
theorem fresh_xd {H : Hp} {a d : Addr} {C : Addr} {fs gs : List (Str × V)} (ha : H a = none) (n : d ≠ a) :
    upd (del (upd (upd (upd (upd H a (exo a C none)) d (exd d gs)) a (exo a C (some d))) d (exd d fs)) a) d (.xd fs) = upd H d (.xd fs) := funext fun b => by
  by_cases h : b = d
  · subst h; rw [upd_same, upd_same]
  · rw [upd_ne h, upd_ne h]
    by_cases h2 : b = a
    · subst h2; rw [del_same, ha]
    · rw [del_ne h2, upd_ne h, upd_ne h2, upd_ne h, upd_ne h2]
end L2

namespace L2
open PySem PySem.Spec PyProof.Rows
/-! ### several except clauses, each with a name or none -/
abbrev Hd := Value × Option Nat × (Addr → Value → Option Addr → TS)
/-- the ends of a suite whose name, slot i, is taken away behind it -/
def outOf (i : Nat) (D : Ends) : Ends := { nx := fun τ G => D.nx (τ.set i none) G, rt := D.rt, bk := fun τ G => D.bk (τ.set i none) G, ct := fun τ G => D.ct (τ.set i none) G }
/-- what the clauses wish of an exception of the body -/
def wLs (K : PySem.W.Frag) (Wout : WX) (D : Ends) : List Hd → WX
  | [] => Wout
  | (c, none, ts) :: r => fun cls d σ H => ∃ b, PySem.W.exmOne K cls c = some b ∧ (b = true → ∀ e, H e = none → ts e cls d D σ H) ∧ (b = false → wLs K Wout D r cls d σ H)
  | (c, some i, ts) :: r => fun cls d σ H => ∃ b, PySem.W.exmOne K cls c = some b ∧ (b = true → ∀ e, H e = none → ts e cls d (outOf i D) (σ.set i (some (.ref e))) H) ∧ (b = false → wLs K Wout D r cls d σ H)
/-- the readings of the clauses -/
inductive HdLs (X : Cx) : List ExceptHandler → List Hd → Prop
  | nil : HdLs X [] []
  | bare {x : Str} {c : Value} {ts : Addr → Value → Option Addr → TS} {st : Stmt} {suite : List Stmt} {np q : Pos} {hds : List ExceptHandler} {l : List Hd} (hc : Names X x c)
      (hs : ∀ (e : Addr) (oe : Obj) (cls : Value) (d : Option Addr) (pn : List (Addr × Obj)), Zc cls d oe → (∃ vs, oe.data = .fields vs) → PSs (X.suite e ((e, oe) :: pn)) (st :: suite) (ts e cls d)) (r : HdLs X hds l) :
      HdLs X (.ExceptHandler (some (.Name x np)) none (st :: suite) q :: hds) ((c, none, ts) :: l)
  | named {x n : Str} {i : Nat} {c : Value} {ts : Addr → Value → Option Addr → TS} {st : Stmt} {suite : List Stmt} {np q : Pos} {hds : List ExceptHandler} {l : List Hd} (hi : X.N[i]? = some n) (hn : X.env.kindOf n = some .local) (hc : Names X x c)
      (hs : ∀ (e : Addr) (oe : Obj) (cls : Value) (d : Option Addr) (pn : List (Addr × Obj)), Zc cls d oe → (∃ vs, oe.data = .fields vs) → PSs (X.suite e ((e, oe) :: pn)) (st :: suite) (ts e cls d)) (r : HdLs X hds l) :
      HdLs X (.ExceptHandler (some (.Name x np)) (some n) (st :: suite) q :: hds) ((c, some i, ts) :: l)
section
variable {X : Cx} {body : List Stmt} {h1 : ExceptHandler} {hds : List ExceptHandler} {l : List Hd} {pos : Pos} {tb : WX → TS} {Wout : WX}
theorem ps_try_ls (nd : X.N.Nodup) (hst : X.stack = X.env :: X.outer) (hfr : X.env.frame = some X.env.locals) (tk : Takes X Wout)
    (hb : ∀ (W : WX) (pn : List (Addr × Obj)) (xe : Value → Shared → Prop), Takes (X.tr pn xe) W → PassesOwn (model X.prog X.w) X.A X.env xe → PSs (X.tr pn xe) body (tb W))
    (hh : HdLs X (h1 :: hds) l) : PS X (.Try body (h1 :: hds) [] [] pos) (fun D σ H => tb (wLs X.K Wout D l) D σ H) := by
  refine ⟨fun pins s σ H D I h => wpAny_Try_except ?_⟩
  have ok := I.ok
  have fA : X.A.frames = some (X.env :: X.outer) := ok.frames.trans (congrArg some hst)
  refine wpAny_mono ((hb (wLs X.K Wout D l) (X.pn ++ pins) (fun e s₁ => wpAny (model X.prog X.w) X.A (noteFrame e X.env) (fun _ s₂ => wpAny (model X.prog X.w) X.A (setFlight e none) (fun _ s₃ =>
    wpAny (model X.prog X.w) X.A (handleBy e X.env (h1 :: hds)) (SP X pins D) X.xe s₃) X.xe s₂) X.xe s₁) (fun u s' z => ?_) PassesOwn.looking).run [] s σ H D (I.toTry _) h) (fun fl s1 z => ?_) (fun _ _ z => z)
  · obtain ⟨x, M, s0, p0, τ, G, cls, d, rfl, J0, nb, up, sky0, nx, os, ag, w⟩ := z
    have J : Inv X pins τ G s0 := J0.ofTry ok
    have sky : Sky M (X.env :: X.outer) x (Zc cls d) X.env.locals s'.heap := hst ▸ sky0
    show wpAny (model X.prog X.w) X.A (noteFrame (.ref x) X.env) _ _ _
    refine Sky.land Zc.steady fA hfr sky fun h3 fl3 up3 => ?_
    have J3 : Inv X pins τ G { s' with heap := h3 } := J.landed nb fl3.1 (up.trans up3) os ag
    obtain ⟨oe3, vs3, ge3, hz3, dd3⟩ := fl3.there
    have nfr : x ∉ frs (X.env :: X.outer) := fun hm => by
      obtain ⟨_, o', e', ne⟩ := fl3.2.2.1.mem hm
      rw [ge3] at e'; cases e'
      exact ne _ dd3
    have nL : x ≠ X.env.locals := fun z => nfr (List.mem_filterMap.mpr ⟨X.env, .head _, by rw [hfr, z]⟩)
    have nF : x ∉ X.fs := fun hm => by
      obtain ⟨v, hv, q⟩ := List.mem_filterMap.mp hm
      exact nfr (List.mem_filterMap.mpr ⟨v, .tail _ hv, q⟩)
    have S3 := J3.suite ge3 dd3 nx nL nF
    have LT : PySem.W.Looks (model X.prog X.w) h3 (typeOf (.ref x)) cls := fun A Q E s k q => wpAny_typeOf_ref (k _ _ ge3) (by rw [hz3.1]; exact q)
    have go : ∀ {us : List ExceptHandler} {m : List Hd}, HdLs X us m → wLs X.K Wout D m cls d τ G → wpAny (model X.prog X.w) X.A (handleBy (.ref x) X.env us) (SP X pins D) X.xe { s' with heap := h3 } := by
      intro us m hk
      have look : ∀ {y : Str} {c : Value} {np : Pos} {Q : Value → Shared → Prop} {E : Value → Shared → Prop}, Names X y c → Q c { s' with heap := h3 } → wpAny (model X.prog X.w) (X.A.mark (some (.ref x))) (eval (.Name y np) X.env) Q E { s' with heap := h3 } := fun {y c np Q E} hc q => by
        obtain ⟨g1, g2, g3 | ⟨g3, g4, g5⟩⟩ := hc
        · exact ld_glob (X := X.suite x ((x, oe3) :: (X.pn ++ pins))) S3 g1 g3 q g2
        · exact ld_blt (X := X.suite x ((x, oe3) :: (X.pn ++ pins))) S3 g1 g3 g4 q g5 g2
      induction hk with
      | nil =>
        intro w
        refine wpAny_handleBy_nil ?_
        obtain ⟨k1, k2, k3, oe, vs, T, oT, ts', he, hz, hd, h1, hr⟩ := id fl3
        unfold PySem.passOn
        refine wpAny_bind (wpAny_field he hd h1 ?_)
        rw [if_neg (show ¬ ((Value.ref T == Value.none) = true) from by simp)]
        have off : wpAny (model X.prog X.w) X.A (setFlight (.ref x) X.env.frame) (fun _ s4 => wpAny (model X.prog X.w) X.A (throw (.ref x) : Sem Flow) (SP X pins D) X.xe s4) X.xe { s' with heap := h3 } := by
          rw [hfr]
          exact HandSPX.setFlight_upZ fl3 fun h4 hh4 up4 => wpAny_throw (tk _ _ ⟨x, M, s0, pins, τ, G, cls, d, rfl, J, nb, (up.trans up3).trans up4, .inr (.inr (by rw [hst]; exact hh4)), nx, os, ag, w⟩)
        first | exact wpAny_bind (wpAny_pure (wpAny_bind off)) | exact wpAny_bind off
      | @bare y c ts st suite np q us2 m2 hc hs r ih =>
        intro w
        obtain ⟨b, hm, hyes, hno⟩ := w
        refine wpAny_handleBy_cons (codeAny_handlers_test (look hc ((PySem.W.exm_one (M := model X.prog X.w) J3.kIn LT hm).here ?_))) (fun z => nomatch z)
        cases b with
        | false => exact ih (hno rfl)
        | true =>
          refine codeAny_handlers_suite (HandSPX.lands_againZ fl3 fun h4 fl4 up4 => ?_)
          obtain ⟨oe4, vs4, ge4, hz4, dd4⟩ := fl4.there
          have S4 := (J.landed nb fl4.1 ((up.trans up3).trans up4) os ag : Inv X pins τ G { s' with heap := h4 }).suite ge4 dd4 nx nL nF
          refine wpAny_mono ((hs x oe4 cls d (X.pn ++ pins) hz4 ⟨_, dd4⟩).run [] _ _ G _ S4 (hyes rfl x nx)) (fun f s6 z => ?_) (fun _ _ z => z.elim)
          cases f with
          | ret u => exact let ⟨v6, τ6, G6, S6, r6, q6⟩ := z; ⟨v6, τ6, G6, S6.unsuite ok, r6, q6⟩
          | _ => exact let ⟨τ6, G6, S6, q6⟩ := z; ⟨τ6, G6, S6.unsuite ok, q6⟩
      | @named y n i c ts st suite np q us2 m2 hi hn hc hs r ih =>
        intro w
        obtain ⟨b, hm, hyes, hno⟩ := w
        refine wpAny_handleBy_cons (codeAny_handlers_test (look hc ((PySem.W.exm_one (M := model X.prog X.w) J3.kIn LT hm).here ?_))) (fun z => nomatch z)
        cases b with
        | false => exact ih (hno rfl)
        | true =>
          refine codeAny_handlers_suite_as (HandSPX.lands_againZ fl3 fun h4 fl4 up4 => ?_)
          obtain ⟨oe4, vs4, ge4, hz4, dd4⟩ := fl4.there
          have S4 := (J.landed nb fl4.1 ((up.trans up3).trans up4) os ag : Inv X pins τ G { s' with heap := h4 }).suite ge4 dd4 nx nL nF
          refine store_ok (X := X.suite x ((x, oe4) :: (X.pn ++ pins))) (v := .ref x) S4 nd hi (.inl hn) rfl (fun s5 S5 => ?_) (.inr hn)
          refine wpAny_mono ((hs x oe4 cls d (X.pn ++ pins) hz4 ⟨_, dd4⟩).run [] s5 _ G _ S5 (hyes rfl x nx)) (fun f s6 z => ?_) (fun _ _ z => z.elim)
          have away : ∀ {τ6 : St} {G6 : Hp} {Q : Shared → Prop}, Inv (X.suite x ((x, oe4) :: (X.pn ++ pins))) [] τ6 G6 s6 → (∀ s7, Inv X pins (τ6.set i none) G6 s7 → Q s7) →
              wpAny (model X.prog X.w) X.A (do bindName X.env n .none; unbindBehindTheSuite X.env n q) (fun _ s7 => Q s7) X.xe s6 := fun {τ6 G6 Q} S6 hq => gone_ok (S6.unsuite ok) nd hi hn hq
          cases f with
          | ret u => exact let ⟨v6, τ6, G6, S6, r6, q6⟩ := z; away S6 fun s7 J7 => ⟨v6, _, _, J7, r6, q6⟩
          | _ => exact let ⟨τ6, G6, S6, q6⟩ := z; away S6 fun s7 J7 => ⟨_, _, J7, q6⟩
    exact go hh w
  · cases fl with
    | next => exact let ⟨τ, G, J, q⟩ := z; wpAny_execs_nil ⟨τ, G, J.ofTry ok, q⟩
    | ret u => exact let ⟨v, τ, G, J, r, q⟩ := z; ⟨v, τ, G, J.ofTry ok, r, q⟩
    | _ => exact let ⟨τ, G, J, q⟩ := z; ⟨τ, G, J.ofTry ok, q⟩
end
end L2

namespace L2
open PySem PySem.Spec PyProof.Rows
/-- a def with defaults that lets nothing out -/
theorem FunD.ok0 {P : Program} {w : World} {K : PySem.W.Frag} {mg : Str → Option Value} {base : Heap} {x qual : Str} {st : Stmt} {dvs : List V} {f : Addr} {fd : FuncData} {N ps : List Str} {k : Nat} {sp : Sp}
    (F : FunD K x qual (defArgs st) (defBody st) (defScope st) dvs [] f fd) (S : FnScope N ps (defScope st)) (len : ∀ vs H Q E, sp vs H Q E → vs.length = ps.length)
    (hbody : ∀ (cdv : Value) (A : Around) (outer : List Env) (s : Shared) (H : Hp) (vs : List V) (Q : VK) (E : XK), Room k (A.deeper (envOfC qual (defScope st) s.heap.objs.size f cdv)) → sp vs H Q E →
      ∃ t, PSs (cxOf CX0 P w K mg base N qual (defScope st) f cdv A outer s H E).nox (defBody st) t ∧ t { nx := fun _ H' => Q .non H', rt := Q } (start N vs) H) : FnOk P w K mg base CX0 (k + 1) f fd ps sp :=
  F.ok S len fun cdv A outer s H vs Q E hr hsp => by
    obtain ⟨t, h, q⟩ := hbody cdv A outer s H vs Q E hr hsp
    exact ⟨t, h.nox, q⟩
theorem funD_mk {K : PySem.W.Frag} {x qual : Str} {st : Stmt} {f T : Addr} {oc : Value} {od an : Option Addr} {osl : Array (Option Value)} {kV doc pm cdv ct : Value} {o : Obj} {its : List Value} {n : Nat} {dvs : List V}
    (l : K.lookup f = some ⟨oc, od, .func (PySem.W.fnOf x qual (defArgs st) (defBody st) (defScope st) (.ref T) kV doc pm an cdv ct), osl⟩)
    (c : PySem.W.codeIn K cdv qual = true) (k : PySem.W.keepIn K (.ref f) = true) (lT : K.lookup T = some o) (oT : o.data = .seq its.toArray n) (hv : Vals dvs its) (hd : dvs ≠ []) :
    FunD K x qual (defArgs st) (defBody st) (defScope st) dvs [] f (PySem.W.fnOf x qual (defArgs st) (defBody st) (defScope st) (.ref T) kV doc pm an cdv ct) :=
  ⟨⟨oc, od, .ref T, kV, doc, pm, an, cdv, ct, osl, rfl, l, c, .inr ⟨hd, T, o, its, n, rfl, lT, oT, hv⟩, .inl rfl⟩, k⟩
end L2

namespace L2
open PySem PySem.Spec PyProof.Rows
/-! ### a method called in a try's body; what is asked of an own class -/
section
variable {X : Cx} {CX : CXT} {k : Nat} {f C : Addr} {fd : FuncData} {ps : List Str} {sp : Sp} {dvs : List V} {ds : List Value} {E : St → XK} {o e : Expr} {es : List Expr} {ta : TE} {t : TA} {m : Str} {apos pos : Pos}
/-- o.m(e, ..) in a try's body -/
def tMethSD (C : Addr) (m : Str) (sp : Sp) (dvs : List V) (E : St → XK) (ta : TE) (t : TA) : TE := fun σ H Q => ta σ H fun x H1 => ∃ a dx fs, x = .ref a ∧ H1 a = some (.ins C dx fs) ∧ fs.lookup m = none ∧ t σ H1 fun vs H2 => sp (x :: (vs ++ dvs)) H2 Q (E σ)
theorem pe_methSD {pl : Sem Bool} (he : PE X o ta) (c : Cls X.K C) (hm : Meth X.K C m f) (F : FnOk X.prog X.w X.K X.mg X.base CX k f fd ps sp) (hr : Room k X.A) (hb : Binds X.K fd ps ds) (hd : Vals dvs ds) (hx : ∀ σ, PassesAt CX X σ (E σ)) (ha : PA X (e :: es) t)
    (hst : starEach (e :: es) X.env = (false, eval e X.env) :: starEach es X.env := by rfl) (hpl : (backTo pos (starEach es X.env)).any (·.1) = false := by rfl)
    (ht : eval (.Call (.Attribute o m apos) (e :: es) [] pos) X.env = (do
      let ov ← eval o X.env
      standAt apos.atName
      let (f, first) ← holding [ov] (getMethod ov m pl)
      callWith pos f first (backTo pos (starEach (e :: es) X.env)) (backToKw pos (keywordEach [] X.env))) := by rfl) :
    PE X (.Call (.Attribute o m apos) (e :: es) [] pos) (tMethSD C m sp dvs E ta t) := by
  refine ⟨fun pins s σ H Q I h => PySem.W.methodCall_KW (pl := pl) (thn (he.run pins s σ H _ I h) fun u s1 z => ?_) ht⟩
  obtain ⟨x, H1, J, rx, a, dx, fs, rfl, ea, l, q⟩ := z
  cases (show u = Value.ref a from rx)
  refine getmeth_ok J ea c hm l ?_
  refine PySem.W.callWith_K (first := [.ref a]) (h₀ := X.base) J.ok.mod.kin hm.kp (thn (ha.run pos pins s1 σ H1 _ J q) fun us s2 z => ?_) hst hpl
  obtain ⟨vs, H2, J2, r, q2⟩ := z
  have rr : Vals (V.ref a :: (vs ++ dvs)) (Value.ref a :: (us ++ ds)) := .cons rfl (r.append hd)
  refine ⟨J2.kIn, wpAny_call (codeAny_mono (F.run X.A X.stack s2 H2 ⟨.ref a :: us, []⟩ (.ref a :: (us ++ ds)) (.ref a :: (vs ++ dvs)) Q (E σ) hr J2.env0 (hb s2 (.ref a :: us) J2.kIn (rr.length.symm.trans (F.len _ _ _ _ q2))) rr q2) fun r s' z => ?_)⟩
  cases r with
  | error er => exact hx σ pins H2 s2 er s' J2 z
  | ok fl =>
    cases fl with
    | ret u => exact J2.after z
    | _ => exact False.elim z
end
/-- what the written part says of an own class -/
structure OwnK (K : PySem.W.Frag) (mg : Str → Option Value) (x : Str) (C : Addr) : Prop where
  gC : mg x = some (.ref C)
  cls : Cls K C
  made : PySem.W.makesIn K C = true
  kC : PySem.W.keepIn K (.ref C) = true
end L2

namespace L2
open PySem PySem.Spec PyProof.Rows
/-! ### text * number -/
section
variable {X : Cx}
theorem op_repS : OpR X (binaryOp .Mult) (fun x y H Q => ∃ (z : Str) (n : Int), x = .str z ∧ y = .int n ∧ MulOk z n ∧ Q (.str (Txt.mul z n)) H) := by
  intro pins s σ H x y v u Q I rx ry h
  obtain ⟨z, n, rfl, rfl, ok, q⟩ := h
  obtain ⟨t, rfl⟩ := rx
  obtain ⟨t', rfl⟩ := ry
  exact SB.mul ok fun t' tk => ⟨.str (Txt.mul z n), H, I.tok _, ⟨_, rfl⟩, q⟩
end
theorem rep_one (c : Nat) : ∀ (n : Nat) (a : Array Nat), ((List.replicate n (#[c] : Array Nat)).foldl (· ++ ·) a) = a ++ (List.replicate n c).toArray
  | 0, a => by simp
  | n + 1, a => by
    rw [List.replicate_succ, List.foldl_cons, rep_one c n, List.replicate_succ]
    apply Array.ext'
    simp
theorem mul_one {c n : Nat} (h : 2 ≤ n) : Txt.mul (⟨#[c]⟩ : Str) (n : Int) = ⟨(List.replicate n c).toArray⟩ := by
  unfold Txt.mul
  have e2 : ((n : Int) == 1 || (⟨#[c]⟩ : Str).length == 0) = false := by
    have : ((n : Int) == 1) = false := beq_eq_false_iff_ne.mpr (by omega)
    rw [this]
    rfl
  rw [if_neg (by omega), e2, if_neg (by decide), Int.toNat_natCast, rep_one]
  simp
end L2

namespace Evl
open PySem L2
/-! ### what evaluates to what: texts -/
section
variable {K : PySem.W.Frag} {σ : L2.St} {H H' : Hp} {ta tb te tl : TE} {t : TT} {x y z v : V}
theorem ev_m0 {C : Str → Prop} {g : Str → V} {a : Str} (h : Ev te σ H (.str a)) (c : C a) : Ev (tM0 (fun x xs H Q => ∃ a, x = .str a ∧ xs = [] ∧ C a ∧ Q (g a) H) te) σ H (g a) := fun H1 e Q q =>
  h H1 e _ fun H2 e2 => ⟨⟨a, rfl⟩, a, rfl, rfl, c, q H2 e2⟩
theorem ev_m1 {g : Str → Str → V} {a b : Str} (h : Ev te σ H (.str a)) (h2 : Ev ta σ H (.str b)) : Ev (tM1 (fun x xs H Q => ∃ a b, x = .str a ∧ xs = [.str b] ∧ Q (g a b) H) te ta) σ H (g a b) := fun H1 e Q q =>
  h H1 e _ fun H2 e2 => ⟨⟨a, rfl⟩, h2 H2 (e.trans e2) _ fun H3 e3 => ⟨a, b, rfl, rfl, q H3 (e2.trans e3)⟩⟩
theorem ev_join {a : Str} {ys : List Str} (h : Ev te σ H (.str a)) (h2 : EvL tl σ H (ys.map V.str)) (hz : (ys.map (·.length)).sum + ys.length * a.length ≤ 16777216) :
    Ev (tM1 (rJoinK K) te tl) σ H (.str (Txt.join a ys)) := fun H1 e Q q =>
  h H1 e _ fun H2 e2 => ⟨⟨a, rfl⟩, h2 H2 (e.trans e2) _ fun p H3 _ e3 h3 => ⟨a, p, ys, rfl, rfl, .inl (sq_of h3), hz, q H3 (e2.trans e3)⟩⟩
theorem rv_addS {a b : Str} (h : a.length + b.length ≤ 100000) : RV (fun x y H Q => ∃ i j, x = .str i ∧ y = .str j ∧ i.length + j.length ≤ sizeLine ∧ Q (.str (i ++ j)) H) (.str a) (.str b) H (.str (a ++ b)) := fun H1 _ _ q => ⟨a, b, rfl, rfl, sz_of h, q H1 (Ex.refl H1)⟩
theorem rv_inS {c : Nat} {z : Str} : RV (fun x y H Q => ∃ (c : Nat) (z : Str), x = .str ⟨#[c]⟩ ∧ y = .str z ∧ Q (.bl (decide (c ∈ z.cps.toList))) H) (.str ⟨#[c]⟩) (.str z) H (.bl (decide (c ∈ z.cps.toList))) := fun H1 _ _ q => ⟨c, z, rfl, rfl, q H1 (Ex.refl H1)⟩
theorem rv_niS {c : Nat} {z : Str} : RV (fun x y H Q => ∃ (c : Nat) (z : Str), x = .str ⟨#[c]⟩ ∧ y = .str z ∧ Q (.bl (!decide (c ∈ z.cps.toList))) H) (.str ⟨#[c]⟩) (.str z) H (.bl (!decide (c ∈ z.cps.toList))) := fun H1 _ _ q => ⟨c, z, rfl, rfl, q H1 (Ex.refl H1)⟩
theorem rv_ltS {a b : Str} : RV (fun x y H Q => ∃ i j, x = .str i ∧ y = .str j ∧ Q (.bl (decide (i.cps.toList < j.cps.toList))) H) (.str a) (.str b) H (.bl (decide (a.cps.toList < b.cps.toList))) := fun H1 _ _ q => ⟨a, b, rfl, rfl, q H1 (Ex.refl H1)⟩
theorem ev_revS {a : Str} (h : Ev te σ H (.str a)) (hz : a.length ≤ 100000) : Ev (tRevS te) σ H (.str ⟨a.cps.toList.reverse.toArray⟩) := fun H1 e Q q => h H1 e _ fun H2 e2 => ⟨a, rfl, sz_of hz, q H2 e2⟩
theorem ev_slS {a : Str} {t1 t2 : TO} {lo hi : Option Int} (h : Ev te σ H (.str a)) (h1 : EvO t1 σ H lo) (h2 : EvO t2 σ H hi) (hz : a.length ≤ 100000) : Ev (tSl rSlS te t1 t2) σ H (.str (cutS a lo hi)) := fun H1 e Q q =>
  h H1 e _ fun H2 e2 => h1 H2 (e.trans e2) _ fun H3 e3 => h2 H3 ((e.trans e2).trans e3) _ fun H4 e4 => ⟨a, rfl, sz_of hz, q H4 ((e2.trans e3).trans e4)⟩
theorem ev_lenS {a : Str} (h : Ev te σ H (.str a)) (hz : a.length ≤ 100000) : Ev (tCB (fun xs H Q => ∃ z, xs = [.str z] ∧ z.length ≤ sizeLine ∧ Q (.int z.length) H) (tCons te tNil)) σ H (.int a.length) := fun H1 e Q q =>
  h H1 e _ fun H2 e2 => ⟨a, rfl, sz_of hz, q H2 e2⟩
theorem ev_intB {b : Bool} (h : Ev te σ H (.bl b)) : Ev (tCB (fun xs H Q => (∃ i, xs = [.int i] ∧ Q (.int i) H) ∨ ∃ k, xs = [.bl k] ∧ Q (.int (if k then 1 else 0)) H) (tCons te tNil)) σ H (.int (if b then 1 else 0)) := fun H1 e Q q =>
  h H1 e _ fun H2 e2 => .inr ⟨b, rfl, q H2 e2⟩
theorem ev_ixNew {xs : List V} {i : Int} (ha : EvL ta σ H xs) (hb : ∀ H1, Ex H H1 → Ev tb σ H1 (.int i)) (hi : atI xs i = some v) : Ev (tOp (rIxL K) ta tb) σ H v := ev_opL1 ha hb fun p H1 hp e => rv_ixL (sq_of hp) hi
theorem ev_isi {tc : TE} {c : V} {ty u : Value} {b : Bool} (h : Ev te σ H x) (h2 : Ev tc σ H c) (hc : ClsV c u) (hx : ∀ H1, Ex H H1 → TyX K H1 x ty) (hb : PySem.W.kitOne K ty u = some b) : Ev (tCB (rIsi K) (tCons te (tCons tc tNil))) σ H (.bl b) := fun H1 e Q q =>
  h H1 e _ fun H2 e2 => h2 H2 (e.trans e2) _ fun H3 e3 => ⟨x, c, ty, u, b, rfl, hc, hx H3 ((e.trans e2).trans e3), hb, q H3 (e2.trans e3)⟩
theorem ev_isiN {tc : TE} {c : V} {xs : List V} {ty u : Value} {b : Bool} (h : EvL te σ H xs) (h2 : ∀ H1, Ex H H1 → Ev tc σ H1 c) (hc : ClsV c u) (hx : ∀ p H1, H1 p = some (.lst xs) → TyX K H1 (.ref p) ty) (hb : PySem.W.kitOne K ty u = some b) : Ev (tCB (rIsi K) (tCons te (tCons tc tNil))) σ H (.bl b) := fun H1 e Q q =>
  h H1 e _ fun p H2 _ e2 hp => h2 H2 (e.trans e2) H2 (Ex.refl H2) _ fun H3 e3 => ⟨.ref p, c, ty, u, b, rfl, hc, hx p H3 (e3 _ _ hp), hb, q H3 (e2.trans e3)⟩
theorem ev_allN {bs : List Bool} (h : EvL te σ H (bs.map V.bl)) : Ev (tCB (rAll K) (tCons te tNil)) σ H (.bl (bs.all id)) := fun H1 e Q q =>
  h H1 e _ fun p H2 _ e2 hp => ⟨p, bs, rfl, sq_of hp, q H2 e2⟩
theorem ev_ifv {b : Bool} {v w : V} (h : EvT t σ H b) (h1 : b = true → Ev ta σ H v) (h2 : b = false → Ev tb σ H w) : Ev (tIf t ta tb) σ H (if b = true then v else w) := by
  refine ev_if h (fun e => ?_) (fun e => ?_)
  · rw [if_pos e]; exact h1 e
  · rw [if_neg (by rw [e]; decide)]; exact h2 e
theorem et_yes : EvT tYes σ H true := fun H1 _ _ q => q H1 (Ex.refl H1)
theorem given_all (n : Nat) (v : Nat → V) : given n (fun _ => true) v = (List.range n).map v := by
  unfold given
  congr 1
  exact List.filter_eq_self.mpr fun _ _ => rfl
theorem range_map {α : Type} (l : List α) (g : α → V) (d : α) : (List.range l.length).map (fun i => g (l.getD i d)) = l.map g := by
  apply List.ext_getElem
  · simp
  · intro i h1 h2
    simp at h1
    simp [List.getD, h1]
/-- [e for sign in text] -/
theorem el_lcS {s : Str} {j : Nat} {vs : List Nat} (f : Nat → Bool) (v : Nat → V) (h : Ev tl σ H (.str s)) (hz : s.length ≤ 40000) (hw : ∀ x, wipe ((wipe σ vs).set j (some x)) vs = wipe σ vs)
    (ht : ∀ (i c : Nat) H1, Ex H H1 → s.cps.toList[i]? = some c → EvT t ((wipe σ vs).set j (some (.str ⟨#[c]⟩))) H1 (f i))
    (he : ∀ (i c : Nat) H1, Ex H H1 → s.cps.toList[i]? = some c → f i = true → Ev te ((wipe σ vs).set j (some (.str ⟨#[c]⟩))) H1 (v i)) :
    EvL (tLc (iStr tl) (gName j) t te vs) σ H (given s.length f v) := fun H0 e Q q => h H0 e _ fun H1 e1 => ⟨s, rfl, fun Dl hD =>
  lc_it walk_str (Cw H1 f v Dl) ⟨hD, Ex.new hD, upd_same⟩ (fun _ _ _ _ => trivial) (fun i x H2 H' hi p hy => by
    obtain ⟨rfl, c, hc, rfl⟩ := hy
    have hc' : s.cps.toList[i]? = some c := by rw [Array.getElem?_toList]; exact hc
    exact ⟨hw _, cw_turn p (by have : s.length = s.cps.size := rfl; omega) (ht i c H1 (e.trans e1) hc') (fun hf => he i c H1 (e.trans e1) hc' hf)⟩)
    (fun H' p => q Dl H' (fresh_back e1 p.1) (e1.trans p.2.1) p.2.2)⟩
theorem el_mapS {s : Str} {j : Nat} {vs : List Nat} (g : Nat → V) (h : Ev tl σ H (.str s)) (hz : s.length ≤ 40000) (hw : ∀ x, wipe ((wipe σ vs).set j (some x)) vs = wipe σ vs)
    (he : ∀ (c : Nat) H1, Ex H H1 → c ∈ s.cps.toList → Ev te ((wipe σ vs).set j (some (.str ⟨#[c]⟩))) H1 (g c)) :
    EvL (tLc (iStr tl) (gName j) tYes te vs) σ H (s.cps.toList.map g) := by
  have := el_lcS (te := te) (t := tYes) (fun _ => true) (fun i => g (s.cps.toList.getD i 0)) h hz hw (fun _ _ _ _ _ => et_yes) (fun i c H1 e hc _ => by
    have : s.cps.toList.getD i 0 = c := by rw [List.getD_eq_getElem?_getD, hc]; rfl
    rw [this]
    exact he c H1 e (List.mem_of_getElem? hc))
  rw [given_all] at this
  have e2 : s.length = s.cps.toList.length := rfl
  rw [e2, range_map] at this
  exact this
end
end Evl

namespace L2
open PySem PySem.Spec PyProof.Rows
/-! ### e.f, over a fixed written part; != of lists whose items are the same; repr of any data -/
section
variable {X : Cx} {K : PySem.W.Frag}
theorem pe_fldK {e : Expr} {f : Str} {pos : Pos} {ta : TE} (he : PE X e ta) (hb : attributeBase e f X.env (eval e X.env) = eval e X.env) (hK : X.K = K := by rfl) : PE X (.Attribute e f pos) (tFld K ta f) := hK ▸ pe_fld he hb
/-- xs != ys, item by item the same -/
def SelfV : V → Bool
  | .ref _ => true
  | v => flatB v
def rNeS (K : PySem.W.Frag) : R2 := fun x y H Q => ∃ a b xs, x = .ref a ∧ y = .ref b ∧ SqL K H a xs ∧ SqL K H b xs ∧ xs.all SelfV = true ∧ Q (.bl false) H
theorem self_eq {A : Around} {s : Shared} {x : V} {v u : Value} (h : SelfV x = true) (rx : RelV x v) (ry : RelV x u) : SeqAt.EqAt A s v u true := by
  cases x with
  | ref a =>
    cases (show v = Value.ref a from rx)
    cases (show u = Value.ref a from ry)
    exact SeqAt.EqAt.same _
  | _ => exact eqAt_same rx ry h
theorem op_neS (hu64 : X.A.units + 64 < cLine) (hK : X.K = K := by rfl) : OpR X (compareOp .NotEq) (rNeS K) := by
  have hu : X.A.units < cLine := by omega
  subst hK
  intro pins s σ H x y v u Q I rx ry h
  obtain ⟨a, b, xs, rfl, rfl, ha, hb, hs, q⟩ := h
  cases (show v = Value.ref a from rx)
  cases (show u = Value.ref b from ry)
  obtain ⟨us, r1, p1, _⟩ := I.list ha
  obtain ⟨ws, r2, p2, _⟩ := I.list hb
  have hsz : us.toArray.size = ws.toArray.size := by rw [List.size_toArray, List.size_toArray, ← r1.length, ← r2.length]
  have key := SeqAt.RcNeAt.lists (A := X.A) (e := fun _ => true) p1.isList p2.isList hsz hu fun j h1 h2 => ?_
  · refine key _ _ _ _ ?_
    rw [show ((List.range us.toArray.size).all fun _ => true) = true from List.all_eq_true.mpr fun _ _ => rfl]
    exact ⟨.bl false, H, I, rfl, q⟩
  · have hj : j < xs.length := by
      have := r1.length
      simp only [List.size_toArray] at h1
      omega
    obtain ⟨u1, e1, x1⟩ := r1.get (i := j) (x := xs[j]) (List.getElem?_eq_getElem hj)
    obtain ⟨u2, e2, x2⟩ := r2.get (i := j) (x := xs[j]) (List.getElem?_eq_getElem hj)
    have f1 : us.toArray[j] = u1 := by
      have := (List.getElem?_eq_some_iff.mp e1).2
      simpa using this
    have f2 : ws.toArray[j] = u2 := by
      have := (List.getElem?_eq_some_iff.mp e2).2
      simpa using this
    rw [f1, f2]
    exact self_eq (List.all_eq_true.mp hs _ (List.getElem_mem hj)) x1 x2
end
end L2

namespace L2
open PySem PySem.Spec PyProof.Rows
/-! ### min of a tuple of whole numbers -/
section
variable {prog : Program} {w : World} {A : Around} {E : Value → Shared → Prop} {s : Shared} {l : Addr} {its : List Value} {ns : List Int} {Q : Value → Shared → Prop}
theorem minT_raw (hh : A.handled = none) (hl : s.heap.IsTuple l its.toArray) (hi : IntsAre its ns) (hne : 0 < ns.length)
    (h : ∀ h' tk M t', (∀ b o, s.heap.get? b = some o → h'.get? b = some o) → M ∈ ns → (∀ a, a ∈ ns → M ≤ a) → Q (.int M t') { s with heap := h', toks := tk }) : wpAny (model prog w) A (call (.builtin "min") [.ref l]) Q E s := by
  obtain ⟨xs, e⟩ := hi.allInts.items
  have hn : numsOf (intItems xs).toList = ns := by rw [← e]; exact hi.numsOf
  rw [nums_intItems] at hn
  subst hn
  rw [e] at hl
  have hsz : 0 < xs.size := by simpa using hne
  have hlt : l < s.heap.objs.size := by obtain ⟨_, e, _⟩ := hl; exact Heap.lt_size e
  refine call_min_walk (wpAny_pyIter_tuple hl ?_)
  refine ⟨_, [_, l], [_], _, _, _, _, rfl, Walks.tuple (A := A.in1) hh _ l (Nat.ne_of_lt hlt) (intItems xs), ⟨⟨_, Heap.get?_push_size _ rfl, rfl, rfl⟩, hl.push _⟩, fun b hb => ?_, by simpa [intItems] using hsz, CmpOf.ints_lt (numAt xs) (fun _ _ => intItems_at), fun v h' tk hv hk => ?_⟩
  · show b < (s.heap.push _).objs.size
    rw [Heap.size_push]
    rcases List.mem_cons.mp hb with rfl | hb
    · exact Nat.lt_succ_self _
    · rw [List.mem_singleton.mp hb]
      exact Nat.lt_succ_of_lt hlt
  · obtain ⟨t, rfl⟩ := intItems_at hv
    have e2 : (intItems xs).size - 1 = xs.size - 1 := by simp [intItems]
    rw [e2] at *
    obtain ⟨h1, h2⟩ := argBest_lt (numAt xs) (xs.size - 1)
    refine h h' tk _ t (fun b o e => hk b o (fun hm => ?_) (Heap.get?_push_of_some _ e)) ?_ fun a ha => ?_
    · exact absurd (List.mem_singleton.mp hm ▸ Heap.lt_size e) (Nat.lt_irrefl _)
    · rw [numAt_eq]; exact PySem.getD_mem (by rw [List.length_map, Array.length_toList]; omega)
    · obtain ⟨j, hj, rfl⟩ := mem_getD ha
      rw [List.length_map, Array.length_toList] at hj
      rw [← numAt_eq]; exact h2 j (by omega)
end
/-! ### dicts of the module; a def out of one; two defs that a name may hold -/
/-- a module's dict of texts: what it is -/
structure KDt (K : PySem.W.Frag) (w : World) (mg : Str → Option Value) (x : Str) (d : Addr) : Prop where
  mg : mg x = some (.ref d)
  kd : ∃ es n, KDict K w d es n
section
variable {X : Cx} {K : PySem.W.Frag} {w : World}
def rMinT (K : PySem.W.Frag) : List V → Hp → VK → Prop := fun vs H Q => ∃ (a : Addr) (ns : List Int), vs = [V.ref a] ∧ SqT K H a (ns.map V.int) ∧ 0 < ns.length ∧ ∀ m, m ∈ ns → (∀ y, y ∈ ns → m ≤ y) → Q (.int m) H
theorem cr_minT (hc : X.calm = true) (hK : X.K = K := by rfl) : CallR X (.builtin "min") (rMinT K) := by
  subst hK
  intro pins s σ H vs us Q I r h
  obtain ⟨a, ns, rfl, hs, hne, q⟩ := h
  obtain ⟨its, rv, hl, _⟩ := I.tuple hs
  rw [Vals.ref1 r]
  exact minT_raw (I.ok.hd hc) hl rv.ints hne fun h' tk m t' hk h1 h2 => ⟨.int _, H, I.kept hk, ⟨_, rfl⟩, q m h1 h2⟩
def rKIn (K : PySem.W.Frag) (neg : Bool) : R2 := fun x y H Q => ∃ (z : Str) (d : Addr) (r : Option Value), x = .str z ∧ y = .ref d ∧ PySem.W.nsIn K d z = some r ∧ Q (.bl (if neg then !r.isSome else r.isSome)) H
theorem op_kIn {d : Addr} {mg : Str → Option Value} {nm : Str} (D : KDt K w mg nm d) (hK : X.K = K := by rfl) (hw : X.w = w := by rfl) : OpR X (compareOp .In) (fun x y H Q => y = .ref d ∧ rKIn K false x y H Q) := by
  subst hK hw
  obtain ⟨es, n, D⟩ := D.kd
  intro pins s σ H x y v u Q I rx ry h
  obtain ⟨rfl, z, d', r, rfl, e0, e, q⟩ := h
  cases e0
  exact op_in_kd D pins s σ H _ _ v u Q I rx ry ⟨z, r, rfl, rfl, e, q⟩
theorem op_kNotIn {d : Addr} {mg : Str → Option Value} {nm : Str} (D : KDt K w mg nm d) (hK : X.K = K := by rfl) (hw : X.w = w := by rfl) : OpR X (compareOp .NotIn) (fun x y H Q => y = .ref d ∧ rKIn K true x y H Q) := by
  subst hK hw
  obtain ⟨es, n, D⟩ := D.kd
  intro pins s σ H x y v u Q I rx ry h
  obtain ⟨rfl, z, d', r, rfl, e0, e, q⟩ := h
  cases e0
  exact op_notIn_kd D pins s σ H _ _ v u Q I rx ry ⟨z, r, rfl, rfl, e, q⟩
def rKIx (K : PySem.W.Frag) (w : World) (d : Addr) : R2 := fun x y H Q => ∃ z u v, x = .ref d ∧ y = .str z ∧ PySem.W.nsIn K d z = some (some u) ∧ RelV v u ∧ Q v H
theorem ix_k {d : Addr} {mg : Str → Option Value} {nm : Str} (D : KDt K w mg nm d) (hK : X.K = K := by rfl) (hw : X.w = w := by rfl) : IxR X (rKIx K w d) := by
  subst hK hw
  obtain ⟨es, n, D⟩ := D.kd
  intro value slice pins s σ H x y v u Q I rx ry h hs
  obtain ⟨z, u0, v0, rfl, rfl, e, r, q⟩ := h
  exact ix_kdict value slice pins s σ H _ _ v u Q I rx ry ⟨d, z, v0, rfl, rfl, ⟨es, n, u0, D.at_, D.lit, e, r⟩, q⟩ hs
/-- f(e, ..), f a local that holds one of two defs -/
def tCall2 (i : Nat) (f g : Addr) (sp sq : Sp) (E : XK) (t : TA) : TE := fun σ H Q => tCallL i f sp [] E t σ H Q ∨ tCallL i g sq [] E t σ H Q
theorem pe_call2 {CX : CXT} {k i : Nat} {f g : Addr} {fd gd : FuncData} {ps qs : List Str} {sp sq : Sp} {ds es' : List Value} {E : XK} {x : Str} {p pos : Pos} {e : Expr} {es : List Expr} {t : TA}
    (F : FnOk X.prog X.w X.K X.mg X.base CX k f fd ps sp) (G : FnOk X.prog X.w X.K X.mg X.base CX k g gd qs sq) (hr : Room k X.A) (hN : X.N[i]? = some x) (hv : Vis X.env.scope x) (hk : PySem.W.keepIn X.K (.ref f) = true) (hk2 : PySem.W.keepIn X.K (.ref g) = true) (hb : Binds X.K fd ps ds) (hb2 : Binds X.K gd qs es') (hd : Vals [] ds) (hd2 : Vals [] es') (hx : Passes CX X E) (ha : PA X (e :: es) t)
    (hdb : (x == ("__debug__" : Str)) = false := by decide) (hcd : (x == ("__classdict__" : Str)) = false := by decide)
    (he : starEach (e :: es) X.env = (false, eval e X.env) :: starEach es X.env := by rfl) (hpl : (backTo pos (starEach es X.env)).any (·.1) = false := by rfl) : PE X (.Call (.Name x p) (e :: es) [] pos) (tCall2 i f g sp sq E t) := by
  refine ⟨fun pins s σ H Q I h => ?_⟩
  rcases h with h | h
  · exact (pe_callL F hr hN hv hk hb hd hx ha hdb hcd he hpl).run pins s σ H Q I h
  · exact (pe_callL G hr hN hv hk2 hb2 hd2 hx ha hdb hcd he hpl).run pins s σ H Q I h
theorem Room.units65 {k : Nat} {A : Around} (r : Room k A) : A.units + 65 < cLine := by have := r.un; omega
theorem op_catTK (hK : X.K = K := by rfl) : OpR X (binaryOp .Add) (rCatT K) := hK ▸ op_catT
theorem op_inDK (hu : X.A.units + 65 < cLine) (hK : X.K = K := by rfl) : OpR X (compareOp .In) (rInD K) := hK ▸ op_inD hu
theorem op_notInDK (hu : X.A.units + 65 < cLine) (hK : X.K = K := by rfl) : OpR X (compareOp .NotIn) (rNotInD K) := hK ▸ op_notInD hu
end
/-! ### a tuple that isn't empty, times 0 or 1 -/
theorem tuple_mul0 (l : Addr) (items : Array Value) (n : Nat) (dd : Option Addr) (sl : Array (Option Value)) (u : Tok) (hi : items.isEmpty = false) :
    Meets (Builtin.«tuple.__mul__» ⟨[.ref l, .int 0 u], []⟩) (fun _ R s => s.heap.get? l = some { cls := .type "tuple", dict := dd, data := .seq items n, slots := sl } ∧
      R (.ok (.ret (Value.ref s.heap.objs.size))) { s with heap := s.heap.push { cls := Value.type "tuple", data := Data.seq #[] }, toks := s.toks }) :=
  .of_wp fun prog w A R s h => by
    obtain ⟨hp, g, d, tk, os⟩ := s
    obtain ⟨hl, h⟩ := h
    have f1 := AutoSeq1.idx_int
    wp_walk using wpAny_loadPart' hl
    exact ⟨_, rfl, h⟩
theorem tuple_mul1 (l : Addr) (items : Array Value) (n : Nat) (dd : Option Addr) (sl : Array (Option Value)) (u : Tok) :
    Meets (Builtin.«tuple.__mul__» ⟨[.ref l, .int 1 u], []⟩) (fun _ R s => s.heap.get? l = some { cls := .type "tuple", dict := dd, data := .seq items n, slots := sl } ∧ R (.ok (.ret (Value.ref l))) s) :=
  .of_wp fun prog w A R s h => by
    obtain ⟨hp, g, d, tk, os⟩ := s
    obtain ⟨hl, h⟩ := h
    have f1 := AutoSeq1.idx_int
    wp_walk using wpAny_loadPart' hl
    exact ⟨_, rfl, h⟩
def rRep01 (K : PySem.W.Frag) : R2 := fun x y H Q => ∃ l k xs, x = .ref l ∧ y = .int k ∧ SqT K H l xs ∧ xs ≠ [] ∧ ((k = 0 ∧ ∀ p, H p = none → Q (.ref p) (upd H p (.tup []))) ∨ (k = 1 ∧ Q (.ref l) H))
theorem op_rep01 {X : Cx} {K : PySem.W.Frag} (hK : X.K = K := by rfl) : OpR X (binaryOp .Mult) (rRep01 K) := by
  subst hK
  intro pins s σ H x y v u Q I rx ry h
  obtain ⟨l, k, xs, rfl, rfl, hT, hne, q⟩ := h
  cases rx
  obtain ⟨t, rfl⟩ := ry
  obtain ⟨its, r, ⟨⟨cls, dd, data, sl⟩, ho, hc, n, hd⟩, hs⟩ := I.tuple hT
  simp only at hc hd
  subst hc hd
  have hi : its.toArray.isEmpty = false := by
    cases its with
    | nil => exact absurd (List.eq_nil_of_length_eq_zero r.length) hne
    | cons a b => rfl
  rcases q with ⟨rfl, q⟩ | ⟨rfl, q⟩
  · refine wpAny_binaryOp_repeat_ref (T := "tuple") (U := "int") (by decide) ⟨_, ho, rfl⟩ (fun s' => typeIs_int s' 0 t) noFill_tuple_mul F.fills_int_mul F.slot_int_rmul repeat_tuple F.slot_int_index.lookup
      (call_meets F.slot_int_rmul (typeIs_int s 0 t) F.entry_int_rmul (F.args_int_rmul_2 _ _) (int_rmul_tuple 0 t l its.toArray n dd sl)
        ⟨ho, rfl, ⟨_, ho, rfl⟩, call_meets F.slot_tuple_mul ⟨_, ho, rfl⟩ F.entry_tuple_mul (F.args_tuple_mul_2 _ _) (tuple_mul0 l its.toArray n dd sl t hi) ⟨ho, ?_⟩⟩)
    refine ⟨.ref s.heap.objs.size, _, I.laid (t' := s.toks) (o := .tup []) (fun b ob q => Heap.get?_push_of_some _ q) (Nat.le_refl _) ?_, rfl, q _ (I.hok.fresh (Nat.le_refl _))⟩
    exact ⟨Nat.zero_le _, [], .nil, ⟨_, Heap.get?_push_size _ rfl, rfl, _, rfl⟩⟩
  · refine wpAny_binaryOp_repeat_ref (T := "tuple") (U := "int") (by decide) ⟨_, ho, rfl⟩ (fun s' => typeIs_int s' 1 t) noFill_tuple_mul F.fills_int_mul F.slot_int_rmul repeat_tuple F.slot_int_index.lookup
      (call_meets F.slot_int_rmul (typeIs_int s 1 t) F.entry_int_rmul (F.args_int_rmul_2 _ _) (int_rmul_tuple 1 t l its.toArray n dd sl)
        ⟨ho, rfl, ⟨_, ho, rfl⟩, call_meets F.slot_tuple_mul ⟨_, ho, rfl⟩ F.entry_tuple_mul (F.args_tuple_mul_2 _ _) (tuple_mul1 l its.toArray n dd sl t) ⟨ho, ?_⟩⟩)
    exact ⟨.ref l, H, I, rfl, q⟩
end L2
namespace HT
open PySem PyProof.Rows
open PySem.SeqAt
open PySem.MeetsSeq PySem.MeetsSeq2 PySem.MeetsSeq3
section
variable {prog : Program} {w : World} {A : Around} {E : Value → Shared → Prop} {s : Shared}
/-- the whole of a tuple, sliced, is that tuple -/
theorem tup_whole {t sl : Addr} {items : Array Value} {vl vu : Value} {lo hi : Option Int} {Q : Value → Shared → Prop} (h1 : IsTup s.heap t items) (h2 : s.heap.IsSliceOf sl vl vu .none) (h3 : IsPart vl lo) (h4 : IsPart vu hi)
    (z1 : sIx items.size 0 lo = 0) (z2 : sIx items.size items.size hi = items.size) (q : Q (.ref t) s) : wpAny (model prog w) A (getItem (.ref t) (.ref sl)) Q E s := by
  have tS : s.TypeIs (.ref sl) "slice" := let ⟨o, a, b, _⟩ := id h2; ⟨o, a, b⟩
  unfold getItem
  try (with_reducible refine wpAny_holding ?_)
  first | (refine wpAny_bind (wpAny_pure ?_)) | skip
  refine wpAny_bind (wpAny_sequenceKey (h1.typeIs) (by decide) ?_)
  refine wpAny_bind (wpAny_callSpecial?_slot (name := Str.ofString "__getitem__") (h1.typeIs) PyProof.Rows.slot_tuple_getitem (wpAny_call_entry PyProof.Rows.slot_tuple_getitem (h1.typeIs) entry_tuple_getitem ?_ (args_tuple_getitem _ _)))
  show wpAny _ _ ((Builtin.Tuple.tupleItemsOf (.ref t)) >>= _) _ _ s
  refine wpAny_bind (tupleItemsOf_ (h1) ?_)
  refine wpAny_bind (wpAny_typeOf (tS) ?_)
  rw [if_pos (by decide)]
  refine wpAny_bind (sliceApplied_gen (h2) h3 h4 ?_)
  have yes : (((sIx items.size 0 lo : Nat) : Int) == 0 && (1 : Int) == 1 && (sIx items.size items.size hi - sIx items.size 0 lo) == items.size) = true := by
    rw [z1, z2]
    simp
  show wpAny _ _ (if (_ : Bool) = true then _ else _) _ _ s
  rw [if_pos (yes)]
  refine wpAny_bind (m := Builtin.Tuple.tupleIsExact _) ?_
  unfold Builtin.Tuple.tupleIsExact
  first
    | refine wpAny_bind (wpAny_typeOf (h1.typeIs) (wpAny_pure ?_))
    | (wp_walk; skip)
  rw [if_pos (by decide)]
  exact wpAny_bind (wpAny_rule (wpAny_pure ⟨_, rfl, wpAny_pure q⟩))
end
end HT
namespace L2
open PySem PySem.Spec PyProof.Rows
/-- a tuple's slice, the whole too -/
def rSlA (K : PySem.W.Frag) : V → Option Int → Option Int → Hp → VK → Prop := fun x lo hi H Q => ∃ a xs, x = .ref a ∧ SqT K H a xs ∧ ((HT.sIx xs.length 0 lo = 0 ∧ HT.sIx xs.length xs.length hi = xs.length ∧ Q (.ref a) H) ∨
  (¬ (HT.sIx xs.length 0 lo = 0 ∧ HT.sIx xs.length xs.length hi = xs.length) ∧ ∀ p, H p = none → Q (.ref p) (upd H p (.tup (cutV xs lo hi)))))
theorem sl_tupA {X : Cx} {K : PySem.W.Frag} (hK : X.K = K := by rfl) : SlR X (rSlA K) := by
  subst hK
  intro pins s σ H x v vl vu lo hi sl Q I rx hs pl pu h
  obtain ⟨a, xs, rfl, hx, h⟩ := h
  rcases h with ⟨z1, z2, q⟩ | ⟨hw, q⟩
  · cases rx
    obtain ⟨its, r, ht, hz⟩ := I.tuple hx
    have hlen : its.toArray.size = xs.length := (List.size_toArray ..).trans r.length.symm
    refine ⟨"tuple", _, PyProof.Rows.slot_tuple_getitem.lookup, ht.typeIs, ?_⟩
    exact HT.tup_whole ht hs pl pu (by rw [hlen]; exact z1) (by rw [hlen]; exact z2) ⟨.ref a, H, I, rfl, q⟩
  · exact sl_tup pins s σ H _ v vl vu lo hi sl Q I rx hs pl pu ⟨a, xs, rfl, hx, hw, q⟩
end L2

/-! ### nothing + a tuple -/
namespace L2
open PySem PySem.Spec PyProof.Rows HT
section
variable {X : Cx} {K : PySem.W.Frag}
def rCatE (K : PySem.W.Frag) : R2 := fun x y H Q => (∃ a b ys, x = .ref a ∧ y = .ref b ∧ SqT K H a [] ∧ SqT K H b ys ∧ Q (.ref b) H) ∨ rCatT K x y H Q
theorem op_catE (hK : X.K = K := by rfl) : OpR X (binaryOp .Add) (rCatE K) := by
  subst hK
  intro pins s σ H x y v u Q I rx ry h
  rcases h with ⟨a, b, ys, rfl, rfl, ha, hb, q⟩ | h
  rotate_left
  · exact op_catT pins s σ H x y v u Q I rx ry h
  cases rx
  cases ry
  obtain ⟨its, r, p, _⟩ := I.tuple ha
  obtain ⟨jts, _, pb, _⟩ := I.tuple hb
  cases r
  obtain ⟨⟨c1, d1, e1, l1⟩, o1, k1, n1, z1⟩ := id p
  obtain ⟨⟨c2, d2, e2, l2⟩, o2, k2, n2, z2⟩ := id pb
  simp only at k1 z1 k2 z2
  subst k1 z1 k2 z2
  exact concat_meets ⟨_, o1, rfl⟩ ⟨_, o2, rfl⟩ noFill_tuple_add seq_tuple_add PySem.F.slot_tuple_add PySem.F.entry_tuple_add (PySem.F.args_tuple_add_2 _ _)
    (tuple_addW0 a b ([] : List Value).toArray jts.toArray n1 n2 d1 d2 l1 l2 (by simp)) ⟨o1, o2, ⟨.ref b, H, I, rfl, q⟩⟩
end
end L2

namespace Toy
open PySem L2

def top (i : Nat) : Stmt := PySem.Challenge.pw_undotrees_k24_no_steps.main.body.getD i (.Pass ⟨0, 0, 0, 0⟩)
abbrev s_law_pool : Stmt := top 24
abbrev s_law_take : Stmt := top 25
abbrev s_law_turned : Stmt := top 26
abbrev s_law_row : Stmt := top 27
abbrev s_law_done : Stmt := top 28
abbrev s_law_step : Stmt := top 29
abbrev s_law_bent : Stmt := top 33
abbrev s_law_formed : Stmt := top 30
abbrev s_is_row_within : Stmt := top 6
abbrev s_is_long_row : Stmt := top 11
abbrev s_look_at_long_row : Stmt := top 12
abbrev s_part_of : Stmt := top 13
abbrev s_contrary_sign : Stmt := top 7
abbrev s_turned : Stmt := top 8
abbrev s_less_of : Stmt := top 14
abbrev s_more_of : Stmt := top 15
abbrev s_is_whole : Stmt := top 5
abbrev s_is_formed : Stmt := top 19
abbrev s_past_of : Stmt := top 16
abbrev s_done : Stmt := top 20
abbrev s_NoStep___init__ : Stmt := inClass (top 2) 0
abbrev s_led_on : Stmt := top 22
abbrev s_stepped : Stmt := top 21
abbrev s_law_told : Stmt := top 32
abbrev s_law_told_on : Stmt := top 31
abbrev s_law : Stmt := top 34
open RowM (sgns con ix Row)
open TL
/-- the reading, as far as it goes by itself -/
local macro_rules | `(tactic| walk_at "rd") => `(tactic| repeat (first
  | refine ⟨_, rfl, ?_⟩
  | refine ⟨_, _, rfl, rfl, ?_⟩
  | refine ⟨rfl, ?_⟩
  | refine ⟨(by show (0 : Int) < _; omega), ?_⟩
  | refine ⟨⟨by omega, by omega⟩, ?_⟩
  | refine ⟨(by decide), ?_⟩
  | refine ⟨(by omega), ?_⟩))
/-- the text of a list of signs' numbers -/
abbrev S (l : List Nat) : Str := ⟨l.toArray⟩
/-- all but the object at p is as it was -/
def Off (p : Addr) (H H' : Hp) : Prop := ∀ b o, b ≠ p → H b = some o → H' b = some o
theorem Off.refl (p : Addr) (H : Hp) : Off p H H := fun _ _ _ h => h
theorem Off.trans {p : Addr} {H H1 H2 : Hp} (a : Off p H H1) (b : Off p H1 H2) : Off p H H2 := fun c o n h => b c o n (a c o n h)
theorem off_of {p : Addr} {H H' : Hp} (a : Same H H') : Off p H H' := fun c o _ h => a c o h
theorem Off.upd {p : Addr} {H H' : Hp} {o : HO} (a : Off p H H') : Off p H (upd H' p o) := fun c u n h => by
  rw [upd_ne n]
  exact a c u n h
/-- the law's own pool of draws -/
def Pool (H : Hp) (p : Addr) : Prop := ∃ c n : Int, H p = some (.lst [.int c, .int n]) ∧ 0 ≤ n ∧ n < 2147483647
theorem Pool.same {H H' : Hp} {p : Addr} (h : Pool H p) (s : Same H H') : Pool H' p := by
  obtain ⟨c, n, e, r⟩ := h
  exact ⟨c, n, s _ _ e, r⟩
theorem Same.new {H : Hp} {p : Addr} {o : HO} (h : H p = none) : Same H (upd H p o) := fun b u e => by
  rw [upd_ne (ne_of_none e h)]
  exact e
theorem atI0 {α : Type} {a : α} {l : List α} : atI (a :: l) 0 = some a := atI_nat (xs := a :: l) (j := 0) rfl
theorem atI1 {α : Type} {a b : α} {l : List α} : atI (a :: b :: l) 1 = some b := atI_nat (xs := a :: b :: l) (j := 1) rfl
theorem one_le {c : Nat} : (⟨#[c]⟩ : Str).length ≤ 5592405 := by show 1 ≤ _; decide
/-! ### signs -/
open RowM (lo up)
theorem low1 : ∀ c ∈ sgns, Txt.lower (S [c]) = S [lo c] := by decide +kernel
theorem up1 : ∀ c ∈ sgns, Txt.upper (S [c]) = S [up c] := by decide +kernel
theorem isup1 : ∀ c ∈ sgns, Txt.isupper (S [c]) = decide (c < 97) := by decide +kernel
theorem islo1 : ∀ c ∈ sgns, Txt.islower (S [c]) = decide (97 ≤ c) := by decide +kernel
theorem six1 : ∀ c ∈ sgns, ∃ r, Builtin.Str.occurrences "aAbBcCdDeEfF" (S [c]) 0 12 1 = ix c :: r := by
  intro c hc
  have h : ∀ c ∈ sgns, (Builtin.Str.occurrences "aAbBcCdDeEfF" (S [c]) 0 12 1).head? = some (ix c) := by decide +kernel
  have := h c hc
  cases e : Builtin.Str.occurrences "aAbBcCdDeEfF" (S [c]) 0 12 1 with
  | nil => rw [e] at this; cases this
  | cons a r => rw [e] at this; cases this; exact ⟨r, rfl⟩
theorem sgns_at : ∀ i : Nat, i < 12 → ∃ c, (Str.ofString "aAbBcCdDeEfF").cps.toList[i]? = some c ∧ c ∈ sgns ∧ ix c = i := by
  have h : ∀ i ∈ List.range 12, (Str.ofString "aAbBcCdDeEfF").cps.toList[i]? = sgns[i]? ∧ (sgns[i]?).isSome = true ∧ ix (sgns.getD i 0) = i := by decide +kernel
  intro i hi
  obtain ⟨h1, h2, h3⟩ := h i (List.mem_range.mpr hi)
  have h4 : i < sgns.length := hi
  refine ⟨sgns[i], by rw [h1, List.getElem?_eq_getElem h4], List.getElem_mem _, ?_⟩
  rw [List.getD_eq_getElem?_getD, List.getElem?_eq_getElem h4] at h3
  exact h3
theorem sgns_mem : ∀ c : Nat, (c ∈ (Str.ofString "aAbBcCdDeEfF").cps.toList) = (c ∈ sgns) := by
  have h : (Str.ofString "aAbBcCdDeEfF").cps.toList = sgns := by decide +kernel
  intro c
  rw [h]
theorem sign_of_at {i : Int} {z : Str} (h0 : 0 ≤ i) (h1 : i < 12) (hz : z = Str.ofString "aAbBcCdDeEfF") : ∃ c, atI z.cps.toList i = some c ∧ c ∈ sgns ∧ (ix c : Int) = i := by
  subst hz
  obtain ⟨c, e, hc, hi⟩ := sgns_at i.toNat (by omega)
  refine ⟨c, ?_, hc, by omega⟩
  have : i = (i.toNat : Int) := by omega
  rw [this]
  exact atI_nat e
theorem el_is {te : TE} {σ : L2.St} {H : Hp} {xs ys : List V} (h : Evl.EvL te σ H xs) (e : xs = ys) : Evl.EvL te σ H ys := e ▸ h
theorem len_S (l : List Nat) : (S l).length = l.length := by simp [S, Str.length]
theorem add_S (l m : List Nat) : S l ++ S m = S (l ++ m) := ext_tl (by rw [tl_append])
theorem joinL_nil : ∀ ps : List (List Nat), joinL [] ps = ps.flatten
  | [] => rfl
  | [p] => by simp [joinL]
  | p :: q :: r => by rw [joinL, joinL_nil (q :: r)]; simp
theorem join_S (a : Str) (ha : tl a = []) (l : List Nat) : Txt.join a (l.map fun c => S [c]) = S l := by
  refine ext_tl ?_
  rw [join_eq, tl_join, ha, joinL_nil]
  show _ = l
  induction l with
  | nil => rfl
  | cons c l ih => simp [tl] at ih ⊢; exact ih
theorem sum_ones (l : List Nat) : ((l.map fun c => S [c]).map (·.length)).sum = l.length := by
  induction l with
  | nil => rfl
  | cons c l ih => simp only [List.map_cons, List.sum_cons, List.length_cons, ih, len_S]; simp; omega
section
open Evl
variable {K : PySem.W.Frag} {σ : L2.St} {H : Hp} {te tl' to : TE} {j : Nat} {vs : List Nat}
/-- "".join([e for sign in text]), each e a sign -/
theorem ev_joinMap {a s : Str} (g : Nat → Nat) (ho : Ev to σ H (.str a)) (ha : tl a = []) (h : Ev tl' σ H (.str s)) (hz : s.length ≤ 40000) (hw : ∀ x, wipe ((wipe σ vs).set j (some x)) vs = wipe σ vs)
    (he : ∀ (c : Nat) H1, Ex H H1 → c ∈ s.cps.toList → Ev te ((wipe σ vs).set j (some (.str ⟨#[c]⟩))) H1 (.str (S [g c]))) :
    Ev (tM1 (rJoinK K) to (tLc (iStr tl') (gName j) tYes te vs)) σ H
      (.str (S (s.cps.toList.map g))) := by
  have e1 : s.cps.toList.map (fun c => V.str (S [g c])) = ((s.cps.toList.map g).map fun c => S [c]).map V.str := by simp [List.map_map, Function.comp]
  have e2 : a.length = 0 := by rw [len_tl, ha]; rfl
  have z : s.cps.toList.length = s.length := rfl
  refine ev_is (ev_join ho (el_is (el_mapS (fun c => .str (S [g c])) h hz hw he) e1) ?_) (by rw [join_S a ha])
  rw [sum_ones, e2, List.length_map, z]
  omega
end
/-- [sign.upper(), sign.lower()][int(sign.isupper())] -/
theorem at_turn {c : Nat} (hc : c ∈ sgns) : atI [V.str (Txt.upper (S [c])), V.str (Txt.lower (S [c]))] (if Txt.isupper (S [c]) then 1 else 0) = some (.str (S [con c])) := by
  rw [up1 c hc, low1 c hc, isup1 c hc]
  unfold con up lo
  by_cases h : c < 97
  · have h2 : ¬ 97 ≤ c := by omega
    rw [if_neg h2, if_neg h2, if_neg h2, decide_eq_true h]
    exact atI1
  · have h2 : 97 ≤ c := by omega
    rw [if_pos h2, if_pos h2, if_pos h2, decide_eq_false h]
    exact atI0
theorem sz_str {l m : List Nat} (h1 : l.length < 40000) (h2 : m.length < 40000) : (S l).length + (S m).length ≤ sizeLine := by
  rw [len_S, len_S]
  exact Nat.le_trans (by omega : _ ≤ 100000) (by decide)
theorem row_snoc {l : List Nat} {c : Nat} (h : Row l) (hc : c ∈ sgns) : Row (l ++ [c]) := fun d hd => by
  rcases List.mem_append.mp hd with q | q
  · exact h d q
  · rw [List.mem_singleton.mp q]; exact hc
theorem all_snoc {P : Nat → Prop} {l : List Nat} {c : Nat} (h : ∀ d ∈ l, P d) (hc : P c) : ∀ d ∈ l ++ [c], P d := fun d hd => by
  rcases List.mem_append.mp hd with q | q
  · exact h d q
  · rw [List.mem_singleton.mp q]; exact hc
theorem at_last {m : List Nat} {d : Nat} : atI (S (m ++ [d])).cps.toList (-(1 : Int)) = some d := by
  show atI (m ++ [d]) (-1) = some d
  unfold atI ixN
  have h : -(((m ++ [d]).length : Nat) : Int) ≤ -1 := by simp; omega
  rw [if_neg (by decide), if_pos h]
  have e : ((-1 : Int) + ((m ++ [d]).length : Nat)).toNat = m.length := by simp; omega
  rw [e]
  simp
theorem cut_S (l : List Nat) (lo hi : Option Int) : cutS (S l) lo hi = S ((l.drop (HT.sIx l.length 0 lo)).take (HT.sIx l.length l.length hi - HT.sIx l.length 0 lo)) := by
  unfold cutS
  rw [len_S]
theorem cut_last {m : List Nat} {d : Nat} : cutS (S (m ++ [d])) none (some (-1)) = S m := by
  rw [cut_S, HT.sIx_none]
  have e : HT.sIx (m ++ [d]).length (m ++ [d]).length (some (-1)) = m.length := by
    show (if (-1 : Int) < 0 then ((-1 : Int) + ((m ++ [d]).length : Nat)).toNat else min (-1 : Int).toNat (m ++ [d]).length) = _
    rw [if_pos (by decide)]
    simp
    omega
  rw [e, List.drop_zero, Nat.sub_zero]
  simp
theorem sz_of' {n : Nat} (h : n ≤ 100000) : n ≤ sizeLine := Nat.le_trans h (by decide)
theorem exists_snoc {α : Type} {m : List α} (h : m ≠ []) : ∃ l d, m = l ++ [d] := ⟨m.dropLast, m.getLast h, (List.dropLast_concat_getLast h).symm⟩
theorem ix_con {c : Nat} (h : c ∈ sgns) : ix (con c) / 2 = ix c / 2 := by
  have : ∀ c ∈ sgns, ix (con c) / 2 = ix c / 2 := by decide
  exact this c h
/-! ### the rank of a row, as data -/
def intsD (xs : List Nat) : List PyData := xs.map fun (c : Nat) => .int (c : Int)
def rankD (l : List Nat) : PyData := .tuple [.int l.length, .list (intsD (l.map ix))]
theorem alike_ints : ∀ xs ys : List Nat, PySem.W.alikeAll (intsD xs) (intsD ys) = true
  | [], _ => by simp [intsD, PySem.W.alikeAll]
  | _ :: _, [] => by simp [intsD, PySem.W.alikeAll]
  | x :: xs, y :: ys => by
    have ih := alike_ints xs ys
    simp only [intsD] at ih ⊢
    simp [PySem.W.alikeAll, PySem.W.alike, ih]
theorem alike_rank (l m : List Nat) : PySem.W.alike (rankD l) (rankD m) = true := by
  simp [rankD, PySem.W.alike, PySem.W.alikeAll, alike_ints]
theorem eqv_int (a b : Int) : PyData.eqv (.int a) (.int b) = decide (a = b) := by
  simp [PyData.eqv]
  by_cases h : a = b <;> simp [h]
theorem lex_ints : ∀ xs ys : List Nat, xs.length = ys.length → PyProof.Rows.lexLt PyProof.Rows.itemOrd (PySem.W.keyToksAll (intsD xs)) (PySem.W.keyToksAll (intsD ys)) = RowM.lexI xs ys
  | [], [], _ => by decide
  | [], _ :: _, h => by simp at h
  | _ :: _, [], h => by simp at h
  | x :: xs, y :: ys, h => by
    have ih := lex_ints xs ys (by simpa using h)
    show PyProof.Rows.lexLt PyProof.Rows.itemOrd (PySem.W.keyToksAll (.int (x : Int) :: intsD xs)) (PySem.W.keyToksAll (.int (y : Int) :: intsD ys)) = _
    by_cases e : x = y
    · rw [PySem.W.dataLt_all_yes rfl (by rw [eqv_int]; simp [e]), ih, RowM.lexI, if_pos e]
    · rw [PySem.W.dataLt_all_no rfl (by rw [eqv_int]; simp; omega), PySem.W.dataLt_int, RowM.lexI, if_neg e]
      congr 1
      simp
theorem eqv_list_len : ∀ xs ys : List Nat, PyData.eqvAll (intsD xs) (intsD ys) = true → xs = ys
  | [], [], _ => rfl
  | [], _ :: _, h => by simp [intsD, PyData.eqvAll] at h
  | _ :: _, [], h => by simp [intsD, PyData.eqvAll] at h
  | x :: xs, y :: ys, h => by
    have h2 : PyData.eqvAll (.int (x : Int) :: intsD xs) (.int (y : Int) :: intsD ys) = true := h
    rw [PySem.W.eqv_all_cons, Bool.and_eq_true, eqv_int] at h2
    have := eqv_list_len xs ys h2.2
    have e := of_decide_eq_true h2.1
    rw [this]
    congr 1
    omega
theorem lt_rank {l m : List Nat} : PySem.W.dataLt (rankD l) (rankD m) = RowM.before l m := by
  unfold rankD
  rw [PySem.W.dataLt_tuple]
  unfold RowM.before
  by_cases e : l.length = m.length
  · rw [if_pos e, PySem.W.dataLt_all_yes rfl (by rw [eqv_int]; simp [e])]
    by_cases q : PyData.eqv (.list (intsD (l.map ix))) (.list (intsD (m.map ix))) = true
    · rw [PySem.W.dataLt_all_yes (by rw [PySem.W.alike]; exact alike_ints _ _) q]
      have : l.map ix = m.map ix := eqv_list_len _ _ (by simpa [PyData.eqv] using q)
      rw [this]
      have z : ∀ n : List Nat, RowM.lexI n n = false := by
        intro n
        induction n with
        | nil => rfl
        | cons a n ih => simp [RowM.lexI, ih]
      rw [z]
      decide
    · rw [PySem.W.dataLt_all_no (by rw [PySem.W.alike]; exact alike_ints _ _) (by simpa using q), PySem.W.dataLt_list, lex_ints _ _ (by simpa using e)]
  · rw [if_neg e, PySem.W.dataLt_all_no rfl (by rw [eqv_int]; simp; omega), PySem.W.dataLt_int]
    congr 1
    simp
section
variable {K : PySem.W.Frag} {H : Hp}
theorem dp_ints : ∀ xs : List Nat, DpAll K H (xs.map fun (c : Nat) => V.int (c : Int)) (intsD xs)
  | [] => .nil
  | x :: xs => .cons (.int _) (dp_ints xs)
theorem dp_rank {t q : Addr} {l : List Nat} (ht : H t = some (.tup [.int l.length, .ref q])) (hq : H q = some (.lst (l.map fun c => V.int (ix c : Nat)))) : Dp K H (.ref t) (rankD l) :=
  .tup (SqT.of ht) (.cons (.int _) (.cons (.lst (SqL.of hq) (by
    have := dp_ints (K := K) (H := H) (l.map ix)
    rw [List.map_map] at this
    exact this)) .nil))
end
theorem depth_ints : ∀ xs : List Nat, PyData.depthAll (intsD xs) = 0
  | [] => rfl
  | x :: xs => by
    have := depth_ints xs
    simp only [intsD, List.map_cons, PyData.depthAll, PyData.depth] at this ⊢
    omega
theorem depth_rank (l : List Nat) : (rankD l).depth ≤ 60 := by
  simp [rankD, PyData.depth, PyData.depthAll, depth_ints]
def isRow (l : List Nat) : Bool := decide (l.length ≤ 60) && l.all fun c => decide (c ∈ sgns)
theorem isRow_iff {l : List Nat} : isRow l = true ↔ l.length ≤ 60 ∧ Row l := by
  simp [isRow, RowM.Row]
theorem turns_ok (x t : Int) (h : 1 ≤ t) : 1 ≤ (if (if t < x then t else x) > 1 then (if t < x then t else x) else 1) ∧ (if (if t < x then t else x) > 1 then (if t < x then t else x) else 1) ≤ t := by
  by_cases a : t < x
  · rw [if_pos a]
    by_cases b : t > 1
    · rw [if_pos b]; omega
    · rw [if_neg b]; omega
  · rw [if_neg a]
    by_cases b : x > 1
    · rw [if_pos b]; omega
    · rw [if_neg b]; omega
theorem at2 {α : Type} {a b : α} {v : Int} (h0 : 0 ≤ v) (h1 : v < 2) : ∃ x, atI [a, b] v = some x ∧ (x = a ∨ x = b) := by
  have : v = 0 ∨ v = 1 := by omega
  rcases this with rfl | rfl
  · exact ⟨a, atI0, .inl rfl⟩
  · exact ⟨b, atI1, .inr rfl⟩
theorem cut_to {l : List Nat} {k : Nat} (h : k ≤ l.length) : cutS (S l) none (some (k : Int)) = S (l.take k) := by
  rw [cut_S, HT.sIx_none, HT.sIx_nat, Nat.min_eq_left h, List.drop_zero, Nat.sub_zero]
theorem cut_from {l : List Nat} {k : Nat} : cutS (S l) (some (k : Int)) none = S (l.drop k) := by
  rw [cut_S, HT.sIx_none, HT.sIx_nat]
  congr 1
  by_cases h : k ≤ l.length
  · rw [Nat.min_eq_left h]
    have : (l.drop k).length = l.length - k := List.length_drop ..
    rw [← this, List.take_length]
  · have h2 : l.length ≤ k := by omega
    rw [Nat.min_eq_right h2, List.drop_eq_nil_of_le h2, Nat.sub_self, List.take_zero]
theorem str_dec {c d : Nat} : decide (V.str (S [c]) = V.str (S [d])) = decide (c = d) := by
  apply decide_eq_decide.mpr
  constructor
  · intro h
    have h1 := congrArg (fun v => match v with | V.str z => z.cps.toList | _ => []) h
    simpa using h1
  · intro h; rw [h]
theorem row_sub {l m : List Nat} (h : Row l) (s : ∀ c ∈ m, c ∈ l) : Row m := fun c hc => h c (s c hc)
theorem row_app {l m : List Nat} (h : Row l) (h2 : Row m) : Row (l ++ m) := fun c hc => by
  rcases List.mem_append.mp hc with q | q
  · exact h c q
  · exact h2 c q
theorem at2of3 {α : Type} {a b c : α} {l : List α} : atI (a :: b :: c :: l) 2 = some c := atI_nat (xs := a :: b :: c :: l) (j := 2) rfl
theorem at3 {α : Type} {a b c : α} {v : Int} (h0 : 0 ≤ v) (h1 : v < 3) : ∃ x, atI [a, b, c] v = some x ∧ (x = a ∨ x = b ∨ x = c) := by
  have : v = 0 ∨ v = 1 ∨ v = 2 := by omega
  rcases this with rfl | rfl | rfl
  · exact ⟨a, atI0, .inl rfl⟩
  · exact ⟨b, atI1, .inr (.inl rfl)⟩
  · exact ⟨c, at2of3, .inr (.inr rfl)⟩
theorem at4 {α : Type} {a b c d : α} {v : Int} (h0 : 0 ≤ v) (h1 : v < 4) : ∃ x, atI [a, b, c, d] v = some x ∧ (x = a ∨ x = b ∨ x = c ∨ x = d) := by
  have : v = 0 ∨ v = 1 ∨ v = 2 ∨ v = 3 := by omega
  rcases this with rfl | rfl | rfl | rfl
  · exact ⟨a, atI0, .inl rfl⟩
  · exact ⟨b, atI1, .inr (.inl rfl)⟩
  · exact ⟨c, at2of3, .inr (.inr (.inl rfl))⟩
  · exact ⟨d, atI_nat (xs := [a, b, c, d]) (j := 3) rfl, .inr (.inr (.inr rfl))⟩
theorem Pool.ne {H : Hp} {p d : Addr} (h : Pool H p) (hd : H d = none) : p ≠ d := fun e => by
  obtain ⟨_, _, q, _⟩ := h
  rw [e, hd] at q
  cases q
theorem Pool.new {H : Hp} {p d : Addr} {o : HO} (h : Pool H p) (hd : H d = none) : Pool (upd H d o) p := h.same (Same.new hd)
/-- what stood ahead of the pool stands -/
theorem Off.same {H0 H H' : Hp} {p : Addr} (hp : H0 p = none) (s : Same H0 H) (o : Off p H H') : Same H0 H' := fun b u e => o b u (fun q => by rw [q, hp] at e; cases e) (s b u e)
/-! ### things of any kind -/
def NotStr (H : Hp) (x : V) : Prop := x = .non ∨ (∃ i, x = .int i) ∨ (∃ b, x = .bl b) ∨ ∃ a, x = .ref a ∧ ((∃ xs, H a = some (.lst xs)) ∨ (∃ xs, H a = some (.tup xs)) ∨ ∃ kvs, H a = some (.dK kvs))
theorem NotStr.same {H H' : Hp} {x : V} (h : NotStr H x) (s : Same H H') : NotStr H' x := by
  rcases h with h | h | h | ⟨a, e, ⟨xs, h⟩ | ⟨xs, h⟩ | ⟨xs, h⟩⟩
  · exact .inl h
  · exact .inr (.inl h)
  · exact .inr (.inr (.inl h))
  · exact .inr (.inr (.inr ⟨a, e, .inl ⟨xs, s _ _ h⟩⟩))
  · exact .inr (.inr (.inr ⟨a, e, .inr (.inl ⟨xs, s _ _ h⟩)⟩))
  · exact .inr (.inr (.inr ⟨a, e, .inr (.inr ⟨xs, s _ _ h⟩)⟩))
theorem NotStr.ty {K : PySem.W.Frag} {H : Hp} {x : V} (h : NotStr H x) : ∃ t : String, TyX K H x (.type t) ∧ kitB t "str" = some false := by
  rcases h with rfl | ⟨i, rfl⟩ | ⟨b, rfl⟩ | ⟨a, rfl, ⟨xs, h⟩ | ⟨xs, h⟩ | ⟨xs, h⟩⟩
  · exact ⟨_, .base .non, by decide +kernel⟩
  · exact ⟨_, .base (.int _), by decide +kernel⟩
  · exact ⟨_, .base (.bl _), by decide +kernel⟩
  · exact ⟨_, .base (.lst h), by decide +kernel⟩
  · exact ⟨_, .base (.tup h), by decide +kernel⟩
  · exact ⟨_, .base (.dK h), by decide +kernel⟩
/-- whether x is a text of at most so many of the twelve signs -/
def IsRowW (H : Hp) (x : V) (most : Int) (r : Bool) : Prop := (∃ l : List Nat, x = .str (S l) ∧ l.length ≤ 40000 ∧ r = (decide ((l.length : Int) ≤ most) && l.all fun c => decide (c ∈ sgns))) ∨ (NotStr H x ∧ r = false)
def IsRowV (H : Hp) (x : V) (r : Bool) : Prop := (∃ l : List Nat, x = .str (S l) ∧ l.length ≤ 40000 ∧ r = isRow l) ∨ (NotStr H x ∧ r = false)
theorem IsRowV.same {H H' : Hp} {x : V} {r : Bool} (h : IsRowV H x r) (s : Same H H') : IsRowV H' x r := by
  rcases h with h | ⟨h, e⟩
  · exact .inl h
  · exact .inr ⟨h.same s, e⟩
theorem IsRowV.w {H : Hp} {x : V} {r : Bool} (h : IsRowV H x r) : IsRowW H x 60 r := by
  rcases h with ⟨l, e, z, q⟩ | h
  · refine .inl ⟨l, e, z, ?_⟩
    rw [q]
    unfold isRow
    have z : decide ((l.length : Int) ≤ 60) = decide (l.length ≤ 60) := decide_eq_decide.mpr (by omega)
    rw [z]
  · exact .inr h
theorem Off.mut {p D : Addr} {H H' : Hp} {o : HO} (a : Off p H H') (hD : H D = none) : Off p H (L2.upd H' D o) := fun b u n h => by
  rw [L2.upd_ne (ne_of_none h hD)]
  exact a b u n h
theorem str_at {z : Str} {u : Int} (h0 : 0 ≤ u) (h1 : u < (z.length : Int)) : ∃ c, atI z.cps.toList u = some c ∧ c ∈ z.cps.toList := by
  obtain ⟨n, rfl⟩ : ∃ n : Nat, u = (n : Int) := ⟨u.toNat, by omega⟩
  have h2 : n < z.cps.toList.length := by
    have : z.cps.toList.length = z.length := rfl
    omega
  exact ⟨z.cps.toList[n], atI_nat (List.getElem?_eq_getElem h2), List.getElem_mem _⟩
/-! ### the ten things that are no texts -/
def oddL (t1 l1 d1 l2 t2 l3 : Addr) : List V := [.non, .int 0, .bl true, .ref t1, .ref l1, .ref d1, .ref l2, .ref t2, .ref l3, .int ((10 : Int) ^ (30 : Int).toNat)]
def oddH (H : Hp) (t1 l1 d1 l2 t2 l3 O : Addr) : Hp := upd (upd (upd (upd (upd (upd (upd H t1 (.tup [])) l1 (.lst [])) d1 (.dK [])) l2 (.lst [.str (Str.ofString "a")])) t2 (.tup [.str (Str.ofString "a")])) l3 (.lst [.str (Str.ofString "a"), .str (Str.ofString "b")])) O (.lst (oddL t1 l1 d1 l2 t2 l3))
theorem oddH_ok {H H1 H2 H3 H4 H5 H6 : Hp} {t1 l1 d1 l2 t2 l3 O : Addr} (e1 : H1 = upd H t1 (.tup [])) (e2 : H2 = upd H1 l1 (.lst [])) (e3 : H3 = upd H2 d1 (.dK [])) (e4 : H4 = upd H3 l2 (.lst [.str (Str.ofString "a")])) (e5 : H5 = upd H4 t2 (.tup [.str (Str.ofString "a")])) (e6 : H6 = upd H5 l3 (.lst [.str (Str.ofString "a"), .str (Str.ofString "b")]))
    (n1 : H t1 = none) (n2 : H1 l1 = none) (n3 : H2 d1 = none) (n4 : H3 l2 = none) (n5 : H4 t2 = none) (n6 : H5 l3 = none) (n7 : H6 O = none) :
    Same H (oddH H t1 l1 d1 l2 t2 l3 O) ∧ oddH H t1 l1 d1 l2 t2 l3 O O = some (.lst (oddL t1 l1 d1 l2 t2 l3)) ∧ ∀ x ∈ oddL t1 l1 d1 l2 t2 l3, NotStr (oddH H t1 l1 d1 l2 t2 l3 O) x := by
  have eH : oddH H t1 l1 d1 l2 t2 l3 O = upd H6 O (.lst (oddL t1 l1 d1 l2 t2 l3)) := by rw [e6, e5, e4, e3, e2, e1]; rfl
  rw [eH]
  have s6 : Same H6 (upd H6 O (.lst (oddL t1 l1 d1 l2 t2 l3))) := Same.new n7
  have s5 : Same H5 _ := Same.trans (e6 ▸ Same.new n6) s6
  have s4 : Same H4 _ := Same.trans (e5 ▸ Same.new n5) s5
  have s3 : Same H3 _ := Same.trans (e4 ▸ Same.new n4) s4
  have s2 : Same H2 _ := Same.trans (e3 ▸ Same.new n3) s3
  have s1 : Same H1 _ := Same.trans (e2 ▸ Same.new n2) s2
  have s0 : Same H _ := Same.trans (e1 ▸ Same.new n1) s1
  refine ⟨s0, upd_same, fun x hx => ?_⟩
  simp only [oddL, List.mem_cons, List.not_mem_nil, or_false] at hx
  rcases hx with rfl | rfl | rfl | rfl | rfl | rfl | rfl | rfl | rfl | rfl
  · exact .inl rfl
  · exact .inr (.inl ⟨_, rfl⟩)
  · exact .inr (.inr (.inl ⟨_, rfl⟩))
  · exact .inr (.inr (.inr ⟨_, rfl, .inr (.inl ⟨_, s1 _ _ (by rw [e1]; exact upd_same)⟩)⟩))
  · exact .inr (.inr (.inr ⟨_, rfl, .inl ⟨_, s2 _ _ (by rw [e2]; exact upd_same)⟩⟩))
  · exact .inr (.inr (.inr ⟨_, rfl, .inr (.inr ⟨_, s3 _ _ (by rw [e3]; exact upd_same)⟩)⟩))
  · exact .inr (.inr (.inr ⟨_, rfl, .inl ⟨_, s4 _ _ (by rw [e4]; exact upd_same)⟩⟩))
  · exact .inr (.inr (.inr ⟨_, rfl, .inr (.inl ⟨_, s5 _ _ (by rw [e5]; exact upd_same)⟩)⟩))
  · exact .inr (.inr (.inr ⟨_, rfl, .inl ⟨_, s6 _ _ (by rw [e6]; exact upd_same)⟩⟩))
  · exact .inr (.inl ⟨_, rfl⟩)
/-- a sign among the twelve, in a list of them -/
theorem inV_signs (c : Nat) : inV (V.str (S [c])) ((Str.ofString "aAbBcCdDeEfF").cps.toList.map fun d => V.str ⟨#[d]⟩) = decide (c ∈ sgns) := by
  have h : (Str.ofString "aAbBcCdDeEfF").cps.toList = sgns := by decide +kernel
  rw [h]
  unfold inV
  rw [List.any_map]
  have e : ∀ d : Nat, eqV (V.str ⟨#[d]⟩) (V.str (S [c])) = decide (d = c) := fun d => by
    show ((⟨#[d]⟩ : Str) == S [c]) = decide (d = c)
    by_cases q : d = c
    · subst q; simp
    · rw [decide_eq_false q]
      apply beq_eq_false_iff_ne.mpr
      intro z
      have := congrArg (fun z : Str => z.cps.toList) z
      simp at this
      exact q this
  rw [show (sgns.any ((fun y => eqV y (V.str (S [c]))) ∘ fun d => V.str ⟨#[d]⟩)) = sgns.any fun d => decide (d = c) from by congr 1; funext d; exact e d]
  by_cases q : c ∈ sgns
  · rw [decide_eq_true q]
    exact List.any_eq_true.mpr ⟨c, q, by simp⟩
  · rw [decide_eq_false q]
    exact List.any_eq_false.mpr fun d hd => by simp; intro z; subst z; exact q hd
theorem dp_strs {K : PySem.W.Frag} {H : Hp} : ∀ zs : List Str, DpAll K H (zs.map V.str) (zs.map PyData.str)
  | [] => .nil
  | z :: zs => .cons (.str z) (dp_strs zs)
theorem eqv_nil : ∀ ds : List PyData, PyData.eqv (.list ds) (.list []) = ds.isEmpty
  | [] => by simp [PyData.eqv, PyData.eqvAll]
  | _ :: _ => by simp [PyData.eqv, PyData.eqvAll]
/-- a list of code points that a text may hold -/
def Chs (l : List Nat) : Prop := ∀ c ∈ l, c < 1114112
theorem chs_in {l m : List Nat} (h : ∀ c ∈ l, c ∈ m) (g : (m.all fun c => decide (c < 1114112)) = true) : Chs l := fun c hc => of_decide_eq_true (List.all_eq_true.mp g c (h c hc))
theorem chs_sgns : (sgns.all fun c => decide (c < 1114112)) = true := by decide
theorem Chs.app {l m : List Nat} (a : Chs l) (b : Chs m) : Chs (l ++ m) := fun c h => by
  rcases List.mem_append.mp h with h | h
  · exact a c h
  · exact b c h
theorem shaped_strs (zs : List Str) (hz : zs.all PyData.strOk = true) : SeqAt.shaped (.list (zs.map PyData.str)) = true := by
  have h1 : PyData.canLayAll0 (zs.map PyData.str) = true := by
    induction zs with
    | nil => rfl
    | cons z zs ih =>
      simp only [List.all_cons, Bool.and_eq_true] at hz
      simp [PyData.canLayAll0, PyData.canLay0, hz.1, ih hz.2]
  have h2 : ∀ zs : List Str, PyData.depthAll (zs.map PyData.str) = 0 := by
    intro zs
    induction zs with
    | nil => rfl
    | cons z zs ih => simp [PyData.depthAll, PyData.depth, ih]
  simp [SeqAt.shaped, PyData.canLay0, h1, PyData.depth, h2]
/-- the signs of a text that are none of the twelve -/
def strays (l : List Nat) : List Str := ((List.range l.length).filter fun i => !decide (l.getD i 0 ∈ sgns)).map fun i => S [l.getD i 0]
theorem given_strays (l : List Nat) : Evl.given l.length (fun i => !decide (l.getD i 0 ∈ sgns)) (fun i => V.str (S [l.getD i 0])) = (strays l).map V.str := by
  unfold Evl.given strays
  rw [List.map_map]
  rfl
theorem getD_mem {l : List Nat} {i : Nat} (h : i < l.length) : l.getD i 0 ∈ l := by
  rw [List.getD_eq_getElem?_getD, List.getElem?_eq_getElem h]
  exact List.getElem_mem _
theorem strays_ok {l : List Nat} (h : Chs l) : (strays l).all PyData.strOk = true := by
  refine List.all_eq_true.mpr fun z hz => ?_
  unfold strays at hz
  obtain ⟨i, hi, rfl⟩ := List.mem_map.mp hz
  have hi := (List.mem_filter.mp hi).1
  have := h _ (getD_mem (List.mem_range.mp hi))
  simp [PyData.strOk]
  simpa using this
theorem strays_none (l : List Nat) : (strays l).isEmpty = l.all fun c => decide (c ∈ sgns) := by
  by_cases h : ∀ c ∈ l, c ∈ sgns
  · have e : strays l = [] := by
      unfold strays
      rw [List.map_eq_nil_iff, List.filter_eq_nil_iff]
      intro i hi
      have := h _ (getD_mem (List.mem_range.mp hi))
      simpa using this
    rw [e, List.all_eq_true.mpr fun c hc => decide_eq_true (h c hc)]
    rfl
  · rw [show (l.all fun c => decide (c ∈ sgns)) = false from by
      cases q : l.all fun c => decide (c ∈ sgns)
      · rfl
      · exact absurd (fun c hc => of_decide_eq_true (List.all_eq_true.mp q c hc)) h]
    cases q : (strays l).isEmpty
    · rfl
    · refine absurd (fun c hc => ?_) h
      obtain ⟨i, hi, e⟩ := List.getElem_of_mem hc
      have z := List.isEmpty_iff.mp q
      unfold strays at z
      rw [List.map_eq_nil_iff, List.filter_eq_nil_iff] at z
      have := z i (List.mem_range.mpr hi)
      rw [List.getD_eq_getElem?_getD, List.getElem?_eq_getElem hi] at this
      simpa [e] using this
/-! ### lists of tuples of flat things -/
structure TL {α : Type} (H : Hp) (val : α → List V) (ts : List Addr) (xs : List α) : Prop where
  len : ts.length = xs.length
  get : ∀ (i : Nat) (t : Addr), ts[i]? = some t → ∃ x, xs[i]? = some x ∧ H t = some (.tup (val x))
section
variable {α : Type} {val : α → List V} {H H' : Hp} {ts : List Addr} {xs : List α}
theorem TL.nil : TL H val [] [] := ⟨rfl, fun i t h => by simp at h⟩
theorem TL.mono (h : TL H val ts xs) (s : Same H H') : TL H' val ts xs := ⟨h.len, fun i t hi => let ⟨x, a, b⟩ := h.get i t hi; ⟨x, a, s _ _ b⟩⟩
/-- one tuple more -/
theorem TL.more {D u : Addr} {x : α} (hD : H D = some (.lst (ts.map V.ref))) (tl : TL H val ts xs) (hu : H u = none) :
    (upd (upd H u (.tup (val x))) D (.lst (ts.map V.ref ++ [.ref u]))) D = some (.lst ((ts ++ [u]).map V.ref)) ∧ TL (upd (upd H u (.tup (val x))) D (.lst (ts.map V.ref ++ [.ref u]))) val (ts ++ [u]) (xs ++ [x]) := by
  have nD : D ≠ u := ne_of_none hD hu
  refine ⟨by rw [upd_same, List.map_append]; rfl, by simp [tl.len], fun i t hi => ?_⟩
  have hl := tl.len
  by_cases q : i < ts.length
  · rw [List.getElem?_append_left q] at hi
    rw [List.getElem?_append_left (by omega)]
    obtain ⟨y, h1, h2⟩ := tl.get i t hi
    refine ⟨y, h1, ?_⟩
    rw [upd_ne (fun e => by rw [e, hD] at h2; cases h2), upd_ne (ne_of_none h2 hu)]
    exact h2
  · have il : i < ts.length + 1 := by
      have := (List.getElem?_eq_some_iff.mp hi).1
      simpa using this
    have ei : i = ts.length := by omega
    subst ei
    rw [List.getElem?_append_right (Nat.le_refl _), Nat.sub_self] at hi
    injection hi with hi
    subst hi
    refine ⟨x, by rw [List.getElem?_append_right (by omega), hl]; simp, ?_⟩
    rw [upd_ne nD.symm]
    exact upd_same
theorem TL.mem (h : TL H val ts xs) {t : Addr} {x : α} (m : (t, x) ∈ ts.zip xs) : H t = some (.tup (val x)) := by
  obtain ⟨i, hi⟩ := List.mem_iff_getElem?.mp m
  rw [List.getElem?_zip_eq_some] at hi
  obtain ⟨y, hy, e⟩ := h.get i t hi.1
  rw [hi.2] at hy
  injection hy with hy
  subst hy
  exact e
end
theorem samE_more {H1 H : Hp} {D u : Addr} {o o' : HO} (s : Same H1 H) (nD : H1 D = none) (hu : H u = none) : Same H1 (upd (upd H u o) D o') := fun b x hb => by
  have := s _ _ hb
  rw [upd_ne (ne_of_none hb nD), upd_ne (ne_of_none this hu)]
  exact this
/-- a flat thing as data -/
def flD : V → PyData
  | .int i => .int i
  | .str s => .str s
  | .bl b => .bool b
  | _ => .none
def FlV : V → Prop
  | .int _ => True
  | .str _ => True
  | .bl _ => True
  | .non => True
  | _ => False
theorem FlV.dp {K : PySem.W.Frag} {H : Hp} : ∀ {v : V}, FlV v → Dp K H v (flD v)
  | .int _, _ => .int _
  | .str _, _ => .str _
  | .bl _, _ => .bl _
  | .non, _ => .non
theorem fl_dpall {K : PySem.W.Frag} {H : Hp} : ∀ {vs : List V}, (∀ v ∈ vs, FlV v) → DpAll K H vs (vs.map flD)
  | [], _ => .nil
  | v :: vs, h => .cons (FlV.dp (h v List.mem_cons_self)) (fl_dpall fun u hu => h u (List.mem_cons_of_mem _ hu))
def tupD {α : Type} (val : α → List V) (x : α) : PyData := .tuple ((val x).map flD)
theorem zip_fst' {β γ : Type} : ∀ (us : List β) (ps : List γ), us.length = ps.length → (us.zip ps).map (·.1) = us
  | [], [], _ => rfl
  | [], _ :: _, h => by simp at h
  | _ :: _, [], h => by simp at h
  | u :: us, p :: ps, h => by simp only [List.zip_cons_cons, List.map_cons, zip_fst' us ps (by simpa using h)]
theorem zip_snd' {β γ : Type} : ∀ (us : List β) (ps : List γ), us.length = ps.length → (us.zip ps).map (·.2) = ps
  | [], [], _ => rfl
  | [], _ :: _, h => by simp at h
  | _ :: _, [], h => by simp at h
  | u :: us, p :: ps, h => by simp only [List.zip_cons_cons, List.map_cons, zip_snd' us ps (by simpa using h)]
theorem dpall_pairs {K : PySem.W.Frag} {H : Hp} : ∀ {bs : List (V × PyData)}, (∀ b ∈ bs, Dp K H b.1 b.2) → DpAll K H (bs.map (·.1)) (bs.map (·.2))
  | [], _ => .nil
  | b :: bs, h => .cons (h b List.mem_cons_self) (dpall_pairs fun c hc => h c (List.mem_cons_of_mem _ hc))
section
variable {α : Type} {val : α → List V} {K : PySem.W.Frag} {H H' : Hp} {ts : List Addr} {xs : List α}
def itm (val : α → List V) (c : Addr × α) : V × PyData := (.ref c.1, tupD val c.2)
theorem TL.dp1 (h : TL H val ts xs) (fl : ∀ x, ∀ v ∈ val x, FlV v) : ∀ b ∈ (ts.zip xs).map (itm val), Dp K H b.1 b.2 := fun b hb => by
  obtain ⟨c, hc, rfl⟩ := List.mem_map.mp hb
  exact .tup (Evl.st_of (h.mem hc)) (fl_dpall (fl c.2))
theorem itm_fst (h : ts.length = xs.length) : ((ts.zip xs).map (itm val)).map (·.1) = ts.map V.ref := by
  rw [List.map_map]
  have : ((·.1) ∘ itm val : Addr × α → V) = V.ref ∘ (·.1) := rfl
  rw [this, ← List.map_map, zip_fst' _ _ h]
theorem itm_snd (h : ts.length = xs.length) : ((ts.zip xs).map (itm val)).map (·.2) = xs.map (tupD val) := by
  rw [List.map_map]
  have : ((·.2) ∘ itm val : Addr × α → PyData) = tupD val ∘ (·.2) := rfl
  rw [this, ← List.map_map, zip_snd' _ _ h]
theorem TL.dp (h : TL H val ts xs) (fl : ∀ x, ∀ v ∈ val x, FlV v) : DpAll K H (ts.map V.ref) (xs.map (tupD val)) := by
  have := dpall_pairs (K := K) (h.dp1 fl)
  rwa [itm_fst h.len, itm_snd h.len] at this
end
/-! ### what is no whole number, of anything -/
def NInt (H : Hp) (x : V) : Prop := x = .non ∨ (∃ b, x = .bl b) ∨ (∃ s, x = .str s) ∨ ∃ a, x = .ref a ∧ ((∃ xs, H a = some (.lst xs)) ∨ (∃ xs, H a = some (.tup xs)) ∨ ∃ kvs, H a = some (.dK kvs))
theorem NInt.same {H H' : Hp} {x : V} (h : NInt H x) (s : Same H H') : NInt H' x := by
  rcases h with h | h | h | ⟨a, e, ⟨xs, h⟩ | ⟨xs, h⟩ | ⟨xs, h⟩⟩
  · exact .inl h
  · exact .inr (.inl h)
  · exact .inr (.inr (.inl h))
  · exact .inr (.inr (.inr ⟨a, e, .inl ⟨xs, s _ _ h⟩⟩))
  · exact .inr (.inr (.inr ⟨a, e, .inr (.inl ⟨xs, s _ _ h⟩)⟩))
  · exact .inr (.inr (.inr ⟨a, e, .inr (.inr ⟨xs, s _ _ h⟩)⟩))
theorem NInt.ty {K : PySem.W.Frag} {H : Hp} {x : V} (h : NInt H x) : ∃ t : String, TyX K H x (.type t) ∧ ((kitB t "int" = some false) ∨ (kitB t "int" = some true ∧ kitB t "bool" = some true)) := by
  rcases h with rfl | ⟨b, rfl⟩ | ⟨s, rfl⟩ | ⟨a, rfl, ⟨xs, h⟩ | ⟨xs, h⟩ | ⟨xs, h⟩⟩
  · exact ⟨_, .base .non, .inl (by decide +kernel)⟩
  · exact ⟨_, .base (.bl _), .inr ⟨by decide +kernel, by decide +kernel⟩⟩
  · exact ⟨_, .base (.str _), .inl (by decide +kernel)⟩
  · exact ⟨_, .base (.lst h), .inl (by decide +kernel)⟩
  · exact ⟨_, .base (.tup h), .inl (by decide +kernel)⟩
  · exact ⟨_, .base (.dK h), .inl (by decide +kernel)⟩
def IntW (H : Hp) (x : V) (r : Bool) : Prop := (∃ i : Int, x = .int i ∧ r = true) ∨ (NInt H x ∧ r = false)
/-- a thing of a world of n, or none -/
def ThW (H : Hp) (n : Nat) (x : V) (r : Bool) : Prop := (∃ i : Int, x = .int i ∧ r = decide (0 ≤ i ∧ i < n)) ∨ (NInt H x ∧ r = false)
theorem ThW.same {H H' : Hp} {n : Nat} {x : V} {r : Bool} (h : ThW H n x r) (s : Same H H') : ThW H' n x r := h.imp id fun h => ⟨h.1.same s, h.2⟩
/-- an exception with one field, made -/
theorem madeF {H : Hp} {a C : Addr} {f : Str} {v : V} {E : XK} (ha : H a = none) (k : ∀ (d : Addr) (H' : Hp), Same H H' → H' d = some (.xd [(f, v)]) → E (.ref C) (some d) H') (d : Addr) (hd : (upd H a (exo a C none)) d = none) (ne : d ≠ a) :
    V.non = .non ∧ ∃ (d' : Addr) (fs : List (Str × V)), (upd (upd (upd (upd H a (exo a C none)) d (exd d [])) a (exo a C (some d))) d (exd d [(f, v)])) a = some (exo a C (some d')) ∧ (upd (upd (upd (upd H a (exo a C none)) d (exd d [])) a (exo a C (some d))) d (exd d [(f, v)])) d' = some (exd d' fs) ∧
      H d' = none ∧ E (.ref C) (some d') (upd (del (upd (upd (upd (upd H a (exo a C none)) d (exd d [])) a (exo a C (some d))) d (exd d [(f, v)])) a) d' (.xd fs)) := by
  have h0 : H d = none := by rw [upd_ne ne] at hd; exact hd
  refine ⟨rfl, d, [(f, v)], by rw [upd_ne ne.symm, upd_same], upd_same, h0, ?_⟩
  rw [fresh_xd ha ne]
  exact k d _ (Same.new h0) upd_same
/-! ### steps of long rows -/
inductive StepD where
  | less (at_ many : Nat)
  | more (at_ many : Nat)
  | past (at_ many more : Nat)
deriving DecidableEq
namespace StepD
def vals : StepD → List V
  | .less a m => [.str (Str.ofString "less"), .int (a : Int), .int (m : Int)]
  | .more a m => [.str (Str.ofString "more"), .int (a : Int), .int (m : Int)]
  | .past a m k => [.str (Str.ofString "past"), .int (a : Int), .int (m : Int), .int (k : Int)]
def ok : StepD → Prop
  | .less _ m => 1 ≤ m ∧ 0 ≤ m
  | .more _ m => 1 ≤ m ∧ 0 ≤ m
  | .past _ m k => (1 ≤ m ∧ 0 ≤ m) ∧ 1 ≤ k ∧ 0 ≤ k
def at_ : StepD → Nat
  | .less a _ => a
  | .more a _ => a
  | .past a _ _ => a
end StepD
def partR (t : List Nat) (a m : Nat) : Option (List Nat) := if ((t.drop a).take m).length = m then some ((t.drop a).take m) else none
theorem partR_some {t p : List Nat} {a m : Nat} (h : partR t a m = some p) : p.length = m ∧ p = (t.drop a).take m := by
  unfold partR at h
  split at h
  · injection h with h
    subst h
    exact ⟨by assumption, rfl⟩
  · cases h
def lessR (t : List Nat) (a m : Nat) : Option (List Nat) := (partR t a m).bind fun p => if (t.drop (a + m)).take (2 * m) = RowM.turn p ++ p then some (t.take (a + m) ++ t.drop (a + 3 * m)) else none
def moreR (t : List Nat) (a m : Nat) : Option (List Nat) := (partR t a m).bind fun p => some (t.take (a + m) ++ RowM.turn p ++ p ++ t.drop (a + m))
def pastR (t : List Nat) (a m k : Nat) : Option (List Nat) := (partR t a m).bind fun p => (partR t (a + 2 * m) k).bind fun q =>
  if (t.drop a).take (2 * m + 2 * k) = p ++ RowM.turn p ++ (q ++ RowM.turn q) then some (t.take a ++ (q ++ RowM.turn q) ++ (p ++ RowM.turn p) ++ t.drop (a + 2 * m + 2 * k)) else none
/-- what comes of a step -/
def doR (t : List Nat) : StepD → Option (List Nat)
  | .less a m => lessR t a m
  | .more a m => moreR t a m
  | .past a m k => pastR t a m k
def doLR : List Nat → List StepD → Option (List Nat)
  | t, [] => some t
  | t, s :: r => (doR t s).bind fun u => doLR u r
theorem row_mid {t : List Nat} (h : Row t) (a m : Nat) : Row ((t.drop a).take m) := fun c hc => h c (List.mem_of_mem_drop (List.mem_of_mem_take hc))
theorem row_part {t p : List Nat} {a m : Nat} (h : Row t) (e : partR t a m = some p) : Row p := (partR_some e).2 ▸ row_mid h a m
theorem row_pre {t : List Nat} (h : Row t) (a : Nat) : Row (t.take a) := fun c hc => h c (List.mem_of_mem_take hc)
theorem row_suf {t : List Nat} (h : Row t) (a : Nat) : Row (t.drop a) := fun c hc => h c (List.mem_of_mem_drop hc)
theorem doR_row {t u : List Nat} (h : Row t) : ∀ {s : StepD}, doR t s = some u → Row u
  | .less a m, e => by
    obtain ⟨p, hp, e⟩ := Option.bind_eq_some_iff.mp (show (partR t a m).bind _ = some u from e)
    split at e
    · injection e with e
      subst e
      exact row_app (row_pre h _) (row_suf h _)
    · cases e
  | .more a m, e => by
    obtain ⟨p, hp, e⟩ := Option.bind_eq_some_iff.mp (show (partR t a m).bind _ = some u from e)
    injection e with e
    subst e
    have rp := row_part h hp
    exact row_app (row_app (row_app (row_pre h _) (RowM.turn_row rp)) rp) (row_suf h _)
  | .past a m k, e => by
    obtain ⟨p, hp, e⟩ := Option.bind_eq_some_iff.mp (show (partR t a m).bind _ = some u from e)
    obtain ⟨q, hq, e⟩ := Option.bind_eq_some_iff.mp e
    split at e
    · injection e with e
      subst e
      have rp := row_part h hp
      have rq := row_part h hq
      exact row_app (row_app (row_app (row_pre h _) (row_app rq (RowM.turn_row rq))) (row_app rp (RowM.turn_row rp))) (row_suf h _)
    · cases e
theorem part_room {t p : List Nat} {a m : Nat} (e : partR t a m = some p) (hm : 1 ≤ m) : a + m ≤ t.length := by
  obtain ⟨h1, h2⟩ := partR_some e
  rw [h2, List.length_take, List.length_drop] at h1
  omega
theorem doR_len {t u : List Nat} : ∀ {s : StepD}, s.ok → doR t s = some u → u.length ≤ t.length + 2 * (match s with | .more _ m => m | _ => 0)
  | .less a m, ok, e => by
    obtain ⟨p, hp, e⟩ := Option.bind_eq_some_iff.mp (show (partR t a m).bind _ = some u from e)
    split at e
    · injection e with e
      subst e
      rw [List.length_append, List.length_take, List.length_drop]
      omega
    · cases e
  | .more a m, ok, e => by
    obtain ⟨p, hp, e⟩ := Option.bind_eq_some_iff.mp (show (partR t a m).bind _ = some u from e)
    injection e with e
    subst e
    have z := part_room hp ok.1
    have zp := (partR_some hp).1
    rw [List.length_append, List.length_append, List.length_append, RowM.turn_length, List.length_take, List.length_drop]
    show _ ≤ t.length + 2 * m
    omega
  | .past a m k, ok, e => by
    obtain ⟨p, hp, e⟩ := Option.bind_eq_some_iff.mp (show (partR t a m).bind _ = some u from e)
    obtain ⟨q, hq, e⟩ := Option.bind_eq_some_iff.mp e
    split at e
    · rename_i hc
      injection e with e
      subst e
      have z1 := (partR_some hp).1
      have z2 := (partR_some hq).1
      have := congrArg List.length hc
      rw [List.length_take, List.length_drop] at this
      simp only [List.length_append, RowM.turn_length] at this
      simp only [List.length_append, RowM.turn_length, List.length_take, List.length_drop]
      omega
    · cases e
/-! slices of a text, anywhere -/
theorem cut_mid {l : List Nat} {i j : Nat} (h : i ≤ j) : cutS (S l) (some (i : Int)) (some (j : Int)) = S ((l.drop i).take (j - i)) := by
  rw [cut_S, HT.sIx_nat, HT.sIx_nat]
  congr 1
  by_cases h1 : j ≤ l.length
  · rw [Nat.min_eq_left h1, Nat.min_eq_left (Nat.le_trans h h1)]
  · rw [Nat.min_eq_right (by omega)]
    by_cases h2 : i ≤ l.length
    · rw [Nat.min_eq_left h2, List.take_of_length_le (by rw [List.length_drop]; omega), List.take_of_length_le (by rw [List.length_drop]; omega)]
    · rw [Nat.min_eq_right (by omega), List.drop_eq_nil_of_le (by omega : l.length ≤ i), List.drop_eq_nil_of_le (Nat.le_refl _)]
      simp
theorem cut_toG {l : List Nat} {k : Nat} : cutS (S l) none (some (k : Int)) = S (l.take k) := by
  rw [cut_S, HT.sIx_none, HT.sIx_nat, List.drop_zero, Nat.sub_zero]
  congr 1
  by_cases h : k ≤ l.length
  · rw [Nat.min_eq_left h]
  · rw [Nat.min_eq_right (by omega), List.take_length, List.take_of_length_le (by omega)]
theorem starts3_S {e q : List Nat} {i : Nat} (h : i ≤ e.length) : Txt.startswith3 (S e) (S q) (i : Int) = decide ((e.drop i).take q.length = q) := by
  have hf : PySem.fromIndex (S e).length (i : Int) = i := by
    unfold PySem.fromIndex
    rw [if_neg (by omega)]
    omega
  unfold Txt.startswith3
  rw [hf, PySem.StrLaws.subAt_eq, len_S, len_S]
  show (decide (i + q.length ≤ e.length) && ((e.drop i).take q.length == q)) = _
  rw [Bool.eq_iff_iff, Bool.and_eq_true, decide_eq_true_eq, beq_iff_eq, decide_eq_true_eq]
  constructor
  · exact fun h => h.2
  · intro h2
    refine ⟨?_, h2⟩
    have := congrArg List.length h2
    rw [List.length_take, List.length_drop] at this
    omega
def optS : Option (List Nat) → V
  | none => .non
  | some p => .str (S p)
/-- the number of the first step that can't be done -/
def badR : List Nat → List StepD → Nat
  | _, [] => 0
  | t, s :: r => match doR t s with
    | none => 0
    | some u => badR u r + 1
def toldV (t : List Nat) (ss : List StepD) : List V := match doLR t ss with
  | some u => [.str (Str.ofString "told"), .str (S u)]
  | none => [.str (Str.ofString "none"), .int (badR t ss : Nat)]
theorem st_fl : ∀ s : StepD, ∀ v ∈ s.vals, FlV v := fun s v hv => by
  cases s <;> (simp only [StepD.vals, List.mem_cons, List.not_mem_nil, or_false] at hv; rcases hv with rfl | rfl | rfl | rfl <;> trivial)
theorem ok_less : PyData.strOk (Str.ofString "less") = true := by decide +kernel
theorem ok_more : PyData.strOk (Str.ofString "more") = true := by decide +kernel
theorem ok_past : PyData.strOk (Str.ofString "past") = true := by decide +kernel
theorem st_shaped (s : StepD) : SeqAt.shaped (tupD StepD.vals s) = true := by
  cases s <;> simp [tupD, StepD.vals, flD, SeqAt.shaped, PyData.canLay0, PyData.canLayAll0, PyData.depth, PyData.depthAll, ok_less, ok_more, ok_past]
def StepD.small : StepD → Prop
  | .less _ m => m ≤ 20
  | .more _ m => m ≤ 20
  | .past _ m k => m ≤ 20 ∧ k ≤ 20
theorem doR_small {t u : List Nat} {s : StepD} (ok : s.ok) (sm : s.small) (e : doR t s = some u) : u.length ≤ t.length + 40 := by
  have h := doR_len ok e
  cases s with
  | less a m => dsimp only at h; omega
  | more a m =>
    have : m ≤ 20 := sm
    dsimp only at h
    omega
  | past a m k => dsimp only at h; omega
theorem doLR_snoc (s : StepD) : ∀ (ss : List StepD) (t : List Nat), doLR t (ss ++ [s]) = (doLR t ss).bind fun u => doR u s
  | [], t => by
    show (doR t s).bind (fun u => some u) = doR t s
    cases doR t s <;> rfl
  | a :: r, t => by
    show (doR t a).bind (fun u => doLR u (r ++ [s])) = ((doR t a).bind fun u => doLR u r).bind fun u => doR u s
    cases doR t a with
    | none => rfl
    | some v => exact doLR_snoc s r v
theorem doLR_bad {s : StepD} : ∀ {ss : List StepD} {i : Nat} {t u : List Nat}, doLR t (ss.take i) = some u → ss[i]? = some s → doR u s = none → doLR t ss = none ∧ badR t ss = i
  | [], _, _, _, _, h, _ => by simp at h
  | a :: r, 0, t, u, h1, h2, h3 => by
    simp only [List.take_zero, doLR, Option.some.injEq] at h1
    subst h1
    simp only [List.getElem?_cons_zero, Option.some.injEq] at h2
    subst h2
    unfold doLR badR
    rw [h3]
    exact ⟨rfl, rfl⟩
  | a :: r, i + 1, t, u, h1, h2, h3 => by
    rw [List.take_succ_cons] at h1
    simp only [List.getElem?_cons_succ] at h2
    obtain ⟨v, hv, h1⟩ := Option.bind_eq_some_iff.mp (show (doR t a).bind (fun w => doLR w (r.take i)) = some u from h1)
    obtain ⟨g1, g2⟩ := doLR_bad h1 h2 h3
    unfold doLR badR
    rw [hv]
    exact ⟨g1, congrArg (· + 1) g2⟩
theorem doLR_one (t : List Nat) (s : StepD) : doLR t [s] = doR t s := by
  show (doR t s).bind (fun u => some u) = doR t s
  cases doR t s <;> rfl
theorem take_oneS {α : Type} {xs : List α} {i : Nat} {x : α} (h : xs[i]? = some x) : xs.take (i + 1) = xs.take i ++ [x] := by rw [List.take_add_one, h]; rfl
theorem TL.one {α : Type} {val : α → List V} {H : Hp} {p : Addr} {x : α} (h : H p = some (.tup (val x))) : TL H val [p] [x] := ⟨rfl, fun i t hi => by
  cases i with
  | zero =>
    injection hi with hi
    exact ⟨x, rfl, hi ▸ h⟩
  | succ i => simp at hi⟩
theorem past_iff {t p q : List Nat} {a m k : Nat} (hp : partR t a m = some p) (hq : partR t (a + 2 * m) k = some q) :
    (t.drop a).take (2 * m + 2 * k) = p ++ RowM.turn p ++ (q ++ RowM.turn q) ↔ (t.drop (a + m)).take m = RowM.turn p ∧ (t.drop (a + 2 * m + k)).take k = RowM.turn q := by
  obtain ⟨zp, ep⟩ := partR_some hp
  obtain ⟨zq, eq⟩ := partR_some hq
  have e : (t.drop a).take (2 * m + 2 * k) = p ++ (t.drop (a + m)).take m ++ (q ++ (t.drop (a + 2 * m + k)).take k) := by
    rw [show 2 * m + 2 * k = m + (m + (k + k)) by omega, List.take_add, List.take_add, List.take_add, List.drop_drop, List.drop_drop, List.drop_drop, ep, eq, List.append_assoc]
    rw [show a + m + m = a + 2 * m by omega]
  rw [e]
  constructor
  · intro h
    have l1 : (p ++ (t.drop (a + m)).take m).length = (p ++ RowM.turn p).length := by
      have h1 := congrArg List.length h
      have h2 : ((t.drop (a + m)).take m).length ≤ m := List.length_take_le _ _
      have h3 : ((t.drop (a + 2 * m + k)).take k).length ≤ k := List.length_take_le _ _
      simp only [List.length_append, RowM.turn_length] at h1 ⊢
      omega
    obtain ⟨h1, h2⟩ := List.append_inj h l1
    exact ⟨List.append_cancel_left h1, List.append_cancel_left h2⟩
  · rintro ⟨h1, h2⟩
    rw [h1, h2]
theorem dec_S (l m : List Nat) : decide (V.str (S l) = V.str (S m)) = decide (l = m) := decide_eq_decide.mpr ⟨fun h => congrArg (fun v => match v with | V.str z => z.cps.toList | _ => []) h, fun e => by rw [e]⟩
theorem TL.add {α : Type} {val : α → List V} {H : Hp} {L A : Addr} {ts : List Addr} {xs : List α} {x : α} {ys : List V} {o : HO} (hL : H L = some (.lst ys)) (tl : TL H val ts xs) (hA : H A = some (.tup (val x))) : TL (upd H L o) val (ts ++ [A]) (xs ++ [x]) := by
  have hl := tl.len
  have keep : ∀ b zs, H b = some (.tup zs) → (upd H L o) b = some (.tup zs) := fun b zs hb => by
    rw [upd_ne (fun z => by rw [z, hL] at hb; cases hb)]
    exact hb
  refine ⟨by simp [hl], fun i t hi => ?_⟩
  by_cases z : i < ts.length
  · rw [List.getElem?_append_left z] at hi
    rw [List.getElem?_append_left (by omega)]
    obtain ⟨y, a, b⟩ := tl.get i t hi
    exact ⟨y, a, keep _ _ b⟩
  · have il : i < ts.length + 1 := by
      have := (List.getElem?_eq_some_iff.mp hi).1
      simpa using this
    have ei : i = ts.length := by omega
    subst ei
    rw [List.getElem?_append_right (Nat.le_refl _), Nat.sub_self] at hi
    injection hi with hi
    subst hi
    exact ⟨x, by rw [List.getElem?_append_right (by omega), hl]; simp, keep _ _ hA⟩
theorem st_shapedL (ss : List StepD) : SeqAt.shaped (.list (ss.map (tupD StepD.vals))) = true := by
  have h1 : ∀ ss : List StepD, PyData.canLayAll0 (ss.map (tupD StepD.vals)) = true := by
    intro ss
    induction ss with
    | nil => rfl
    | cons s r ih =>
      have h := st_shaped s
      rw [List.map_cons]
      simp only [SeqAt.shaped, Bool.and_eq_true] at h
      simp [PyData.canLayAll0, h.1, ih]
  have h2 : ∀ ss : List StepD, PyData.depthAll (ss.map (tupD StepD.vals)) ≤ 1 := by
    intro ss
    induction ss with
    | nil => simp [PyData.depthAll]
    | cons s r ih =>
      rw [List.map_cons]
      have : (tupD StepD.vals s).depth = 1 := by cases s <;> simp [tupD, StepD.vals, flD, PyData.depth, PyData.depthAll]
      simp only [PyData.depthAll, this]
      omega
  have h3 := h2 ss
  simp only [SeqAt.shaped, PyData.canLay0, h1, PyData.depth, Bool.true_and]
  exact decide_eq_true (by omega)
/-- a list of steps, grown at L -/
def LsI (L : Addr) (H0 H : Hp) (n : Nat) : Prop := Same H0 H ∧ ∃ (ts : List Addr) (ss : List StepD), H L = some (.lst (ts.map V.ref)) ∧ TL H StepD.vals ts ss ∧ (∀ s ∈ ss, s.ok ∧ s.small) ∧ ss.length ≤ n
theorem LsI.le {L : Addr} {H0 H : Hp} {n m : Nat} (h : LsI L H0 H n) (hm : n ≤ m) : LsI L H0 H m := let ⟨a, ts, ss, b, c, d, e⟩ := h; ⟨a, ts, ss, b, c, d, Nat.le_trans e hm⟩
theorem LsI.same {L : Addr} {H0 H H' : Hp} {n : Nat} (h : LsI L H0 H n) (s : Same H H') : LsI L H0 H' n := let ⟨a, ts, ss, b, c, d, e⟩ := h; ⟨Same.trans a s, ts, ss, s _ _ b, c.mono s, d, e⟩
theorem st_dp {K : PySem.W.Frag} {H : Hp} {A : Addr} {s : StepD} (h : H A = some (.tup s.vals)) : Dp K H (.ref A) (tupD StepD.vals s) := .tup (SqT.of h) (fl_dpall (st_fl s))

theorem doLR_stay (s : StepD) : ∀ {ss : List StepD} {t : List Nat}, doLR t ss = none → doLR t (ss ++ [s]) = none ∧ badR t (ss ++ [s]) = badR t ss
  | [], _, h => nomatch h
  | a :: r, t, h => by
    show (doR t a).bind (fun u => doLR u (r ++ [s])) = none ∧ badR t (a :: (r ++ [s])) = badR t (a :: r)
    have h : (doR t a).bind (fun u => doLR u r) = none := h
    cases e : doR t a with
    | none =>
      refine ⟨rfl, ?_⟩
      unfold badR
      rw [e]
    | some v =>
      rw [e] at h
      obtain ⟨h1, h2⟩ := doLR_stay s (ss := r) (t := v) h
      refine ⟨h1, ?_⟩
      unfold badR
      rw [e]
      exact congrArg (· + 1) h2
theorem doLR_rowL : ∀ {ss : List StepD} {t u : List Nat}, Row t → doLR t ss = some u → Row u
  | [], t, u, h, e => by
    injection e with e
    exact e ▸ h
  | a :: r, t, u, h, e => by
    obtain ⟨v, hv, e⟩ := Option.bind_eq_some_iff.mp (show (doR t a).bind (fun w => doLR w r) = some u from e)
    exact doLR_rowL (doR_row h hv) e
theorem str_rowS {l : List Nat} (h : Row l) : PyData.strOk (S l) = true := by
  have h2 : ∀ c ∈ sgns, c < 1114112 := by decide
  simp [PyData.strOk]
  intro c hc
  exact h2 c (h c hc)
theorem eqv_selfS {d : PyData} (h : SeqAt.shaped d = true) : PyData.eqv d d = true := SeqAt.eqv_refl d (SeqAt.canLay_of_shaped h)
theorem told_fl (t : List Nat) (ss : List StepD) : ∀ v ∈ toldV t ss, FlV v := fun v hv => by
  unfold toldV at hv
  split at hv <;> (simp only [List.mem_cons, List.not_mem_nil, or_false] at hv; rcases hv with rfl | rfl <;> trivial)
theorem ok_told : PyData.strOk (Str.ofString "told") = true := by decide +kernel
theorem ok_noneS : PyData.strOk (Str.ofString "none") = true := by decide +kernel
theorem told_shaped {t : List Nat} (h : Row t) (ss : List StepD) : SeqAt.shaped (.list ((toldV t ss).map flD)) = true := by
  unfold toldV
  split
  · rename_i u hu
    have := str_rowS (doLR_rowL h hu)
    simp [flD, SeqAt.shaped, PyData.canLay0, PyData.canLayAll0, PyData.depth, PyData.depthAll, ok_told, this]
  · simp [flD, SeqAt.shaped, PyData.canLay0, PyData.canLayAll0, PyData.depth, PyData.depthAll, ok_noneS]
theorem told_dp {K : PySem.W.Frag} {H : Hp} {A : Addr} {t : List Nat} {ss : List StepD} (h : H A = some (.lst (toldV t ss))) : Dp K H (.ref A) (.list ((toldV t ss).map flD)) := .lst (SqL.of h) (fl_dpall (told_fl t ss))
theorem told_oneS {t u : List Nat} {s : StepD} (h : doR t s = some u) : toldV t [s] = [.str (Str.ofString "told"), .str (S u)] := by
  unfold toldV
  rw [doLR_one, h]
theorem told_oneN {t : List Nat} {s : StepD} (h : doR t s = none) : toldV t [s] = [.str (Str.ofString "none"), .int 0] := by
  unfold toldV
  rw [doLR_one, h]
  unfold badR
  rw [h]
  rfl
theorem told_some {t u : List Nat} {ss : List StepD} (h : doLR t ss = some u) : toldV t ss = [.str (Str.ofString "told"), .str (S u)] := by
  unfold toldV
  rw [h]
theorem told_none {t : List Nat} {ss : List StepD} (h : doLR t ss = none) : toldV t ss = [.str (Str.ofString "none"), .int (badR t ss : Nat)] := by
  unfold toldV
  rw [h]
theorem mul01 {l : List Nat} {v : Int} (h0 : 0 ≤ v) (h1 : v < 2) (r : Row l) : MulOk (S l) v ∧ ∃ m, Txt.mul (S l) v = S m ∧ Row m ∧ m.length ≤ l.length := by
  have e : v = 0 ∨ v = 1 := by omega
  rcases e with rfl | rfl
  · exact ⟨⟨by decide, fun h => absurd (by decide) h, fun h => absurd (by decide) h⟩, [], rfl, (fun _ h => nomatch h), Nat.zero_le _⟩
  · exact ⟨⟨by decide, fun _ h => by simp at h, fun _ h => by simp at h⟩, l, rfl, r, Nat.le_refl _⟩
theorem TL.off {α : Type} {val : α → List V} {H H' : Hp} {p : Addr} {ts : List Addr} {xs : List α} (h : TL H val ts xs) (hp : Pool H p) (o : Off p H H') : TL H' val ts xs := ⟨h.len, fun i t hi => by
  obtain ⟨x, a, b⟩ := h.get i t hi
  refine ⟨x, a, o _ _ (fun e => ?_) b⟩
  obtain ⟨_, _, g, _⟩ := hp
  rw [e, g] at b
  cases b⟩
def DueI (H : Hp) (p L : Addr) (t u : List Nat) (ss : List StepD) (due : V) : Prop := (due = .non ∧ doLR t ss = some u) ∨ ∃ D : Addr, due = .ref D ∧ D ≠ p ∧ D ≠ L ∧ H D = some (.lst [.str (Str.ofString "none"), .int (badR t ss : Nat)]) ∧ doLR t ss = none
theorem DueI.same {H H' : Hp} {p L : Addr} {t u : List Nat} {ss : List StepD} {due : V} (h : DueI H p L t u ss due) (s : Same H H') : DueI H' p L t u ss due := by
  rcases h with h | ⟨D, a, b, c, d, e⟩
  · exact .inl h
  · exact .inr ⟨D, a, b, c, s _ _ d, e⟩
/-- where the turns stand -/
structure StI (H : Hp) (p L : Addr) (t u : List Nat) (i : Nat) (due : V) (ts : List Addr) (ss : List StepD) : Prop where
  pool : Pool H p
  lp : L ≠ p
  gL : H L = some (.lst (ts.map V.ref))
  tl : TL H StepD.vals ts ss
  ok : ∀ s ∈ ss, s.ok ∧ s.small
  len : ss.length = i
  row : Row u
  z : u.length ≤ 16 + 40 * i
  due : DueI H p L t u ss due
theorem StI.same {H H' : Hp} {p L : Addr} {t u : List Nat} {i : Nat} {due : V} {ts : List Addr} {ss : List StepD} (h : StI H p L t u i due ts ss) (s : Same H H') : StI H' p L t u i due ts ss := ⟨h.pool.same s, h.lp, s _ _ h.gL, h.tl.mono s, h.ok, h.len, h.row, h.z, h.due.same s⟩
/-! ### steps of any kind -/
/-- the words that may stand in a bent step -/
def wordsS : List Str := [Str.ofString "less", Str.ofString "more", Str.ofString "past", Str.ofString "Less", Str.ofString "lesser", Str.ofString "", Str.ofString "pass", Str.ofString "1"]
theorem words_ok : ∀ s ∈ wordsS, PyData.strOk s = true := by decide +kernel
def Cell (H : Hp) (v : V) : Prop := (∃ i : Int, v = .int i) ∨ (∃ b, v = .bl b) ∨ v = .non ∨ (∃ s ∈ wordsS, v = .str s) ∨ (∃ q, v = .ref q ∧ (H q = some (.tup [.int 1]) ∨ H q = some (.lst [.str (Str.ofString "less")])))
theorem Cell.same {H H' : Hp} {v : V} (h : Cell H v) (s : Same H H') : Cell H' v := by
  rcases h with h | h | h | h | ⟨q, e, h | h⟩
  · exact .inl h
  · exact .inr (.inl h)
  · exact .inr (.inr (.inl h))
  · exact .inr (.inr (.inr (.inl h)))
  · exact .inr (.inr (.inr (.inr ⟨q, e, .inl (s _ _ h)⟩)))
  · exact .inr (.inr (.inr (.inr ⟨q, e, .inr (s _ _ h)⟩)))
def isI : V → Bool
  | .int _ => true
  | _ => false
def isS : V → Bool
  | .str _ => true
  | _ => false
theorem Cell.whole {H : Hp} {v : V} (h : Cell H v) : IntW H v (isI v) := by
  rcases h with ⟨i, rfl⟩ | ⟨b, rfl⟩ | rfl | ⟨s, _, rfl⟩ | ⟨q, rfl, h | h⟩
  · exact .inl ⟨i, rfl, rfl⟩
  · exact .inr ⟨.inr (.inl ⟨b, rfl⟩), rfl⟩
  · exact .inr ⟨.inl rfl, rfl⟩
  · exact .inr ⟨.inr (.inr (.inl ⟨s, rfl⟩)), rfl⟩
  · exact .inr ⟨.inr (.inr (.inr ⟨q, rfl, .inr (.inl ⟨_, h⟩)⟩)), rfl⟩
  · exact .inr ⟨.inr (.inr (.inr ⟨q, rfl, .inl ⟨_, h⟩⟩)), rfl⟩
theorem Cell.ty {K : PySem.W.Frag} {H : Hp} {v : V} (h : Cell H v) : ∃ t : String, TyX K H v (.type t) ∧ kitB t "str" = some (isS v) := by
  rcases h with ⟨i, rfl⟩ | ⟨b, rfl⟩ | rfl | ⟨s, _, rfl⟩ | ⟨q, rfl, h | h⟩
  · exact ⟨_, .base (.int _), by show kitB "int" "str" = some false; decide +kernel⟩
  · exact ⟨_, .base (.bl _), by show kitB "bool" "str" = some false; decide +kernel⟩
  · exact ⟨_, .base .non, by decide +kernel⟩
  · exact ⟨_, .base (.str _), by show kitB "str" "str" = some true; decide +kernel⟩
  · exact ⟨_, .base (.tup h), by show kitB "tuple" "str" = some false; decide +kernel⟩
  · exact ⟨_, .base (.lst h), by show kitB "list" "str" = some false; decide +kernel⟩
theorem Cell.dp {K : PySem.W.Frag} {H : Hp} {v : V} (h : Cell H v) : ∃ d, Dp K H v d ∧ d.canLay0 = true ∧ d.depth ≤ 1 ∧ (∀ w : Str, PyData.eqv (.str w) d = decide (v = .str w)) := by
  rcases h with ⟨i, rfl⟩ | ⟨b, rfl⟩ | rfl | ⟨s, hs, rfl⟩ | ⟨q, rfl, h | h⟩
  · exact ⟨_, .int i, rfl, by simp [PyData.depth], fun w => by simp [PyData.eqv]⟩
  · exact ⟨_, .bl b, rfl, by simp [PyData.depth], fun w => by simp [PyData.eqv]⟩
  · exact ⟨_, .non, rfl, by simp [PyData.depth], fun w => by simp [PyData.eqv]⟩
  · exact ⟨_, .str s, words_ok s hs, by simp [PyData.depth], fun w => by rw [PyData.eqv, Bool.eq_iff_iff, beq_iff_eq, decide_eq_true_eq]; exact ⟨fun e => by rw [e], fun e => by injection e with e; exact e.symm⟩⟩
  · exact ⟨_, .tup (SqT.of h) (.cons (.int 1) .nil), rfl, by simp [PyData.depth, PyData.depthAll], fun w => by simp [PyData.eqv]⟩
  · exact ⟨_, .lst (SqL.of h) (.cons (.str _) .nil), by simp [PyData.canLay0, PyData.canLayAll0, ok_less], by simp [PyData.depth, PyData.depthAll], fun w => by simp [PyData.eqv]⟩
theorem cells_dp {K : PySem.W.Frag} {H : Hp} : ∀ {vs : List V}, (∀ v ∈ vs, Cell H v) → ∃ ds, DpAll K H vs ds ∧ PyData.canLayAll0 ds = true ∧ PyData.depthAll ds ≤ 1
  | [], _ => ⟨[], .nil, rfl, by simp [PyData.depthAll]⟩
  | v :: r, h => by
    obtain ⟨d, d1, d2, d3, _⟩ := (h v List.mem_cons_self).dp (K := K)
    obtain ⟨ds, e1, e2, e3⟩ := cells_dp (K := K) (vs := r) fun u hu => h u (List.mem_cons_of_mem _ hu)
    exact ⟨d :: ds, .cons d1 e1, by simp [PyData.canLayAll0, d2, e2], by simp only [PyData.depthAll]; omega⟩
theorem shaped_cells {ds : List PyData} (h1 : PyData.canLayAll0 ds = true) (h2 : PyData.depthAll ds ≤ 1) : SeqAt.shaped (.tuple ds) = true := by
  simp only [SeqAt.shaped, PyData.canLay0, h1, PyData.depth, Bool.true_and]
  exact decide_eq_true (by omega)
/-- the step that a tuple is, if it is one -/
def formR : List V → Option StepD
  | [.str w, .int a, .int m] => if 0 ≤ a ∧ 1 ≤ m then (if w = Str.ofString "less" then some (.less a.toNat m.toNat) else if w = Str.ofString "more" then some (.more a.toNat m.toNat) else none) else none
  | [.str w, .int a, .int m, .int k] => if w = Str.ofString "past" ∧ 0 ≤ a ∧ 1 ≤ m ∧ 1 ≤ k then some (.past a.toNat m.toNat k.toNat) else none
  | _ => none
def NotTup (H : Hp) (x : V) : Prop := x = .non ∨ (∃ i, x = .int i) ∨ (∃ b, x = .bl b) ∨ (∃ s, x = .str s) ∨ ∃ a, x = .ref a ∧ ((∃ xs, H a = some (.lst xs)) ∨ ∃ kvs, H a = some (.dK kvs))
theorem NotTup.same {H H' : Hp} {x : V} (h : NotTup H x) (s : Same H H') : NotTup H' x := by
  rcases h with h | h | h | h | ⟨a, e, ⟨xs, h⟩ | ⟨xs, h⟩⟩
  · exact .inl h
  · exact .inr (.inl h)
  · exact .inr (.inr (.inl h))
  · exact .inr (.inr (.inr (.inl h)))
  · exact .inr (.inr (.inr (.inr ⟨a, e, .inl ⟨xs, s _ _ h⟩⟩)))
  · exact .inr (.inr (.inr (.inr ⟨a, e, .inr ⟨xs, s _ _ h⟩⟩)))
theorem NotTup.ty {K : PySem.W.Frag} {H : Hp} {x : V} (h : NotTup H x) : ∃ t : String, TyX K H x (.type t) ∧ kitB t "tuple" = some false := by
  rcases h with rfl | ⟨i, rfl⟩ | ⟨b, rfl⟩ | ⟨s, rfl⟩ | ⟨a, rfl, ⟨xs, h⟩ | ⟨xs, h⟩⟩
  · exact ⟨_, .base .non, by decide +kernel⟩
  · exact ⟨_, .base (.int _), by decide +kernel⟩
  · exact ⟨_, .base (.bl _), by decide +kernel⟩
  · exact ⟨_, .base (.str _), by decide +kernel⟩
  · exact ⟨_, .base (.lst h), by decide +kernel⟩
  · exact ⟨_, .base (.dK h), by decide +kernel⟩
/-- a thing that may be a step -/
def Thg (H : Hp) (x : V) (o : Option StepD) : Prop := (∃ (p : Addr) (vs : List V), x = .ref p ∧ H p = some (.tup vs) ∧ (∀ v ∈ vs, Cell H v) ∧ vs.length ≤ 8 ∧ o = formR vs) ∨ (NotTup H x ∧ o = none)
theorem Thg.same {H H' : Hp} {x : V} {o : Option StepD} (h : Thg H x o) (s : Same H H') : Thg H' x o := by
  rcases h with ⟨p, vs, e, g, c, z, r⟩ | ⟨h, e⟩
  · exact .inl ⟨p, vs, e, s _ _ g, fun v hv => (c v hv).same s, z, r⟩
  · exact .inr ⟨h.same s, e⟩
def doX (t : List Nat) (o : Option StepD) : Option (List Nat) := o.bind fun st => (doR t st).bind fun u => if u.length ≤ 4000 then some u else none
theorem form_nil : formR [] = none := rfl
theorem form_head {v : V} {r : List V} (h : isS v = false) : formR (v :: r) = none := by
  unfold formR
  split
  · rename_i e; injection e with e _; subst e; cases h
  · rename_i e; injection e with e _; subst e; cases h
  · rfl
theorem form_word {w : Str} {r : List V} (h : w ≠ Str.ofString "less" ∧ w ≠ Str.ofString "more" ∧ w ≠ Str.ofString "past") : formR (.str w :: r) = none := by
  unfold formR
  split
  · rename_i e
    injection e with e _
    injection e with e
    subst e
    rw [if_neg h.1, if_neg h.2.1, ite_self]
  · rename_i e
    injection e with e _
    injection e with e
    subst e
    rw [if_neg fun z => h.2.2 z.1]
  · rfl
theorem form_int {v : V} {r : List V} (h : (r.all isI) = false) : formR (v :: r) = none := by
  unfold formR
  split
  · rename_i e
    injection e with _ e
    subst e
    cases h
  · rename_i e
    injection e with _ e
    subst e
    cases h
  · rfl
theorem form_two {w : Str} {r : List V} (h : r.length ≠ 2) (hw : w ≠ Str.ofString "past") : formR (.str w :: r) = none := by
  unfold formR
  split
  · rename_i e
    injection e with _ e
    subst e
    exact absurd rfl h
  · rename_i e
    injection e with e _
    injection e with e
    subst e
    rw [if_neg fun z => hw z.1]
  · rfl
theorem form_three {r : List V} (h : r.length ≠ 3) : formR (.str (Str.ofString "past") :: r) = none := by
  have e1 : Str.ofString "past" ≠ Str.ofString "less" := by decide
  have e2 : Str.ofString "past" ≠ Str.ofString "more" := by decide
  unfold formR
  split
  · rename_i e
    injection e with e _
    injection e with e
    subst e
    rw [if_neg e1, if_neg e2, ite_self]
  · rename_i e
    injection e with _ e
    subst e
    exact absurd rfl h
  · rfl
theorem form_vals {H : Hp} {vs : List V} {st : StepD} (_hc : ∀ v ∈ vs, Cell H v) (h : formR vs = some st) : vs = st.vals ∧ st.ok := by
  unfold formR at h
  split at h
  · rename_i w a m
    split at h
    · rename_i c
      have ea : (a.toNat : Int) = a := Int.toNat_of_nonneg c.1
      have em : (m.toNat : Int) = m := Int.toNat_of_nonneg (by omega)
      split at h
      · rename_i hw
        injection h with h
        subst h hw
        exact ⟨by show _ = [V.str _, V.int (a.toNat : Int), V.int (m.toNat : Int)]; rw [ea, em], (by show 1 ≤ m.toNat ∧ 0 ≤ m.toNat; omega)⟩
      · split at h
        · rename_i hw
          injection h with h
          subst h hw
          exact ⟨by show _ = [V.str _, V.int (a.toNat : Int), V.int (m.toNat : Int)]; rw [ea, em], (by show 1 ≤ m.toNat ∧ 0 ≤ m.toNat; omega)⟩
        · cases h
    · cases h
  · rename_i w a m k
    split at h
    · rename_i c
      obtain ⟨hw, c1, c2, c3⟩ := c
      have ea : (a.toNat : Int) = a := Int.toNat_of_nonneg c1
      have em : (m.toNat : Int) = m := Int.toNat_of_nonneg (by omega)
      have ek : (k.toNat : Int) = k := Int.toNat_of_nonneg (by omega)
      injection h with h
      subst h hw
      exact ⟨by show _ = [V.str _, V.int (a.toNat : Int), V.int (m.toNat : Int), V.int (k.toNat : Int)]; rw [ea, em, ek], (by show (1 ≤ m.toNat ∧ 0 ≤ m.toNat) ∧ 1 ≤ k.toNat ∧ 0 ≤ k.toNat; omega)⟩
    · cases h
  · cases h
theorem form_step {st : StepD} (ok : st.ok) : formR st.vals = some st := by
  cases st with
  | less a m =>
    have := ok.1
    show (if _ then _ else _) = _
    rw [if_pos ⟨by omega, by omega⟩, if_pos rfl]
    rfl
  | more a m =>
    have := ok.1
    show (if _ then _ else _) = _
    rw [if_pos ⟨by omega, by omega⟩, if_neg (by decide), if_pos rfl]
    rfl
  | past a m k =>
    have := ok.1.1
    have := ok.2.1
    show (if _ then _ else _) = _
    rw [if_pos ⟨rfl, by omega, by omega, by omega⟩]
    rfl
theorem ints_of {r : List V} (h : r.all isI = true) : ∃ ns : List Int, r = ns.map V.int := by
  induction r with
  | nil => exact ⟨[], rfl⟩
  | cons v r ih =>
    rw [List.all_cons, Bool.and_eq_true] at h
    obtain ⟨ns, e⟩ := ih h.2
    cases v with
    | int i => exact ⟨i :: ns, by rw [e]; rfl⟩
    | _ => cases h.1
/-- not the pool itself -/
def AwayV (p : Addr) (x : V) : Prop := x ≠ .ref p
theorem cut_tail (v : V) (r : List V) : cutV (v :: r) (some 1) none = r := by
  have e : HT.sIx (v :: r).length 0 (some 1) = 1 := by
    have := HT.sIx_nat (v :: r).length 0 1
    rw [show ((1 : Nat) : Int) = 1 from rfl] at this
    rw [this, List.length_cons]
    omega
  unfold cutV
  rw [e, HT.sIx_none, List.drop_one, List.tail_cons, List.length_cons, Nat.add_sub_cancel, List.take_length]
theorem not_whole1 (v : V) (r : List V) (hi : Option Int) : ¬ (HT.sIx (v :: r).length 0 (some 1) = 0 ∧ HT.sIx (v :: r).length (v :: r).length hi = (v :: r).length) := fun h => by
  have := HT.sIx_nat (v :: r).length 0 1
  rw [show ((1 : Nat) : Int) = 1 from rfl, h.1, List.length_cons] at this
  omega
theorem form_2 {w : Str} {a m : Int} (hw : w = Str.ofString "less" ∨ w = Str.ofString "more") : (formR [.str w, .int a, .int m]).isSome = (decide (0 ≤ a) && decide (1 ≤ m)) := by
  show (if _ then _ else _ : Option StepD).isSome = _
  by_cases h : 0 ≤ a ∧ 1 ≤ m
  · rw [if_pos h, decide_eq_true h.1, decide_eq_true h.2]
    rcases hw with rfl | rfl
    · rw [if_pos rfl]
      rfl
    · rw [if_neg (by decide), if_pos rfl]
      rfl
  · rw [if_neg h]
    by_cases h1 : 0 ≤ a
    · rw [decide_eq_true h1, decide_eq_false fun z => h ⟨h1, z⟩]
      rfl
    · rw [decide_eq_false h1]
      rfl
theorem form_3 {a m k : Int} : (formR [.str (Str.ofString "past"), .int a, .int m, .int k]).isSome = (decide (0 ≤ a) && (decide (1 ≤ m) && decide (1 ≤ k))) := by
  show (if _ then _ else _ : Option StepD).isSome = _
  by_cases h : 0 ≤ a ∧ 1 ≤ m ∧ 1 ≤ k
  · rw [if_pos ⟨rfl, h⟩, decide_eq_true h.1, decide_eq_true h.2.1, decide_eq_true h.2.2]
    rfl
  · rw [if_neg fun z => h z.2]
    by_cases h1 : 0 ≤ a
    · by_cases h2 : 1 ≤ m
      · rw [decide_eq_true h1, decide_eq_true h2, decide_eq_false fun z => h ⟨h1, h2, z⟩]
        rfl
      · rw [decide_eq_true h1, decide_eq_false h2]
        rfl
    · rw [decide_eq_false h1]
      rfl
theorem len2 {ns : List Int} (h : ns.length = 2) : ∃ a m, ns = [a, m] := by
  match ns, h with
  | [a, m], _ => exact ⟨a, m, rfl⟩
theorem len3 {ns : List Int} (h : ns.length = 3) : ∃ a m k, ns = [a, m, k] := by
  match ns, h with
  | [a, m, k], _ => exact ⟨a, m, k, rfl⟩
theorem dec_and2 {mm m k : Int} (h1 : mm ∈ [m, k]) (h2 : ∀ y ∈ [m, k], mm ≤ y) : decide ((1 : Int) ≤ mm) = (decide (1 ≤ m) && decide (1 ≤ k)) := by
  have a := h2 m (by simp)
  have b := h2 k (by simp)
  have c : mm = m ∨ mm = k := by simpa using h1
  rw [Bool.eq_iff_iff, Bool.and_eq_true, decide_eq_true_eq, decide_eq_true_eq, decide_eq_true_eq]
  omega
theorem Cell.ty2 {K : PySem.W.Frag} {H : Hp} {v : V} (h : Cell H v) : ∃ (t : String) (b c : Bool), TyX K H v (.type t) ∧ kitB t "bool" = some b ∧ kitB t "int" = some c ∧ isI v = (!b && c) := by
  rcases h with ⟨i, rfl⟩ | ⟨b, rfl⟩ | rfl | ⟨s, _, rfl⟩ | ⟨q, rfl, h | h⟩
  · exact ⟨_, false, true, .base (.int _), by decide +kernel, by decide +kernel, rfl⟩
  · exact ⟨_, true, true, .base (.bl _), by decide +kernel, by decide +kernel, rfl⟩
  · exact ⟨_, false, false, .base .non, by decide +kernel, by decide +kernel, rfl⟩
  · exact ⟨_, false, false, .base (.str _), by decide +kernel, by decide +kernel, rfl⟩
  · exact ⟨_, false, false, .base (.tup h), by decide +kernel, by decide +kernel, rfl⟩
  · exact ⟨_, false, false, .base (.lst h), by decide +kernel, by decide +kernel, rfl⟩
theorem dec_last2 (a m : Int) : (decide (0 ≤ a) && (decide (1 ≤ m) && decide ((0 : Int) ≤ m))) = (decide (0 ≤ a) && decide (1 ≤ m)) := by
  congr 1
  rw [Bool.eq_iff_iff, Bool.and_eq_true, decide_eq_true_eq, decide_eq_true_eq]
  omega
theorem doR_len3 {t u : List Nat} {s : StepD} (ok : s.ok) (e : doR t s = some u) : u.length ≤ 3 * t.length := by
  have h := doR_len ok e
  cases s with
  | less a m =>
    dsimp only at h
    omega
  | more a m =>
    dsimp only at h
    obtain ⟨p, hp, _⟩ := Option.bind_eq_some_iff.mp (show (partR t a m).bind _ = some u from e)
    have := part_room hp ok.1
    omega
  | past a m k =>
    dsimp only at h
    omega
theorem doX_none {t : List Nat} {st : StepD} (h : doR t st = none) : doX t (some st) = none := by
  show (doR t st).bind _ = none
  rw [h]
  rfl
theorem doX_some {t u : List Nat} {st : StepD} (h : doR t st = some u) : doX t (some st) = if u.length ≤ 4000 then some u else none := by
  show (doR t st).bind _ = _
  rw [h]
  rfl
def ThgL (H : Hp) : List V → List (Option StepD) → Prop
  | [], [] => True
  | x :: xs, o :: os => Thg H x o ∧ ThgL H xs os
  | _, _ => False
theorem ThgL.same {H H' : Hp} (s : Same H H') : ∀ {xs : List V} {os : List (Option StepD)}, ThgL H xs os → ThgL H' xs os
  | [], [], _ => trivial
  | _ :: _, _ :: _, h => ⟨h.1.same s, ThgL.same s h.2⟩
  | [], _ :: _, h => h.elim
  | _ :: _, [], h => h.elim
theorem ThgL.len {H : Hp} : ∀ {xs : List V} {os : List (Option StepD)}, ThgL H xs os → xs.length = os.length
  | [], [], _ => rfl
  | _ :: _, _ :: _, h => congrArg (· + 1) h.2.len
  | [], _ :: _, h => h.elim
  | _ :: _, [], h => h.elim
theorem ThgL.get {H : Hp} : ∀ {xs : List V} {os : List (Option StepD)} {i : Nat} {x : V}, ThgL H xs os → xs[i]? = some x → ∃ o, os[i]? = some o ∧ Thg H x o
  | _ :: _, o :: _, 0, _, h, e => by
    simp only [List.getElem?_cons_zero, Option.some.injEq] at e
    exact ⟨o, rfl, e ▸ h.1⟩
  | _ :: _, _ :: _, i + 1, _, h, e => by
    simp only [List.getElem?_cons_succ] at e ⊢
    exact h.2.get e
  | [], [], _, _, _, e => by simp at e
  | [], _ :: _, _, _, h, _ => h.elim
  | _ :: _, [], _, _, h, _ => h.elim
/-- what comes of things, one behind the other -/
def doXL : List Nat → List (Option StepD) → Option (List Nat)
  | t, [] => some t
  | t, o :: r => (doX t o).bind fun u => doXL u r
def badX : List Nat → List (Option StepD) → Nat
  | _, [] => 0
  | t, o :: r => match doX t o with
    | none => 0
    | some u => badX u r + 1
theorem doXL_snoc (o : Option StepD) : ∀ (os : List (Option StepD)) (t : List Nat), doXL t (os ++ [o]) = (doXL t os).bind fun u => doX u o
  | [], t => by
    show (doX t o).bind (fun u => some u) = doX t o
    cases doX t o <;> rfl
  | a :: r, t => by
    show (doX t a).bind (fun u => doXL u (r ++ [o])) = ((doX t a).bind fun u => doXL u r).bind fun u => doX u o
    cases doX t a with
    | none => rfl
    | some v => exact doXL_snoc o r v
theorem doXL_bad {o : Option StepD} : ∀ {os : List (Option StepD)} {i : Nat} {t u : List Nat}, doXL t (os.take i) = some u → os[i]? = some o → doX u o = none → doXL t os = none ∧ badX t os = i
  | [], _, _, _, _, h, _ => by simp at h
  | a :: r, 0, t, u, h1, h2, h3 => by
    simp only [List.take_zero, doXL, Option.some.injEq] at h1
    subst h1
    simp only [List.getElem?_cons_zero, Option.some.injEq] at h2
    subst h2
    unfold doXL badX
    rw [h3]
    exact ⟨rfl, rfl⟩
  | a :: r, i + 1, t, u, h1, h2, h3 => by
    rw [List.take_succ_cons] at h1
    simp only [List.getElem?_cons_succ] at h2
    obtain ⟨v, hv, h1⟩ := Option.bind_eq_some_iff.mp (show (doX t a).bind (fun w => doXL w (r.take i)) = some u from h1)
    obtain ⟨g1, g2⟩ := doXL_bad h1 h2 h3
    unfold doXL badX
    rw [hv]
    exact ⟨g1, congrArg (· + 1) g2⟩
theorem doX_row {t u : List Nat} {o : Option StepD} (h : Row t) (e : doX t o = some u) : Row u ∧ u.length ≤ 4000 := by
  cases o with
  | none => cases e
  | some st =>
    cases hv : doR t st with
    | none =>
      rw [doX_none hv] at e
      cases e
    | some v =>
      rw [doX_some hv] at e
      split at e
      · rename_i z
        injection e with e
        subst e
        exact ⟨doR_row h hv, z⟩
      · cases e
theorem longW {H : Hp} {t : List Nat} {r : Bool} (h : IsRowW H (.str (S t)) 4000 r) (rt : Row t) (z : t.length ≤ 4000) : r = true := by
  rcases h with ⟨l, e, _, rfl⟩ | ⟨h, _⟩
  · obtain rfl : t = l := congrArg (fun v => match v with | V.str z => z.cps.toList | _ => []) e
    rw [Bool.and_eq_true, decide_eq_true_eq, List.all_eq_true]
    exact ⟨by omega, fun c hc => decide_eq_true (rt c hc)⟩
  · rcases h with h | ⟨i, h⟩ | ⟨b, h⟩ | ⟨a, h, _⟩ <;> cases h
theorem longW_true {H : Hp} {y : V} (h : IsRowW H y 4000 true) : ∃ t, y = .str (S t) ∧ Row t ∧ t.length ≤ 4000 := by
  rcases h with ⟨l, rfl, _, e⟩ | ⟨_, h⟩
  · have e := e.symm
    rw [Bool.and_eq_true, decide_eq_true_eq, List.all_eq_true] at e
    exact ⟨l, rfl, fun c hc => of_decide_eq_true (e.2 c hc), by omega⟩
  · cases h
theorem isRowW_same {H H' : Hp} {x : V} {m : Int} {r : Bool} (h : IsRowW H x m r) (s : Same H H') : IsRowW H' x m r := h.imp id fun h => ⟨h.1.same s, h.2⟩
theorem doXL_one (t : List Nat) (o : Option StepD) : doXL t [o] = doX t o := by
  show (doX t o).bind (fun u => some u) = doX t o
  cases doX t o <;> rfl
theorem badX_one {t : List Nat} {o : Option StepD} (h : doX t o = none) : badX t [o] = 0 := by
  unfold badX
  rw [h]
theorem sT_of {t l : List Nat} (e : V.str (S t) = V.str (S l)) : t = l := congrArg (fun v => match v with | V.str z => z.cps.toList | _ => []) e
def toldX (t : List Nat) (os : List (Option StepD)) : List V := match doXL t os with
  | some u => [.str (Str.ofString "told"), .str (S u)]
  | none => [.str (Str.ofString "none"), .int (badX t os : Nat)]
theorem toldX_some {t u : List Nat} {os : List (Option StepD)} (h : doXL t os = some u) : toldX t os = [.str (Str.ofString "told"), .str (S u)] := by
  unfold toldX
  rw [h]
theorem toldX_none {t : List Nat} {os : List (Option StepD)} (h : doXL t os = none) : toldX t os = [.str (Str.ofString "none"), .int (badX t os : Nat)] := by
  unfold toldX
  rw [h]
theorem cells_st {H : Hp} (st : StepD) : ∀ v ∈ st.vals, Cell H v := fun v hv => by
  cases st <;> (simp only [StepD.vals, List.mem_cons, List.not_mem_nil, or_false] at hv)
  · rcases hv with rfl | rfl | rfl
    · exact .inr (.inr (.inr (.inl ⟨_, by decide, rfl⟩)))
    · exact .inl ⟨_, rfl⟩
    · exact .inl ⟨_, rfl⟩
  · rcases hv with rfl | rfl | rfl
    · exact .inr (.inr (.inr (.inl ⟨_, by decide, rfl⟩)))
    · exact .inl ⟨_, rfl⟩
    · exact .inl ⟨_, rfl⟩
  · rcases hv with rfl | rfl | rfl | rfl
    · exact .inr (.inr (.inr (.inl ⟨_, by decide, rfl⟩)))
    · exact .inl ⟨_, rfl⟩
    · exact .inl ⟨_, rfl⟩
    · exact .inl ⟨_, rfl⟩
theorem st_len (st : StepD) : 3 ≤ st.vals.length ∧ st.vals.length ≤ 4 := by cases st <;> simp [StepD.vals]
theorem thg_tup {H : Hp} {p : Addr} {vs : List V} (h : H p = some (.tup vs)) (hc : ∀ v ∈ vs, Cell H v) (hz : vs.length ≤ 8) : Thg H (.ref p) (formR vs) := .inl ⟨p, vs, rfl, h, hc, hz, rfl⟩
theorem cut_pre (vs : List V) (i : Nat) : cutV vs none (some (i : Int)) = vs.take i := by
  unfold cutV
  rw [HT.sIx_none, HT.sIx_nat, List.drop_zero, Nat.sub_zero]
  by_cases h : i ≤ vs.length
  · rw [Nat.min_eq_left h]
  · rw [Nat.min_eq_right (by omega), List.take_length, List.take_of_length_le (by omega)]
theorem cut_suf (vs : List V) (i : Nat) : cutV vs (some (i : Int)) none = vs.drop i := by
  unfold cutV
  rw [HT.sIx_none, HT.sIx_nat]
  by_cases h : i ≤ vs.length
  · rw [Nat.min_eq_left h, List.take_of_length_le (by rw [List.length_drop]; omega)]
  · rw [Nat.min_eq_right (by omega), List.drop_eq_nil_of_le (Nat.le_refl _), List.drop_eq_nil_of_le (by omega : vs.length ≤ i), List.take_nil]
theorem not_pre {vs : List V} {i : Nat} (h : i < vs.length) : ¬ (HT.sIx vs.length 0 none = 0 ∧ HT.sIx vs.length vs.length (some (i : Int)) = vs.length) := fun z => by
  have := z.2
  rw [HT.sIx_nat] at this
  omega
theorem not_suf {vs : List V} {i : Nat} (h : 0 < vs.length) (hi : 0 < i) : ¬ (HT.sIx vs.length 0 (some (i : Int)) = 0 ∧ HT.sIx vs.length vs.length none = vs.length) := fun z => by
  have := z.1
  rw [HT.sIx_nat] at this
  omega
/-! the law's parts -/
theorem Cell.off {H H' : Hp} {p : Addr} {v : V} (h : Cell H v) (hp : Pool H p) (o : Off p H H') : Cell H' v := by
  obtain ⟨c, n, g, _⟩ := hp
  rcases h with h | h | h | h | ⟨q, e, h | h⟩
  · exact .inl h
  · exact .inr (.inl h)
  · exact .inr (.inr (.inl h))
  · exact .inr (.inr (.inr (.inl h)))
  · exact .inr (.inr (.inr (.inr ⟨q, e, .inl (o _ _ (fun z => by rw [z, g] at h; cases h) h)⟩)))
  · exact .inr (.inr (.inr (.inr ⟨q, e, .inr (o _ _ (fun z => by rw [z, g] at h; cases h) h)⟩)))
theorem Thg.off {H H' : Hp} {p : Addr} {x : V} {o : Option StepD} (h : Thg H x o) (hp : Pool H p) (f : Off p H H') (aw : AwayV p x) : Thg H' x o := by
  rcases h with ⟨q, vs, rfl, g, c, z, r⟩ | ⟨h, e⟩
  · exact .inl ⟨q, vs, rfl, f _ _ (fun z => aw (by rw [z])) g, fun v hv => (c v hv).off hp f, z, r⟩
  · refine .inr ⟨?_, e⟩
    rcases h with h | h | h | h | ⟨a, rfl, ⟨xs, h⟩ | ⟨xs, h⟩⟩
    · exact .inl h
    · exact .inr (.inl h)
    · exact .inr (.inr (.inl h))
    · exact .inr (.inr (.inr (.inl h)))
    · exact .inr (.inr (.inr (.inr ⟨a, rfl, .inl ⟨xs, f _ _ (fun z => aw (by rw [z])) h⟩⟩)))
    · exact .inr (.inr (.inr (.inr ⟨a, rfl, .inr ⟨xs, f _ _ (fun z => aw (by rw [z])) h⟩⟩)))
theorem thg_st {H : Hp} {p : Addr} {st : StepD} (ok : st.ok) (h : H p = some (.tup st.vals)) : Thg H (.ref p) (some st) := by
  have := thg_tup h (cells_st st) (Nat.le_trans (st_len st).2 (by decide))
  rw [form_step ok] at this
  exact this
theorem thg_some {H : Hp} {x : V} {st : StepD} (h : Thg H x (some st)) : ∃ p, x = .ref p ∧ H p = some (.tup st.vals) ∧ st.ok := by
  rcases h with ⟨p, vs, e, g, c, _, r⟩ | ⟨_, e⟩
  · obtain ⟨rfl, ok⟩ := form_vals c r.symm
    exact ⟨p, e, g, ok⟩
  · cases e
/-- short rows -/
theorem doX_short {t : List Nat} {st : StepD} (ok : st.ok) (z : t.length ≤ 1000) : doX t (some st) = doR t st := by
  cases h : doR t st with
  | none => exact doX_none h
  | some u =>
    have := doR_len3 ok h
    rw [doX_some h, if_pos (by omega)]
theorem more_done {t : List Nat} {a m : Nat} (h : a + m ≤ t.length) : ∃ u, doR t (.more a m) = some u ∧ u.length = t.length + 2 * m := by
  have e : ((t.drop a).take m).length = m := by rw [List.length_take, List.length_drop]; omega
  refine ⟨t.take (a + m) ++ RowM.turn ((t.drop a).take m) ++ (t.drop a).take m ++ t.drop (a + m), ?_, ?_⟩
  · show (partR t a m).bind _ = _
    unfold partR
    rw [if_pos e]
    rfl
  · simp only [List.length_append, RowM.turn_length, e, List.length_take, List.length_drop]
    omega
def FlL (vs : List V) : Prop := (∀ v ∈ vs, FlV v) ∧ SeqAt.shaped (.list (vs.map flD)) = true
theorem FlL.dp {K : PySem.W.Frag} {H : Hp} {A : Addr} {vs : List V} (h : FlL vs) (g : H A = some (.lst vs)) : Dp K H (.ref A) (.list (vs.map flD)) := .lst (SqL.of g) (fl_dpall h.1)
theorem doXL_row : ∀ {os : List (Option StepD)} {t u : List Nat}, Row t → doXL t os = some u → Row u
  | [], t, u, h, e => by
    injection e with e
    exact e ▸ h
  | a :: r, t, u, h, e => by
    obtain ⟨v, hv, e⟩ := Option.bind_eq_some_iff.mp (show (doX t a).bind (fun w => doXL w r) = some u from e)
    exact doXL_row (doX_row h hv).1 e
theorem toldX_fl {t : List Nat} (h : Row t) (os : List (Option StepD)) : FlL (toldX t os) := by
  unfold toldX
  split
  · rename_i u hu
    have := str_rowS (doXL_row h hu)
    refine ⟨fun v hv => ?_, by simp [flD, SeqAt.shaped, PyData.canLay0, PyData.canLayAll0, PyData.depth, PyData.depthAll, ok_told, this]⟩
    simp only [List.mem_cons, List.not_mem_nil, or_false] at hv
    rcases hv with rfl | rfl <;> trivial
  · refine ⟨fun v hv => ?_, by simp [flD, SeqAt.shaped, PyData.canLay0, PyData.canLayAll0, PyData.depth, PyData.depthAll, ok_noneS]⟩
    simp only [List.mem_cons, List.not_mem_nil, or_false] at hv
    rcases hv with rfl | rfl <;> trivial
def rowV : List V := [.str (Str.ofString "row"), .bl true]
theorem row_fl : FlL rowV := by
  refine ⟨fun v hv => ?_, by decide +kernel⟩
  simp only [rowV, List.mem_cons, List.not_mem_nil, or_false] at hv
  rcases hv with rfl | rfl <;> trivial
theorem toldX_one (t : List Nat) (o : Option StepD) : toldX t [o] = match doX t o with
    | some u => [.str (Str.ofString "told"), .str (S u)]
    | none => [.str (Str.ofString "none"), .int 0] := by
  cases h : doX t o with
  | none =>
    rw [toldX_none (by rw [doXL_one]; exact h), badX_one h]
    rfl
  | some u => rw [toldX_some (by rw [doXL_one]; exact h)]
theorem toldX_two {t u : List Nat} {a : Option StepD} (h : doX t a = some u) (o : Option StepD) : toldX t [a, o] = match doX u o with
    | some w => [.str (Str.ofString "told"), .str (S w)]
    | none => [.str (Str.ofString "none"), .int 1] := by
  have e1 : doXL t [a, o] = doX u o := by
    show (doX t a).bind (fun u => doXL u [o]) = _
    rw [h]
    exact doXL_one u o
  have e2 : badX t [a, o] = badX u [o] + 1 := by
    conv => lhs; unfold badX
    rw [h]
  cases g : doX u o with
  | none =>
    rw [toldX_none (e1.trans g), e2, badX_one g]
    rfl
  | some w => rw [toldX_some (e1.trans g)]
/-! a text, many times -/
theorem fold_rep (l : List Nat) : ∀ (n : Nat) (acc : Array Nat), (List.replicate n l.toArray).foldl (· ++ ·) acc = acc ++ ((List.replicate n l).flatten).toArray
  | 0, acc => by simp
  | n + 1, acc => by
    rw [List.replicate_succ, List.foldl_cons, fold_rep l n, List.replicate_succ, List.flatten_cons, ← List.append_toArray, Array.append_assoc]
theorem mul_many {l : List Nat} {n : Nat} (h1 : 2 ≤ n) (h2 : n ≤ 5000) (h3 : 1 ≤ l.length) (h4 : l.length ≤ 2) : MulOk (S l) (n : Int) ∧ Txt.mul (S l) (n : Int) = S ((List.replicate n l).flatten) := by
  refine ⟨⟨?_, fun _ _ => ?_, fun _ _ => ?_⟩, ?_⟩
  · rw [Bool.or_eq_false_iff, decide_eq_false_iff_not, decide_eq_false_iff_not]
    omega
  · rw [len_S]
    have h : (5000 : Int) ≤ (2 ^ 63 - 1) / (n : Int) := (Int.le_ediv_iff_mul_le (by omega)).mpr (by omega)
    omega
  · rw [len_S]
    have : l.length * (n : Int).toNat ≤ 2 * 5000 := Nat.mul_le_mul h4 (by omega)
    show decide (_ > sizeLine) = false
    exact decide_eq_false (Nat.not_lt.mpr (Nat.le_trans this (by decide)))
  · unfold Txt.mul
    have e : ((n : Int) == 1 || (S l).length == 0) = false := by
      rw [len_S, Bool.or_eq_false_iff, beq_eq_false_iff_ne, beq_eq_false_iff_ne]
      omega
    rw [if_neg (by omega), e, if_neg (by decide)]
    have := fold_rep l n #[]
    rw [Int.toNat_natCast]
    show (⟨(List.replicate n l.toArray).foldl (· ++ ·) #[]⟩ : Str) = ⟨_⟩
    rw [this]
    simp
theorem flat_one (n c : Nat) : (List.replicate n [c]).flatten = List.replicate n c := by
  induction n with
  | zero => rfl
  | succ n ih => rw [List.replicate_succ, List.flatten_cons, ih, List.replicate_succ]; rfl
theorem flat_len (n : Nat) (l : List Nat) : ((List.replicate n l).flatten).length = n * l.length := by
  induction n with
  | zero => simp
  | succ n ih => rw [List.replicate_succ, List.flatten_cons, List.length_append, ih, Nat.add_mul]; omega
theorem long_true {H : Hp} {t : List Nat} (rt : Row t) (z : t.length ≤ 40000) : IsRowW H (.str (S t)) 4000 (decide (t.length ≤ 4000)) := by
  refine .inl ⟨t, rfl, z, ?_⟩
  have : (t.all fun c => decide (c ∈ sgns)) = true := by
    rw [List.all_eq_true]
    exact fun c hc => decide_eq_true (rt c hc)
  rw [this, Bool.and_true]
  exact decide_eq_decide.mpr (by omega)
def pickV (o : Option (List Nat)) (n : Int) : List V := match o with
  | some u => [.str (Str.ofString "told"), .str (S u)]
  | none => [.str (Str.ofString "none"), .int n]
theorem pick {H : Hp} {A B C : Addr} {o : Option (List Nat)} {n : Int} (hA : H A = none) (hB : (upd H A (.lst [V.str (Str.ofString "told"), optS o])) B = none)
    (hC : (upd (upd H A (.lst [V.str (Str.ofString "told"), optS o])) B (.lst [V.str (Str.ofString "none"), .int n])) C = none) :
    ∃ (H' : Hp) (P : Addr), H' = upd (upd (upd H A (.lst [V.str (Str.ofString "told"), optS o])) B (.lst [V.str (Str.ofString "none"), .int n])) C (.lst [V.ref A, .ref B]) ∧ Same H H' ∧ H' C = some (.lst [V.ref A, .ref B]) ∧
      atI [V.ref A, V.ref B] (if decide (optS o = V.non) = true then 1 else 0) = some (.ref P) ∧ H' P = some (.lst (pickV o n)) := by
  have sA := Same.new (o := .lst [V.str (Str.ofString "told"), optS o]) hA
  have gA : (upd H A (.lst [V.str (Str.ofString "told"), optS o])) A = some (.lst [V.str (Str.ofString "told"), optS o]) := upd_same
  have sB := Same.new (o := .lst [V.str (Str.ofString "none"), .int n]) hB
  have gA := sB _ _ gA
  have gB : (upd (upd H A (.lst [V.str (Str.ofString "told"), optS o])) B (.lst [V.str (Str.ofString "none"), .int n])) B = some (.lst [V.str (Str.ofString "none"), .int n]) := upd_same
  have sC := Same.new (o := .lst [V.ref A, .ref B]) hC
  have gA := sC _ _ gA
  have gB := sC _ _ gB
  cases o with
  | none => exact ⟨_, B, rfl, Same.trans sA (Same.trans sB sC), upd_same, (by rw [decide_eq_true (show optS none = V.non from rfl)]; rfl), gB⟩
  | some u => exact ⟨_, A, rfl, Same.trans sA (Same.trans sB sC), upd_same, (by rw [decide_eq_false (fun h : optS (some u) = V.non => nomatch h)]; rfl), gA⟩
theorem toldX_p1 (t : List Nat) (o : Option StepD) : toldX t [o] = pickV (doX t o) 0 := toldX_one t o
theorem toldX_p2 {t u : List Nat} {a : Option StepD} (h : doX t a = some u) (o : Option StepD) : toldX t [a, o] = pickV (doX u o) 1 := toldX_two h o

/-- a def that the caller knows: where it stands, how its arguments bind, what it promises -/
def KN (P : Program) (w : World) (K : PySem.W.Frag) (mg : Str → Option Value) (base : Heap) (CX : CXT) (k : Nat) (ps : List Str) (sp : Sp) (x : Str) (dvs : List V) : Prop :=
  ∃ (f : Addr) (fd : FuncData) (ds : List Value), mg x = some (.ref f) ∧ PySem.W.keepIn K (.ref f) = true ∧ Vals dvs ds ∧ Binds K fd ps ds ∧ FnOk P w K mg base CX k f fd ps sp
/-- a method that the caller knows -/
def KM (P : Program) (w : World) (K : PySem.W.Frag) (mg : Str → Option Value) (base : Heap) (CX : CXT) (k : Nat) (ps : List Str) (sp : Sp) (C : Addr) (n : Str) (dvs : List V) : Prop :=
  ∃ (f : Addr) (fd : FuncData) (ds : List Value), PySem.W.findIn K (.ref C) n = some (some (.ref f)) ∧ PySem.W.typeIn K (.ref f) = some (.type "function") ∧ PySem.W.isFn K (.ref f) = true ∧ PySem.W.keepIn K (.ref f) = true ∧ Vals dvs ds ∧ Binds K fd ps ds ∧ FnOk P w K mg base CX k f fd ps sp
structure Txt (K : PySem.W.Frag) (mg : Str → Option Value) (w : World) (D_NUMBERS : Addr) (D_STEPS : Addr) (C_NoRow : Addr) (C_NoStep : Addr) : Prop where
  b_LookupError : mg "LookupError" = none
  b_ValueError : mg "ValueError" = none
  b_all : mg "all" = none
  b_bool : mg "bool" = none
  b_enumerate : mg "enumerate" = none
  b_int : mg "int" = none
  b_isinstance : mg "isinstance" = none
  b_len : mg "len" = none
  b_list : mg "list" = none
  b_max : mg "max" = none
  b_min : mg "min" = none
  b_range : mg "range" = none
  b_str : mg "str" = none
  b_tuple : mg "tuple" = none
  g_MOST_LONG : ∃ u, mg "MOST_LONG" = some u ∧ RelV (.int 4000) u
  g_SIGNS : ∃ u, mg "SIGNS" = some u ∧ RelV (.str "aAbBcCdDeEfF") u
  v_LookupError : PySem.W.findCls K (.type "LookupError") (.type "type") "__init__" = some (.val (.builtin "LookupError.__init__"))
  y_NoStep_number : PySem.W.findIn K (.ref C_NoStep) "number" = some none
  x_NoRow : ExK K mg "NoRow" C_NoRow [.type "ValueError", .type "Exception", .type "BaseException", .type "object"] "ValueError.__new__"
  x_NoStep : ExF K mg "NoStep" C_NoStep "LookupError" "LookupError.__new__" "LookupError.__init__" [.type "LookupError", .type "Exception", .type "BaseException", .type "object"]
  q_NUMBERS : KDt K w mg "NUMBERS" D_NUMBERS
  q_NUMBERS_less : ∃ t, PySem.W.nsIn K D_NUMBERS "less" = some (some (.int 2 t))
  q_NUMBERS_more : ∃ t, PySem.W.nsIn K D_NUMBERS "more" = some (some (.int 2 t))
  q_NUMBERS_past : ∃ t, PySem.W.nsIn K D_NUMBERS "past" = some (some (.int 3 t))
  q_STEPS : KDt K w mg "STEPS" D_STEPS
  q_STEPS_less : ∃ f, mg "less_of" = some (.ref f) ∧ PySem.W.nsIn K D_STEPS "less" = some (some (.ref f))
  q_STEPS_more : ∃ f, mg "more_of" = some (.ref f) ∧ PySem.W.nsIn K D_STEPS "more" = some (some (.ref f))
  q_STEPS_past : ∃ f, mg "past_of" = some (.ref f) ∧ PySem.W.nsIn K D_STEPS "past" = some (some (.ref f))
  n1 : PySem.W.subIn K (.ref C_NoStep) (.type "LookupError") = some true
  n2 : PySem.W.subIn K (.ref C_NoStep) (.type "KeyError") = some false
  n3 : PySem.W.subIn K (.ref C_NoStep) (.type "IndexError") = some false
  z0 : PySem.W.nsIn K D_NUMBERS "Less" = some none
  z1 : PySem.W.nsIn K D_NUMBERS "lesser" = some none
  z2 : PySem.W.nsIn K D_NUMBERS "" = some none
  z3 : PySem.W.nsIn K D_NUMBERS "pass" = some none
  z4 : PySem.W.nsIn K D_NUMBERS "1" = some none
  n4 : PySem.W.subIn K (.ref C_NoRow) (.type "ValueError") = some true
  n5 : PySem.W.subIn K (.ref C_NoRow) (.ref C_NoStep) = some false
  n6 : PySem.W.subIn K (.ref C_NoStep) (.ref C_NoRow) = some false
def sp_law_pool (K : PySem.W.Frag) : Sp := fun vs H Q E => ∃ (a : Addr) (ns : List Int) (i : Int), vs = [.ref a, .int i] ∧ (SqL K H a (ns.map V.int)) ∧ (0 ≤ i) ∧ (i < 1000) ∧ ∀ (p : Addr) (H' : Hp), H p = none → Same H H' → Pool H' p → Q (.ref p) H'
def sp_law_take : Sp := fun vs H Q E => ∃ (p : Addr) (m : Int), vs = [.ref p, .int m] ∧ (Pool H p) ∧ (0 < m) ∧ (m < 18446744073709551616) ∧ ∀ (v : Int) (H' : Hp), 0 ≤ v → v < m → Off p H H' → Pool H' p → Q (.int v) H'
def sp_law_turned : Sp := fun vs H Q E => ∃ (l : List Nat), vs = [.str (S l)] ∧ (Row l) ∧ (l.length ≤ 40000) ∧ ∀ H' : Hp, Same H H' → Q (.str (S (RowM.turn l))) H'
def sp_law_row : Sp := fun vs H Q E => ∃ (p : Addr) (most deeds : Int), vs = [.ref p, .int most, .int deeds] ∧ (Pool H p) ∧ (0 ≤ most) ∧ (most ≤ 1000) ∧ (1 ≤ deeds) ∧ (deeds ≤ 6) ∧ ∀ (l : List Nat) (H' : Hp), Row l → (l.length : Int) ≤ most → (∀ c ∈ l, (ix c : Int) < 2 * deeds) → Off p H H' → Pool H' p → Q (.str (S l)) H'
def sp_law_done (K : PySem.W.Frag) : Sp := fun vs H Q E => ∃ (t : List Nat) (p : Addr) (st : StepD), vs = [.str (S t), .ref p] ∧ (Row t) ∧ (t.length ≤ 5000) ∧ (H p = some (.tup st.vals)) ∧ (st.ok) ∧ ∀ H' : Hp, Same H H' → Q (optS (doR t st)) H'
def sp_law_step (K : PySem.W.Frag) : Sp := fun vs H Q E => ∃ (p : Addr) (t : List Nat), vs = [.ref p, .str (S t)] ∧ (Pool H p) ∧ (Row t) ∧ (t.length ≤ 200) ∧ ∀ (q : Addr) (st : StepD) (H' : Hp), Off p H H' → Pool H' p → q ≠ p → H' q = some (.tup st.vals) → st.ok ∧ st.small → Q (.ref q) H'
def sp_law_bent (K : PySem.W.Frag) : Sp := fun vs H Q E => ∃ (p q : Addr) (st : StepD), vs = [.ref p, .ref q] ∧ (Pool H p) ∧ (H q = some (.tup st.vals)) ∧ (q ≠ p) ∧ (st.ok ∧ st.small) ∧ ∀ (x : V) (o : Option StepD) (H' : Hp), Off p H H' → Pool H' p → Thg H' x o → AwayV p x → Q x H'
def sp_law_formed (K : PySem.W.Frag) : Sp := fun vs H Q E => ∃ (x : V) (o : Option StepD), vs = [x] ∧ (Thg H x o) ∧ ∀ H' : Hp, Same H H' → Q (.bl o.isSome) H'
def sp_is_row_within : Sp := fun vs H Q E => ∃ (x : V) (most : Int) (r : Bool), vs = [x, .int most] ∧ (IsRowW H x most r) ∧ ∀ H' : Hp, Same H H' → Q (.bl r) H'
def sp_is_long_row : Sp := fun vs H Q E => ∃ (x : V) (r : Bool), vs = [x] ∧ (IsRowW H x 4000 r) ∧ ∀ H' : Hp, Same H H' → Q (.bl r) H'
def sp_look_at_long_row (C_NoRow : Addr) : Sp := fun vs H Q E => ∃ (x : V) (r : Bool), vs = [x] ∧ (IsRowW H x 4000 r) ∧ (r = true → ∀ H' : Hp, Same H H' → Q .non H') ∧ (r = false → ∀ H' : Hp, Same H H' → E (.ref C_NoRow) none H')
def sp_part_of : Sp := fun vs H Q E => ∃ (t : List Nat) (a m : Nat), vs = [.str (S t), .int (a : Int), .int (m : Int)] ∧ (t.length ≤ 40000) ∧ ∀ H' : Hp, Same H H' → Q (optS (partR t a m)) H'
def sp_contrary_sign : Sp := fun vs H Q E => ∃ (c : Nat), vs = [.str (S [c])] ∧ (c ∈ sgns) ∧ ∀ H' : Hp, Same H H' → Q (.str (S [con c])) H'
def sp_turned : Sp := fun vs H Q E => ∃ (l : List Nat), vs = [.str (S l)] ∧ (Row l) ∧ (l.length ≤ 40000) ∧ ∀ H' : Hp, Same H H' → Q (.str (S (RowM.turn l))) H'
def sp_less_of : Sp := fun vs H Q E => ∃ (t : List Nat) (a m : Nat), vs = [.str (S t), .int (a : Int), .int (m : Int)] ∧ (Row t) ∧ (t.length ≤ 10000) ∧ (1 ≤ m) ∧ (0 ≤ m) ∧ ∀ H' : Hp, Same H H' → Q (optS (lessR t a m)) H'
def sp_more_of : Sp := fun vs H Q E => ∃ (t : List Nat) (a m : Nat), vs = [.str (S t), .int (a : Int), .int (m : Int)] ∧ (Row t) ∧ (t.length ≤ 10000) ∧ (1 ≤ m) ∧ (0 ≤ m) ∧ ∀ H' : Hp, Same H H' → Q (optS (moreR t a m)) H'
def sp_is_whole : Sp := fun vs H Q E => ∃ (x : V) (r : Bool), vs = [x] ∧ (IntW H x r) ∧ ∀ H' : Hp, Same H H' → Q (.bl r) H'
def sp_is_formed (K : PySem.W.Frag) : Sp := fun vs H Q E => ∃ (x : V) (o : Option StepD), vs = [x] ∧ (Thg H x o) ∧ ∀ H' : Hp, Same H H' → Q (.bl o.isSome) H'
def sp_past_of : Sp := fun vs H Q E => ∃ (t : List Nat) (a m j : Nat), vs = [.str (S t), .int (a : Int), .int (m : Int), .int (j : Int)] ∧ (Row t) ∧ (t.length ≤ 10000) ∧ (1 ≤ m) ∧ (0 ≤ m) ∧ (1 ≤ j) ∧ (0 ≤ j) ∧ ∀ H' : Hp, Same H H' → Q (optS (pastR t a m j)) H'
def sp_done (K : PySem.W.Frag) : Sp := fun vs H Q E => ∃ (t : List Nat) (x : V) (o : Option StepD), vs = [.str (S t), x] ∧ (Row t) ∧ (t.length ≤ 4000) ∧ (Thg H x o) ∧ ∀ H' : Hp, Same H H' → Q (optS (doX t o)) H'
def sp_NoStep___init__ (C_NoStep : Addr) : Sp := fun vs H Q E => ∃ (a : Addr) (v : V), vs = [.ref a, v] ∧ (H a = some (exo a C_NoStep none)) ∧ ∀ d : Addr, H d = none → d ≠ a → Q .non (upd (upd (upd H d (exd d [])) a (exo a C_NoStep (some d))) d (exd d [(Str.ofString "number", v)]))
def sp_led_on (K : PySem.W.Frag) (C_NoStep : Addr) (C_NoRow : Addr) : Sp := fun vs H Q E => ∃ (y : V) (r : Bool) (q : Addr) (xs : List V) (os : List (Option StepD)), vs = [y, .ref q] ∧ (IsRowW H y 4000 r) ∧ (H q = some (.lst xs)) ∧ (ThgL H xs os) ∧ (∀ t u, y = .str (S t) → Row t → t.length ≤ 4000 → doXL t os = some u → ∀ H' : Hp, Same H H' → Q (.str (S u)) H') ∧ (∀ t, y = .str (S t) → Row t → t.length ≤ 4000 → doXL t os = none → ∀ (d : Addr) (H' : Hp), Same H H' → H' d = some (.xd [(Str.ofString "number", .int (badX t os : Nat))]) → E (.ref C_NoStep) (some d) H') ∧ (r = false → ∀ H' : Hp, Same H H' → E (.ref C_NoRow) none H')
def sp_stepped (K : PySem.W.Frag) (C_NoStep : Addr) (C_NoRow : Addr) : Sp := fun vs H Q E => ∃ (y : V) (r : Bool) (x : V) (o : Option StepD), vs = [y, x] ∧ (IsRowW H y 4000 r) ∧ (Thg H x o) ∧ (∀ t u, y = .str (S t) → Row t → t.length ≤ 4000 → doX t o = some u → ∀ H' : Hp, Same H H' → Q (.str (S u)) H') ∧ (∀ t, y = .str (S t) → Row t → t.length ≤ 4000 → doX t o = none → ∀ (d : Addr) (H' : Hp), Same H H' → H' d = some (.xd [(Str.ofString "number", .int 0)]) → E (.ref C_NoStep) (some d) H') ∧ (r = false → ∀ H' : Hp, Same H H' → E (.ref C_NoRow) none H')
def sp_law_told (K : PySem.W.Frag) (C_NoStep : Addr) (C_NoRow : Addr) : Sp := fun vs H Q E => ∃ (y : V) (r : Bool) (x : V) (o : Option StepD), vs = [y, x] ∧ (IsRowW H y 4000 r) ∧ (Thg H x o) ∧ ∀ (d : Addr) (vs : List V) (H' : Hp), Same H H' → H d = none → H' d = some (.lst vs) → (∀ t, y = .str (S t) → r = true → vs = toldX t [o]) → (r = false → vs = [.str (Str.ofString "row"), .bl true]) → Q (.ref d) H'
def sp_law_told_on (K : PySem.W.Frag) (C_NoStep : Addr) (C_NoRow : Addr) : Sp := fun vs H Q E => ∃ (t : List Nat) (q : Addr) (xs : List V) (os : List (Option StepD)), vs = [.str (S t), .ref q] ∧ (Row t) ∧ (t.length ≤ 4000) ∧ (H q = some (.lst xs)) ∧ (ThgL H xs os) ∧ ∀ (d : Addr) (H' : Hp), Same H H' → H d = none → H' d = some (.lst (toldX t os)) → Q (.ref d) H'
def sp_law (K : PySem.W.Frag) : Sp := fun vs H Q E => ∃ (a : Addr) (ns : List Int), vs = [.ref a] ∧ (SqL K H a (ns.map V.int)) ∧ (ns.length ≤ 63) ∧ ∀ H', Q (.bl true) H'
section
variable {P : Program} {w : World} {K : PySem.W.Frag} {mg : Str → Option Value} {base : Heap} {D_NUMBERS : Addr} {D_STEPS : Addr} {C_NoRow : Addr} {C_NoStep : Addr}
theorem sc_law_pool : FnScope ["_law_script", "_law_k", "_law_cell", "_law_number"] ["_law_script", "_law_k"] (defScope s_law_pool) := ⟨rfl, rfl, rfl, by decide +kernel, rfl, by decide +kernel, by decide +kernel⟩
theorem ok_law_pool {f : Addr} {fd : FuncData} (F : Fun K "_law_pool" "_law_pool" s_law_pool f fd) (T : Txt K mg w D_NUMBERS D_STEPS C_NoRow C_NoStep) : FnOk P w K mg base CX0 1 f fd ["_law_script", "_law_k"] (sp_law_pool K) := by
  refine F.ok sc_law_pool (fun vs H Q E h => ?_) (fun cdv A outer s H vs Q E hr h => ?_)
  · obtain ⟨a, ns, i, rfl, _⟩ := h
    all_goals rfl
  · obtain ⟨a, ns, i, rfl, ha, h0, h1, k⟩ := h
    refine ⟨_, (pss_cons (ps_set (i := 2) sc_law_pool.nd rfl (Or.inl rfl) pe_int)
    (pss_cons (ps_if (pt_cmpR op_lt (pv 1) (pe_callB (call_lenK (K := K)) (by rfl) T.b_len (by decide +kernel) (pa_cons (pv 0) pa_nil)) (nomark _)) (pss_one (ps_set (i := 2) sc_law_pool.nd rfl (Or.inl rfl) (pe_ix (ix_listK (K := K)) (pv 0) (pv 1) (fun _ _ => rfl)))) pss_nil)
    (pss_cons (ps_set (i := 3) sc_law_pool.nd rfl (Or.inl rfl) (pe_op op_mod (pe_op op_pow (pe_op op_add (pe_op op_add (pe_op op_mod (pv 2) pe_int) (pe_op op_mul (pe_op op_mul pe_int (pv 1)) (pv 1))) pe_int) pe_int) pe_int))
    (pss_cons (ps_if (pt_cmpR op_lt (pv 2) (pe_op op_pow pe_int pe_int) (nomark _)) (pss_one (ps_set (i := 2) sc_law_pool.nd rfl (Or.inl rfl) pe_int)) pss_nil)
    (pss_one (ps_ret (pe_lst (pa_cons (pv 2) (pa_cons (pv 3) pa_nil))))))))), ?_⟩
    have go : ∀ c : Int, tSeq (tAsg (tOp (rI (fun x j => 0 < j) fun i j => V.int (i % j))
                (tOp (rI CPow fun i j => V.int (i ^ j.toNat))
                  (tOp (rI0 fun i j => V.int (i + j))
                    (tOp (rI0 fun i j => V.int (i + j))
                      (tOp (rI (fun x j => 0 < j) fun i j => V.int (i % j)) (tVar 2) (tC (V.int 2147483629)))
                      (tOp (rI CMul fun i j => V.int (i * j))
                        (tOp (rI CMul fun i j => V.int (i * j)) (tC (V.int 104729)) (tVar 1)) (tVar 1)))
                    (tC (V.int 11)))
                  (tC (V.int 3)))
                (tC (V.int 2147483647)))
              (gName 3))
            (tSeq
              (tIfS
                (tTest
                  (tOp (rI0 fun i j => V.bl (decide (i < j))) (tVar 2)
                    (tOp (rI CPow fun i j => V.int (i ^ j.toNat)) (tC (V.int 10)) (tC (V.int 18)))))
                (tAsg (tC (V.int 0)) (gName 2)) tNext)
              (tRet (tLst (tCons (tVar 2) (tCons (tVar 3) tNil))))) { nx := fun x H' => Q V.non H', rt := Q } [some (.ref a), some (.int i), some (.int c), none] H := fun c => by
        have z0 : 0 ≤ c % 2147483629 := Int.emod_nonneg _ (by decide)
        have z1 : c % 2147483629 < 2147483629 := Int.emod_lt_of_pos _ (by decide)
        have m0 : 0 ≤ i * i := Int.mul_nonneg h0 h0
        have m1 : i * i < 1000000 := by
          have : i * i ≤ 999 * 999 := Int.mul_le_mul (by omega) (by omega) h0 (by decide)
          omega
        have ea : 104729 * i * i = 104729 * (i * i) := Int.mul_assoc _ _ _
        refine ⟨_, rfl, _, _, rfl, rfl, (by show (0 : Int) < 2147483629; decide), _, rfl, _, _, rfl, rfl, .inl ⟨by decide, by decide⟩, _, rfl, _, _, rfl, rfl, .inr ⟨by omega, by omega⟩, _, _, rfl, rfl, _, _, rfl, rfl, _, _, rfl, rfl, ⟨by decide, by decide, by omega⟩, _, _, rfl, rfl, (by show (0 : Int) < 2147483647; decide), ?_⟩
        have y0 : 0 ≤ ((c % 2147483629 + 104729 * i * i + 11) ^ (3 : Int).toNat) % 2147483647 := Int.emod_nonneg _ (by decide)
        have y1 : ((c % 2147483629 + 104729 * i * i + 11) ^ (3 : Int).toNat) % 2147483647 < 2147483647 := Int.emod_lt_of_pos _ (by decide)
        refine ⟨_, rfl, _, _, rfl, rfl, ⟨by decide, by decide, by decide⟩, _, _, rfl, rfl, _, rfl, ?_⟩
        refine ite2 (fun _ => ?_) (fun _ => ?_)
        · exact ⟨_, rfl, _, rfl, (by show 2 ≤ sizeLine; decide), fun p hp => k p _ hp (Same.new hp) ⟨_, _, upd_same, y0, y1⟩⟩
        · exact ⟨_, rfl, _, rfl, (by show 2 ≤ sizeLine; decide), fun p hp => k p _ hp (Same.new hp) ⟨_, _, upd_same, y0, y1⟩⟩
    refine ⟨_, rfl, _, rfl, _, _, rfl, .inl ha, _, _, rfl, rfl, _, rfl, ?_⟩
    refine ite2 (fun q => ?_) (fun _ => go 0)
    have hl : i < (ns.length : Int) := by
      have q := of_decide_eq_true q
      rw [List.length_map] at q
      exact q
    obtain ⟨j, rfl⟩ : ∃ j : Nat, i = (j : Int) := ⟨i.toNat, by omega⟩
    have hj : j < ns.length := by omega
    refine ⟨_, rfl, _, rfl, _, _, _, _, rfl, rfl, ha, atI_nat (by rw [List.getElem?_map, List.getElem?_eq_getElem hj]; rfl), go _⟩
theorem sc_law_take : FnScope ["_law_pool_here", "_law_many", "_law_found"] ["_law_pool_here", "_law_many"] (defScope s_law_take) := ⟨rfl, rfl, rfl, by decide +kernel, rfl, by decide +kernel, by decide +kernel⟩
theorem ok_law_take {f : Addr} {fd : FuncData} (F : Fun K "_law_take" "_law_take" s_law_take f fd) (T : Txt K mg w D_NUMBERS D_STEPS C_NoRow C_NoStep) : FnOk P w K mg base CX0 1 f fd ["_law_pool_here", "_law_many"] (sp_law_take) := by
  refine F.ok sc_law_take (fun vs H Q E h => ?_) (fun cdv A outer s H vs Q E hr h => ?_)
  · obtain ⟨p, m, rfl, _⟩ := h
    all_goals rfl
  · obtain ⟨p, m, rfl, hp, h0, h1, k⟩ := h
    refine ⟨_, (pss_cons (ps_if (pt_cmpR op_gt (pe_ix (ix_listK (K := K)) (pv 0) pe_int (fun _ _ => rfl)) pe_int (nomark _)) (pss_cons (ps_set (i := 2) sc_law_take.nd rfl (Or.inl rfl) (pe_op op_mod (pe_ix (ix_listK (K := K)) (pv 0) pe_int (fun _ _ => rfl)) (pv 1)))
    (pss_cons (ps_asg (pe_op op_fdivW (pe_ix (ix_listK (K := K)) (pv 0) pe_int (fun _ _ => rfl)) (pv 1)) (pg_sub (pv 0) pe_int set_list))
    (pss_one (ps_ret (pv 2))))) pss_nil)
    (pss_cons (ps_asg (pe_op op_mod (pe_op op_add (pe_op op_mul (pe_ix (ix_listK (K := K)) (pv 0) pe_int (fun _ _ => rfl)) pe_int) pe_int) pe_int) (pg_sub (pv 0) pe_int set_list))
    (pss_one (ps_ret (pe_op op_mod (pe_op op_fdiv (pe_op op_mod (pe_op op_mul (pe_ix (ix_listK (K := K)) (pv 0) pe_int (fun _ _ => rfl)) (pe_ix (ix_listK (K := K)) (pv 0) pe_int (fun _ _ => rfl))) pe_int) pe_int) (pv 1)))))), ?_⟩
    obtain ⟨c, n, hp, n0, n1⟩ := hp
    refine ⟨_, rfl, _, _, _, _, rfl, rfl, SqL.of hp, atI0, _, _, rfl, rfl, _, rfl, ?_⟩
    refine ite2 (fun _ => ?_) (fun _ => ?_)
    · refine ⟨_, rfl, _, _, _, _, rfl, rfl, SqL.of hp, atI0, _, rfl, _, _, rfl, rfl, h0, ?_⟩
      refine ⟨_, rfl, _, _, _, _, rfl, rfl, SqL.of hp, atI0, _, rfl, _, _, rfl, rfl, wide_div h0 (b := 64) (by omega) (by decide) (by decide), _, rfl, _, _, _, 0, rfl, rfl, hp, rfl, ?_⟩
      exact ⟨_, rfl, k _ _ (Int.emod_nonneg _ (by omega)) (Int.emod_lt_of_pos _ h0) (Off.upd (Off.refl _ _)) ⟨_, n, upd_same, n0, n1⟩⟩
    · refine ⟨_, rfl, _, _, _, _, rfl, rfl, SqL.of hp, atI1, _, _, rfl, rfl, .inr ⟨by decide, by decide⟩, _, _, rfl, rfl, _, _, rfl, rfl, (by show (0 : Int) < 2147483647; decide), _, rfl, _, _, _, 1, rfl, rfl, hp, rfl, ?_⟩
      have z0 : 0 ≤ (n * 48271 + 11) % 2147483647 := Int.emod_nonneg _ (by decide)
      have z1 : (n * 48271 + 11) % 2147483647 < 2147483647 := Int.emod_lt_of_pos _ (by decide)
      refine ⟨_, rfl, _, _, _, _, rfl, rfl, SqL.of upd_same, atI1, _, rfl, _, _, _, _, rfl, rfl, SqL.of upd_same, atI1, _, _, rfl, rfl, .inl ⟨by omega, by omega⟩, _, _, rfl, rfl, (by show (0 : Int) < 2147483629; decide), _, _, rfl, rfl, ⟨by decide, by decide⟩, _, rfl, _, _, rfl, rfl, h0, ?_⟩
      exact k _ _ (Int.emod_nonneg _ (by omega)) (Int.emod_lt_of_pos _ h0) (Off.upd (Off.refl _ _)) ⟨_, _, upd_same, z0, z1⟩
theorem sc_law_turned : FnScope ["_law_text", "_law_sign"] ["_law_text"] (defScope s_law_turned) := ⟨rfl, rfl, rfl, by decide +kernel, rfl, by decide +kernel, by decide +kernel⟩
theorem ok_law_turned {f : Addr} {fd : FuncData} (F : Fun K "_law_turned" "_law_turned" s_law_turned f fd) (T : Txt K mg w D_NUMBERS D_STEPS C_NoRow C_NoStep) : FnOk P w K mg base CX0 1 f fd ["_law_text"] (sp_law_turned) := by
  refine F.ok sc_law_turned (fun vs H Q E h => ?_) (fun cdv A outer s H vs Q E hr h => ?_)
  · obtain ⟨l, rfl, _⟩ := h
    all_goals rfl
  · obtain ⟨l, rfl, hl, hz, k⟩ := h
    refine ⟨_, (pss_one (ps_ret (pe_m1 PySem.F.slot_str_join PySem.F.type_str_join (mt_joinK (K := K)) pe_str (pe_lc (own := [("_law_sign", 1)]) (g := gName 1) (tt := tYes) rfl sc_law_turned.nd (pi_str (pe_revS (pv 0))) (blkOk_by (own := [("_law_sign", 1)]) (N := ["_law_text", "_law_sign"]) (sc := defScope s_law_turned) (by decide +kernel)) (fun _ _ _ _ _ => (pg_name (i := 1) sc_law_turned.nd rfl (Or.inl rfl))) (fun _ _ _ _ _ => pts_nil) (fun _ _ _ _ _ => (pe_ix (ix_listK (K := K)) (pe_lst (pa_cons (pe_upper (pv 1)) (pa_cons (pe_lower (pv 1)) pa_nil))) (pe_callTy call_int1 (by rfl) T.b_int (by decide +kernel) (pa_cons (pe_m0 PySem.F.slot_str_isupper PySem.F.type_str_isupper mt_isupper (pv 1)) pa_nil)) (fun _ _ => rfl))))))), ?_⟩
    refine Evl.s_ret (Evl.ev_is (ev_joinMap con Evl.ev_c (by decide) (Evl.ev_revS (Evl.ev_var rfl) (by rw [len_S]; omega)) (by show (S l.reverse).length ≤ _; rw [len_S, List.length_reverse]; omega) (fun _ => rfl) (fun c H1 e hc => ?_)) rfl) fun H1 e => k H1 e
    have hc : c ∈ sgns := hl c (List.mem_reverse.mp hc)
    exact Evl.ev_ixNew (Evl.el_lst (Evl.ea_cons (Evl.ev_m0 (Evl.ev_var rfl) one_le) (Evl.ea_cons (Evl.ev_m0 (Evl.ev_var rfl) one_le) Evl.ea_nil)) (by show 2 ≤ _; decide)) (fun H1 e => Evl.ev_intB (Evl.ev_m0 (Evl.ev_var rfl) trivial)) (at_turn hc)
theorem sc_law_row : FnScope ["_law_pool_here", "_law_most", "_law_deeds", "_law_way", "_law_found", "_law_left", "_law_k", "_law_sign"] ["_law_pool_here", "_law_most", "_law_deeds"] (defScope s_law_row) := ⟨rfl, rfl, rfl, by decide +kernel, rfl, by decide +kernel, by decide +kernel⟩
theorem ok_law_row {f : Addr} {fd : FuncData} (F : Fun K "_law_row" "_law_row" s_law_row f fd) (T : Txt K mg w D_NUMBERS D_STEPS C_NoRow C_NoStep) (kn_law_take : KN P w K mg base CX0 1 ["_law_pool_here", "_law_many"] (sp_law_take) "_law_take" []) (kn_law_turned : KN P w K mg base CX0 1 ["_law_text"] (sp_law_turned) "_law_turned" []) : FnOk P w K mg base CX0 2 f fd ["_law_pool_here", "_law_most", "_law_deeds"] (sp_law_row) := by
  obtain ⟨f_law_take, fd_law_take, ds_law_take, m_law_take, k_law_take, v_law_take, b_law_take, G_law_take⟩ := kn_law_take
  obtain ⟨f_law_turned, fd_law_turned, ds_law_turned, m_law_turned, k_law_turned, v_law_turned, b_law_turned, G_law_turned⟩ := kn_law_turned
  refine F.ok sc_law_row (fun vs H Q E h => ?_) (fun cdv A outer s H vs Q E hr h => ?_)
  · obtain ⟨p, most, deeds, rfl, _⟩ := h
    all_goals rfl
  · obtain ⟨p, most, deeds, rfl, hp, m0, m1, d0, d1, k⟩ := h
    refine ⟨_, (pss_cons (ps_set (i := 3) sc_law_row.nd rfl (Or.inl rfl) (pe_call G_law_take (hr.mono (by decide)) rfl m_law_take k_law_take b_law_take v_law_take pass0 (pa_cons (pv 0) (pa_cons pe_int pa_nil))))
    (pss_cons (ps_set (i := 4) sc_law_row.nd rfl (Or.inl rfl) pe_str)
    (pss_cons (ps_set (i := 5) sc_law_row.nd rfl (Or.inl rfl) pe_str)
    (pss_cons (ps_for PassesOwn.never rfl (pi_range1 (by rfl) T.b_range (pa_cons (pe_call G_law_take (hr.mono (by decide)) rfl m_law_take k_law_take b_law_take v_law_take pass0 (pa_cons (pv 0) (pa_cons (pe_op op_add (pv 1) pe_int) pa_nil))) pa_nil)) (pg_name (i := 6) sc_law_row.nd rfl (Or.inl rfl)) (pss_cons (ps_set (i := 7) sc_law_row.nd rfl (Or.inl rfl) (pe_ix ix_str pe_str (pe_call G_law_take (hr.mono (by decide)) rfl m_law_take k_law_take b_law_take v_law_take pass0 (pa_cons (pv 0) (pa_cons (pe_op op_mul pe_int (pv 2)) pa_nil))) (fun _ _ => rfl)))
    (Evl.pss_cut (ps_if (PW.pt (pw_and (pt_cmpR op_gt (pv 3) pe_int (nomark _)) (pw_and (pt_cmpR op_ne (pv 5) pe_str (nomark _)) (pw_and1 (pt_cmpR op_gt (pe_call G_law_take (hr.mono (by decide)) rfl m_law_take k_law_take b_law_take v_law_take pass0 (pa_cons (pv 0) (pa_cons (pe_op op_add pe_int (pv 3)) pa_nil))) pe_int (nomark _)))))) (pss_cons (ps_set (i := 7) sc_law_row.nd rfl (Or.inl rfl) (pe_call G_law_turned (hr.mono (by decide)) rfl m_law_turned k_law_turned b_law_turned v_law_turned pass0 (pa_cons (pe_ix ix_str (pv 5) (pe_un un_neg pe_int) (fun _ _ => rfl)) pa_nil)))
    (pss_one (ps_set (i := 5) sc_law_row.nd rfl (Or.inl rfl) (pe_slice sl_str (pv 5) po_none (po_some (pe_un un_neg pe_int)))))) (pss_one (ps_set (i := 5) sc_law_row.nd rfl (Or.inl rfl) (pe_op op_add_str (pv 5) (pv 7)))))
    (pss_one (ps_set (i := 4) sc_law_row.nd rfl (Or.inl rfl) (pe_op op_add_str (pv 4) (pv 7)))))))
    (pss_one (ps_ret (pv 4))))))), ?_⟩
    refine ⟨_, rfl, p, 3, rfl, hp, by decide, by decide, fun way H1 w0 w1 o1 p1 => ?_⟩
    refine ⟨_, rfl, _, rfl, _, _, rfl, rfl, p, most + 1, rfl, p1, by omega, by omega, fun n H2 n0 n1 o2 p2 => ?_⟩
    refine ⟨n, rfl, by omega, by omega, for_range (lo := 0) (n := n.toNat) (fun i σ H' => ∃ (l m : List Nat) (x y : Option V), σ = [some (.ref p), some (.int most), some (.int deeds), some (.int way), some (.str (S l)), some (.str (S m)), x, y] ∧
        Row l ∧ Row m ∧ (∀ c ∈ l, (ix c : Int) < 2 * deeds) ∧ (∀ c ∈ m, (ix c : Int) < 2 * deeds) ∧ l.length = i ∧ m.length ≤ i ∧ Off p H H' ∧ Pool H' p)
      ⟨[], [], none, none, rfl, RowM.nil_row, RowM.nil_row, (by intro c q; cases q), (by intro c q; cases q), rfl, Nat.le_refl _, o1.trans o2, p2⟩ ?_ ?_⟩
    · rintro i σ H' hi ⟨l, m, x, y, rfl, hl, hm, il, im, zl, zm, o, hp⟩
      have hin : (i : Int) < n := by omega
      refine ⟨_, rfl, _, rfl, _, _, rfl, rfl, .inl ⟨by decide, by decide⟩, p, 2 * deeds, rfl, hp, by omega, by omega, fun v H3 v0 v1 o3 p3 => ?_⟩
      obtain ⟨c, hc, sc, ic⟩ := sign_of_at (i := v) v0 (by omega) rfl
      refine ⟨_, _, c, rfl, rfl, (by decide), hc, ?_⟩
      have icd : (ix c : Int) < 2 * deeds := by omega
      have z1 : l.length < 2000 := by omega
      have z2 : m.length < 2000 := by omega
      refine ⟨fun σ H' => ∃ (m : List Nat) (c : Nat), σ = [some (.ref p), some (.int most), some (.int deeds), some (.int way), some (.str (S l)), some (.str (S m)), some (.int (0 + i)), some (.str (S [c]))] ∧
        Row m ∧ c ∈ sgns ∧ (∀ c ∈ m, (ix c : Int) < 2 * deeds) ∧ (ix c : Int) < 2 * deeds ∧ m.length ≤ i + 1 ∧ Off p H H' ∧ Pool H' p, ?_, ?_⟩
      · have add : ∀ H4, Off p H H4 → Pool H4 p → ∀ (D : Ends), D.nx = (fun σ H' => ∃ (m : List Nat) (c : Nat), σ = [some (.ref p), some (.int most), some (.int deeds), some (.int way), some (.str (S l)), some (.str (S m)), some (.int (0 + i)), some (.str (S [c]))] ∧
            Row m ∧ c ∈ sgns ∧ (∀ c ∈ m, (ix c : Int) < 2 * deeds) ∧ (ix c : Int) < 2 * deeds ∧ m.length ≤ i + 1 ∧ Off p H H' ∧ Pool H' p) →
            tAsg (tOp (fun x y H Q => ∃ i j, x = V.str i ∧ y = V.str j ∧ i.length + j.length ≤ sizeLine ∧ Q (V.str (i ++ j)) H) (tVar 5) (tVar 7)) (gName 5) D
              [some (.ref p), some (.int most), some (.int deeds), some (.int way), some (.str (S l)), some (.str (S m)), some (.int (0 + i)), some (.str (S [c]))] H4 := fun H4 o4 p4 D hD => by
          refine ⟨_, rfl, _, rfl, _, _, rfl, rfl, sz_str (m := [c]) (by omega) (by simp), ?_⟩
          show D.nx _ _
          rw [hD, add_S]
          exact ⟨m ++ [c], c, rfl, row_snoc hm sc, sc, all_snoc im icd, icd, by simp; omega, o4, p4⟩
        walk_at "rd"
        refine ite2 (fun _ => ?_) (fun _ => iteF (add _ (o.trans o3) p3 _ rfl))
        walk_at "rd"
        refine ite2 (fun q => ?_) (fun _ => iteF (add _ (o.trans o3) p3 _ rfl))
        have mne : m ≠ [] := fun e => by
          subst e
          exact absurd q (by decide)
        refine ⟨_, rfl, _, rfl, _, _, rfl, rfl, p, 1 + way, rfl, p3, by omega, by omega, fun u H4 u0 u1 o4 p4 => ?_⟩
        walk_at "rd"
        refine ite2 (fun _ => ?_) (fun _ => add _ ((o.trans o3).trans o4) p4 _ rfl)
        obtain ⟨m, d, rfl⟩ := exists_snoc mne
        have hd : d ∈ sgns := hm d (by simp)
        refine ⟨_, rfl, _, rfl, _, _, d, rfl, rfl, sz_of' (by rw [len_S]; omega), at_last, [d], rfl, (by intro e he; rw [List.mem_singleton.mp he]; exact hd), (by simp), fun H5 s5 => ?_⟩
        refine ⟨_, rfl, _, rfl, _, rfl, _, rfl, sz_of' (by rw [len_S]; omega), ?_⟩
        rw [cut_last]
        refine ⟨m, con d, rfl, (fun e he => hm e (List.mem_append_left _ he)), RowM.con_mem hd, (fun e he => im e (List.mem_append_left _ he)), ?_, by simp at zm; omega, ((o.trans o3).trans o4).trans (off_of s5), p4.same s5⟩
        have := im d (by simp)
        have q := ix_con hd
        omega
      · rintro σ H4 ⟨m, c, rfl, hm, sc, im, icd, zm, o4, p4⟩
        refine ⟨_, rfl, _, rfl, _, _, rfl, rfl, sz_str (m := [c]) (by omega) (by simp), ?_⟩
        rw [add_S]
        exact ⟨l ++ [c], m, _, _, rfl, row_snoc hl sc, hm, all_snoc il icd, im, by simp [zl], zm, o4, p4⟩
    · rintro σ H' ⟨l, m, x, y, rfl, hl, hm, il, im, zl, zm, o, hp⟩
      exact ⟨_, rfl, k l H' hl (by omega) il o hp⟩
theorem sc_law_done : FnScope ["_law_text", "_law_step_here", "_law_word", "_law_at", "_law_many", "_law_one", "_law_other", "_law_behind", "_law_ahead"] ["_law_text", "_law_step_here"] (defScope s_law_done) := ⟨rfl, rfl, rfl, by decide +kernel, rfl, by decide +kernel, by decide +kernel⟩
theorem ok_law_done {f : Addr} {fd : FuncData} (F : Fun K "_law_done" "_law_done" s_law_done f fd) (T : Txt K mg w D_NUMBERS D_STEPS C_NoRow C_NoStep) (kn_law_turned : KN P w K mg base CX0 1 ["_law_text"] (sp_law_turned) "_law_turned" []) : FnOk P w K mg base CX0 2 f fd ["_law_text", "_law_step_here"] (sp_law_done K) := by
  obtain ⟨f_law_turned, fd_law_turned, ds_law_turned, m_law_turned, k_law_turned, v_law_turned, b_law_turned, G_law_turned⟩ := kn_law_turned
  refine F.ok sc_law_done (fun vs H Q E h => ?_) (fun cdv A outer s H vs Q E hr h => ?_)
  · obtain ⟨t, p, st, rfl, _⟩ := h
    all_goals rfl
  · obtain ⟨t, p, st, rfl, hl, hz, hp, ho, k⟩ := h
    refine ⟨_, (pss_cons (ps_asg (pe_slice (sl_tupA (K := K)) (pv 1) po_none (po_some pe_int)) (pg_tup rfl (pgs_cons (pg_name (i := 2) sc_law_done.nd rfl (Or.inl rfl)) (pgs_cons (pg_name (i := 3) sc_law_done.nd rfl (Or.inl rfl)) (pgs_cons (pg_name (i := 4) sc_law_done.nd rfl (Or.inl rfl)) pgs_nil)))))
    (pss_cons (ps_set (i := 5) sc_law_done.nd rfl (Or.inl rfl) (pe_slice sl_str (pv 0) (po_some (pv 3)) (po_some (pe_op op_add (pv 3) (pv 4)))))
    (pss_cons (ps_if (pt_cmpR op_ne (pe_callB call_len_str (by rfl) T.b_len (by decide +kernel) (pa_cons (pv 5) pa_nil)) (pv 4) (nomark _)) (pss_one (ps_ret pe_non)) pss_nil)
    (pss_cons (ps_if (pt_cmpR op_eq (pv 2) pe_str (nomark _)) (pss_one (ps_ret (pe_op op_add_str (pe_op op_add_str (pe_op op_add_str (pe_slice sl_str (pv 0) po_none (po_some (pe_op op_add (pv 3) (pv 4)))) (pe_call G_law_turned (hr.mono (by decide)) rfl m_law_turned k_law_turned b_law_turned v_law_turned pass0 (pa_cons (pv 5) pa_nil))) (pv 5)) (pe_slice sl_str (pv 0) (po_some (pe_op op_add (pv 3) (pv 4))) po_none)))) pss_nil)
    (pss_cons (ps_if (pt_cmpR op_eq (pv 2) pe_str (nomark _)) (pss_cons (ps_if (pt_cmpR op_ne (pe_slice sl_str (pv 0) (po_some (pe_op op_add (pv 3) (pv 4))) (po_some (pe_op op_add (pv 3) (pe_op op_mul pe_int (pv 4))))) (pe_op op_add_str (pe_call G_law_turned (hr.mono (by decide)) rfl m_law_turned k_law_turned b_law_turned v_law_turned pass0 (pa_cons (pv 5) pa_nil)) (pv 5)) (nomark _)) (pss_one (ps_ret pe_non)) pss_nil)
    (pss_one (ps_ret (pe_op op_add_str (pe_slice sl_str (pv 0) po_none (po_some (pe_op op_add (pv 3) (pv 4)))) (pe_slice sl_str (pv 0) (po_some (pe_op op_add (pv 3) (pe_op op_mul pe_int (pv 4)))) po_none))))) pss_nil)
    (pss_cons (ps_set (i := 6) sc_law_done.nd rfl (Or.inl rfl) (pe_slice sl_str (pv 0) (po_some (pe_op op_add (pv 3) (pe_op op_mul pe_int (pv 4)))) (po_some (pe_op op_add (pe_op op_add (pv 3) (pe_op op_mul pe_int (pv 4))) (pe_ix (ix_tupK (K := K)) (pv 1) pe_int (fun _ _ => rfl))))))
    (pss_cons (ps_if (PW.pt (pw_or (pt_cmpR op_ne (pe_callB call_len_str (by rfl) T.b_len (by decide +kernel) (pa_cons (pv 6) pa_nil)) (pe_ix (ix_tupK (K := K)) (pv 1) pe_int (fun _ _ => rfl)) (nomark _)) (pw_or1 (pt_cmpR op_ne (pe_slice sl_str (pv 0) (po_some (pe_op op_add (pv 3) (pv 4))) (po_some (pe_op op_add (pv 3) (pe_op op_mul pe_int (pv 4))))) (pe_call G_law_turned (hr.mono (by decide)) rfl m_law_turned k_law_turned b_law_turned v_law_turned pass0 (pa_cons (pv 5) pa_nil)) (nomark _))))) (pss_one (ps_ret pe_non)) pss_nil)
    (pss_cons (ps_set (i := 7) sc_law_done.nd rfl (Or.inl rfl) (pe_op op_add (pe_op op_add (pv 3) (pe_op op_mul pe_int (pv 4))) (pe_op op_mul pe_int (pe_ix (ix_tupK (K := K)) (pv 1) pe_int (fun _ _ => rfl)))))
    (pss_cons (ps_if (pt_cmpR op_ne (pe_slice sl_str (pv 0) (po_some (pe_op op_add (pe_op op_add (pv 3) (pe_op op_mul pe_int (pv 4))) (pe_ix (ix_tupK (K := K)) (pv 1) pe_int (fun _ _ => rfl)))) (po_some (pv 7))) (pe_call G_law_turned (hr.mono (by decide)) rfl m_law_turned k_law_turned b_law_turned v_law_turned pass0 (pa_cons (pv 6) pa_nil)) (nomark _)) (pss_one (ps_ret pe_non)) pss_nil)
    (pss_cons (ps_set (i := 8) sc_law_done.nd rfl (Or.inl rfl) (pe_op op_add_str (pe_op op_add_str (pe_slice sl_str (pv 0) po_none (po_some (pv 3))) (pv 6)) (pe_call G_law_turned (hr.mono (by decide)) rfl m_law_turned k_law_turned b_law_turned v_law_turned pass0 (pa_cons (pv 6) pa_nil))))
    (pss_one (ps_ret (pe_op op_add_str (pe_op op_add_str (pe_op op_add_str (pv 8) (pv 5)) (pe_call G_law_turned (hr.mono (by decide)) rfl m_law_turned k_law_turned b_law_turned v_law_turned pass0 (pa_cons (pv 5) pa_nil))) (pe_slice sl_str (pv 0) (po_some (pv 7)) po_none)))))))))))))), ?_⟩
    have zt : (S t).length ≤ sizeLine := sz_of' (by rw [len_S]; omega)
    cases st with
    | less a m =>
      have hp : H p = some (.tup [.str (Str.ofString "less"), .int (a : Int), .int (m : Int)]) := hp
      obtain ⟨hm, hm2⟩ := ho
      have e1 : (a : Int) + (m : Int) = ((a + m : Nat) : Int) := by omega
      have e3 : (a : Int) + 3 * (m : Int) = ((a + 3 * m : Nat) : Int) := by omega
      have e2 : (a : Int) + 2 * (m : Int) = ((a + 2 * m : Nat) : Int) := by omega
      refine ⟨_, rfl, 3, rfl, p, _, rfl, SqT.of hp, .inl ⟨rfl, rfl, ?_⟩⟩
      refine ⟨p, [_, _, _], rfl, SqT.of hp, rfl, _, _, rfl, _, _, rfl, _, _, rfl, rfl, ?_⟩
      have s0 := Same.refl H
      refine ⟨_, rfl, _, rfl, _, rfl, _, rfl, _, rfl, _, _, rfl, rfl, _, rfl, _, rfl, zt, ?_⟩
      rw [e1, cut_mid (by omega), Nat.add_sub_cancel_left]
      have hpt : partR t a m = if ((t.drop a).take m).length = m then some ((t.drop a).take m) else none := rfl
      obtain ⟨r, er⟩ : ∃ r, r = (t.drop a).take m := ⟨_, rfl⟩
      rw [← er] at hpt ⊢
      have zr0 : r.length ≤ 5000 := by rw [er, List.length_take, List.length_drop]; omega
      refine ⟨_, rfl, _, rfl, sz_of' (by rw [len_S]; omega), _, rfl, rfl, _, rfl, ?_⟩
      rw [len_S, show decide (V.int (r.length : Int) = V.int (m : Int)) = decide (r.length = m) from decide_eq_decide.mpr ⟨fun h => by injection h with h; omega, fun h => by rw [h]⟩]
      have k : ∀ H' : Hp, Same H H' → Q (optS (lessR t a m)) H' := k
      unfold lessR at k
      by_cases zr : r.length = m
      rotate_left
      · rw [if_neg zr] at hpt
        rw [hpt] at k
        rw [decide_eq_false zr]
        exact iteT (k _ s0)
      rw [if_pos zr] at hpt
      rw [hpt] at k
      have rr := row_part hl hpt
      rw [decide_eq_true zr]
      refine iteF ?_
      refine ⟨_, rfl, rfl, _, rfl, ?_⟩
      rw [show decide (V.str (Str.ofString "less") = V.str (Str.ofString "more")) = false by decide]
      refine iteF ⟨_, rfl, rfl, _, rfl, ?_⟩
      rw [show decide (V.str (Str.ofString "less") = V.str (Str.ofString "less")) = true by decide]
      refine iteT ⟨_, rfl, _, rfl, _, rfl, _, _, rfl, rfl, _, rfl, _, rfl, _, rfl, _, _, rfl, rfl, .inl ⟨by decide, by decide⟩, _, _, rfl, rfl, _, rfl, _, rfl, zt, _, rfl, r, rfl, rr, by omega, fun H2 s2 => ⟨_, rfl, _, _, rfl, rfl, sz_of' (by rw [len_S, len_S, RowM.turn_length]; omega), rfl, _, rfl, ?_⟩⟩
      rw [e1, e3, cut_mid (by omega), add_S, show a + 3 * m - (a + m) = 2 * m by omega, show decide (V.str (S ((t.drop (a + m)).take (2 * m))) = V.str (S (RowM.turn r ++ r))) = decide ((t.drop (a + m)).take (2 * m) = RowM.turn r ++ r) from dec_S _ _]
      have k : ∀ H' : Hp, Same H H' → Q (optS (if (t.drop (a + m)).take (2 * m) = RowM.turn r ++ r then some (t.take (a + m) ++ t.drop (a + 3 * m)) else none)) H' := k
      by_cases z : (t.drop (a + m)).take (2 * m) = RowM.turn r ++ r
      · rw [if_pos z] at k
        rw [decide_eq_true z]
        refine iteF ⟨_, rfl, _, rfl, _, rfl, _, _, rfl, rfl, _, rfl, _, rfl, zt, _, rfl, _, rfl, _, rfl, _, _, rfl, rfl, .inl ⟨by decide, by decide⟩, _, _, rfl, rfl, _, rfl, _, rfl, zt, _, _, rfl, rfl, sz_of' (by rw [e1, e3, cut_toG, cut_from, len_S, len_S, List.length_take, List.length_drop]; omega), ?_⟩
        rw [e1, e3, cut_toG, cut_from, add_S]
        exact k H2 s2
      · rw [if_neg z] at k
        rw [decide_eq_false z]
        exact iteT (k H2 s2)
    | more a m =>
      have hp : H p = some (.tup [.str (Str.ofString "more"), .int (a : Int), .int (m : Int)]) := hp
      obtain ⟨hm, hm2⟩ := ho
      have e1 : (a : Int) + (m : Int) = ((a + m : Nat) : Int) := by omega
      have e3 : (a : Int) + 3 * (m : Int) = ((a + 3 * m : Nat) : Int) := by omega
      have e2 : (a : Int) + 2 * (m : Int) = ((a + 2 * m : Nat) : Int) := by omega
      refine ⟨_, rfl, 3, rfl, p, _, rfl, SqT.of hp, .inl ⟨rfl, rfl, ?_⟩⟩
      refine ⟨p, [_, _, _], rfl, SqT.of hp, rfl, _, _, rfl, _, _, rfl, _, _, rfl, rfl, ?_⟩
      have s0 := Same.refl H
      refine ⟨_, rfl, _, rfl, _, rfl, _, rfl, _, rfl, _, _, rfl, rfl, _, rfl, _, rfl, zt, ?_⟩
      rw [e1, cut_mid (by omega), Nat.add_sub_cancel_left]
      have hpt : partR t a m = if ((t.drop a).take m).length = m then some ((t.drop a).take m) else none := rfl
      obtain ⟨r, er⟩ : ∃ r, r = (t.drop a).take m := ⟨_, rfl⟩
      rw [← er] at hpt ⊢
      have zr0 : r.length ≤ 5000 := by rw [er, List.length_take, List.length_drop]; omega
      refine ⟨_, rfl, _, rfl, sz_of' (by rw [len_S]; omega), _, rfl, rfl, _, rfl, ?_⟩
      rw [len_S, show decide (V.int (r.length : Int) = V.int (m : Int)) = decide (r.length = m) from decide_eq_decide.mpr ⟨fun h => by injection h with h; omega, fun h => by rw [h]⟩]
      have k : ∀ H' : Hp, Same H H' → Q (optS (moreR t a m)) H' := k
      unfold moreR at k
      by_cases zr : r.length = m
      rotate_left
      · rw [if_neg zr] at hpt
        rw [hpt] at k
        rw [decide_eq_false zr]
        exact iteT (k _ s0)
      rw [if_pos zr] at hpt
      rw [hpt] at k
      have rr := row_part hl hpt
      rw [decide_eq_true zr]
      refine iteF ?_
      refine ⟨_, rfl, rfl, _, rfl, ?_⟩
      rw [show decide (V.str (Str.ofString "more") = V.str (Str.ofString "more")) = true by decide]
      refine iteT ⟨_, rfl, _, rfl, _, rfl, _, _, rfl, rfl, _, rfl, _, rfl, zt, _, rfl, r, rfl, rr, by omega, fun H2 s2 => ⟨_, _, rfl, rfl, sz_of' (by rw [e1, cut_toG, len_S, len_S, RowM.turn_length, List.length_take]; omega), _, rfl, _, _, rfl, rfl, sz_of' (by rw [e1, cut_toG, add_S, len_S, len_S, List.length_append, RowM.turn_length, List.length_take]; omega), _, rfl, _, rfl, _, rfl, _, _, rfl, rfl, _, rfl, _, rfl, zt, _, _, rfl, rfl, sz_of' (by rw [e1, cut_toG, cut_from, add_S, add_S, len_S, len_S, List.length_append, List.length_append, RowM.turn_length, List.length_take, List.length_drop]; omega), ?_⟩⟩
      rw [e1, cut_toG, cut_from, add_S, add_S, add_S]
      exact k H2 s2
    | past a m j =>
      have hp : H p = some (.tup [.str (Str.ofString "past"), .int (a : Int), .int (m : Int), .int (j : Int)]) := hp
      obtain ⟨⟨hm, hm2⟩, hj, hj2⟩ := ho
      have e1 : (a : Int) + (m : Int) = ((a + m : Nat) : Int) := by omega
      have e3 : (a : Int) + 3 * (m : Int) = ((a + 3 * m : Nat) : Int) := by omega
      have e2 : (a : Int) + 2 * (m : Int) = ((a + 2 * m : Nat) : Int) := by omega
      have e4 : ((a + 2 * m : Nat) : Int) + (j : Int) = ((a + 2 * m + j : Nat) : Int) := by omega
      have e5 : ((a + 2 * m : Nat) : Int) + 2 * (j : Int) = ((a + 2 * m + 2 * j : Nat) : Int) := by omega
      refine ⟨_, rfl, 3, rfl, p, _, rfl, SqT.of hp, .inr ⟨(fun h => by have h1 := h.2; simp [HT.sIx] at h1), fun q3 hq3 => ?_⟩⟩
      have ec : cutV [.str (Str.ofString "past"), .int (a : Int), .int (m : Int), .int (j : Int)] none (some 3) = [.str (Str.ofString "past"), .int (a : Int), .int (m : Int)] := rfl
      rw [ec]
      have s0 := Same.new (o := .tup [.str (Str.ofString "past"), .int (a : Int), .int (m : Int)]) hq3
      have gq3 := upd_same (H := H) (a := q3) (o := HO.tup [.str (Str.ofString "past"), .int (a : Int), .int (m : Int)])
      have hp := s0 _ _ hp
      generalize upd H q3 (.tup [.str (Str.ofString "past"), .int (a : Int), .int (m : Int)]) = H0 at s0 gq3 hp ⊢
      refine ⟨q3, [_, _, _], rfl, SqT.of gq3, rfl, _, _, rfl, _, _, rfl, _, _, rfl, rfl, ?_⟩
      refine ⟨_, rfl, _, rfl, _, rfl, _, rfl, _, rfl, _, _, rfl, rfl, _, rfl, _, rfl, zt, ?_⟩
      rw [e1, cut_mid (by omega), Nat.add_sub_cancel_left]
      have hpt : partR t a m = if ((t.drop a).take m).length = m then some ((t.drop a).take m) else none := rfl
      obtain ⟨r, er⟩ : ∃ r, r = (t.drop a).take m := ⟨_, rfl⟩
      rw [← er] at hpt ⊢
      have zr0 : r.length ≤ 5000 := by rw [er, List.length_take, List.length_drop]; omega
      refine ⟨_, rfl, _, rfl, sz_of' (by rw [len_S]; omega), _, rfl, rfl, _, rfl, ?_⟩
      rw [len_S, show decide (V.int (r.length : Int) = V.int (m : Int)) = decide (r.length = m) from decide_eq_decide.mpr ⟨fun h => by injection h with h; omega, fun h => by rw [h]⟩]
      have k : ∀ H' : Hp, Same H H' → Q (optS (pastR t a m j)) H' := k
      unfold pastR at k
      by_cases zr : r.length = m
      rotate_left
      · rw [if_neg zr] at hpt
        rw [hpt] at k
        rw [decide_eq_false zr]
        exact iteT (k _ s0)
      rw [if_pos zr] at hpt
      rw [hpt] at k
      have rr := row_part hl hpt
      rw [decide_eq_true zr]
      refine iteF ?_
      refine ⟨_, rfl, rfl, _, rfl, ?_⟩
      rw [show decide (V.str (Str.ofString "past") = V.str (Str.ofString "more")) = false by decide]
      refine iteF ⟨_, rfl, rfl, _, rfl, ?_⟩
      rw [show decide (V.str (Str.ofString "past") = V.str (Str.ofString "less")) = false by decide]
      refine iteF ?_
      refine ⟨_, rfl, _, rfl, _, rfl, _, _, rfl, rfl, .inl ⟨by decide, by decide⟩, _, _, rfl, rfl, _, rfl, _, rfl, _, rfl, _, _, rfl, rfl, .inl ⟨by decide, by decide⟩, _, _, rfl, rfl, _, rfl, p, _, _, _, rfl, rfl, SqT.of hp, (by rfl), _, _, rfl, rfl, _, rfl, _, rfl, zt, ?_⟩
      rw [e2, e4, cut_mid (by omega), Nat.add_sub_cancel_left]
      have hqt : partR t (a + 2 * m) j = if ((t.drop (a + 2 * m)).take j).length = j then some ((t.drop (a + 2 * m)).take j) else none := rfl
      obtain ⟨q, eq⟩ : ∃ q, q = (t.drop (a + 2 * m)).take j := ⟨_, rfl⟩
      rw [← eq] at hqt ⊢
      have zq0 : q.length ≤ 5000 := by rw [eq, List.length_take, List.length_drop]; omega
      have k : ∀ H' : Hp, Same H H' → Q (optS ((partR t (a + 2 * m) j).bind fun q => if (t.drop a).take (2 * m + 2 * j) = r ++ RowM.turn r ++ (q ++ RowM.turn q) then some (t.take a ++ (q ++ RowM.turn q) ++ (r ++ RowM.turn r) ++ t.drop (a + 2 * m + 2 * j)) else none)) H' := k
      refine ⟨_, rfl, _, rfl, sz_of' (by rw [len_S]; omega), _, rfl, p, _, _, _, rfl, rfl, SqT.of hp, (by rfl), rfl, _, rfl, ?_⟩
      rw [len_S, show decide (V.int (q.length : Int) = V.int (j : Int)) = decide (q.length = j) from decide_eq_decide.mpr ⟨fun h => by injection h with h; omega, fun h => by rw [h]⟩]
      by_cases zq : q.length = j
      rotate_left
      · rw [if_neg zq] at hqt
        rw [hqt] at k
        rw [decide_eq_false zq]
        exact iteT (iteT (k _ s0))
      rw [if_pos zq] at hqt
      rw [hqt] at k
      have rq := row_part hl hqt
      have k : ∀ H' : Hp, Same H H' → Q (optS (if (t.drop a).take (2 * m + 2 * j) = r ++ RowM.turn r ++ (q ++ RowM.turn q) then some (t.take a ++ (q ++ RowM.turn q) ++ (r ++ RowM.turn r) ++ t.drop (a + 2 * m + 2 * j)) else none)) H' := k
      rw [decide_eq_true zq]
      refine iteF ⟨_, rfl, _, rfl, _, rfl, _, _, rfl, rfl, _, rfl, _, rfl, _, rfl, _, _, rfl, rfl, .inl ⟨by decide, by decide⟩, _, _, rfl, rfl, _, rfl, _, rfl, zt, _, rfl, r, rfl, rr, by omega, fun H2 s2 => ⟨rfl, _, rfl, ?_⟩⟩
      rw [e1, e2, cut_mid (by omega), show a + 2 * m - (a + m) = m by omega, show decide (V.str (S ((t.drop (a + m)).take m)) = V.str (S (RowM.turn r))) = decide ((t.drop (a + m)).take m = RowM.turn r) from dec_S _ _]
      have s02 := Same.trans s0 s2
      have hp := s2 _ _ hp
      by_cases z1 : (t.drop (a + m)).take m = RowM.turn r
      rotate_left
      · rw [if_neg (fun h => z1 ((past_iff hpt hqt).mp h).1)] at k
        rw [decide_eq_false z1]
        exact iteT (k H2 s02)
      rw [decide_eq_true z1]
      refine iteF ⟨_, rfl, _, rfl, _, _, rfl, rfl, .inl ⟨by decide, by decide⟩, _, _, rfl, rfl, _, rfl, p, _, _, _, rfl, rfl, SqT.of hp, (by rfl), _, _, rfl, rfl, .inl ⟨by decide, by decide⟩, _, _, rfl, rfl, ?_⟩
      dsimp only
      rw [e2, e5]
      refine ⟨_, rfl, _, rfl, _, rfl, _, _, rfl, rfl, .inl ⟨by decide, by decide⟩, _, _, rfl, rfl, _, rfl, p, _, _, _, rfl, rfl, SqT.of hp, (by rfl), _, _, rfl, rfl, _, rfl, _, rfl, _, rfl, _, rfl, zt, _, rfl, q, rfl, rq, by omega, fun H3 s3 => ⟨rfl, _, rfl, ?_⟩⟩
      rw [e2, e4, cut_mid (by omega), show a + 2 * m + 2 * j - (a + 2 * m + j) = j by omega, show decide (V.str (S ((t.drop (a + 2 * m + j)).take j)) = V.str (S (RowM.turn q))) = decide ((t.drop (a + 2 * m + j)).take j = RowM.turn q) from dec_S _ _]
      have s03 := Same.trans s02 s3
      by_cases z2 : (t.drop (a + 2 * m + j)).take j = RowM.turn q
      rotate_left
      · rw [if_neg (fun h => z2 ((past_iff hpt hqt).mp h).2)] at k
        rw [decide_eq_false z2]
        exact iteT (k H3 s03)
      rw [decide_eq_true z2]
      rw [if_pos ((past_iff hpt hqt).mpr ⟨z1, z2⟩)] at k
      refine iteF ?_
      refine ⟨_, rfl, _, rfl, _, rfl, _, rfl, zt, _, rfl, _, _, rfl, rfl, sz_of' (by rw [cut_toG, len_S, len_S, List.length_take]; omega), _, rfl, q, rfl, rq, by omega, fun H4 s4 => ⟨_, _, rfl, rfl, sz_of' (by rw [cut_toG, add_S, len_S, len_S, List.length_append, RowM.turn_length, List.length_take]; omega), ?_⟩⟩
      rw [cut_toG, add_S, add_S]
      refine ⟨_, rfl, _, rfl, _, _, rfl, rfl, sz_of' (by rw [len_S, len_S, List.length_append, List.length_append, RowM.turn_length, List.length_take]; omega), _, rfl, r, rfl, rr, by omega, fun H5 s5 => ⟨_, _, rfl, rfl, sz_of' (by rw [add_S, len_S, len_S, List.length_append, List.length_append, List.length_append, RowM.turn_length, RowM.turn_length, List.length_take]; omega), _, rfl, _, rfl, _, rfl, _, rfl, zt, _, _, rfl, rfl, sz_of' (by rw [add_S, add_S, cut_from, len_S, len_S, List.length_append, List.length_append, List.length_append, List.length_append, RowM.turn_length, RowM.turn_length, List.length_take, List.length_drop]; omega), ?_⟩⟩
      rw [add_S, add_S, cut_from, add_S]
      have k5 := k H5 (Same.trans s03 (Same.trans s4 s5))
      have ea : t.take a ++ q ++ RowM.turn q ++ r ++ RowM.turn r ++ t.drop (a + 2 * m + 2 * j) = t.take a ++ (q ++ RowM.turn q) ++ (r ++ RowM.turn r) ++ t.drop (a + 2 * m + 2 * j) := by simp only [List.append_assoc]
      rw [ea]
      exact k5
theorem sc_law_step : FnScope ["_law_pool_here", "_law_text", "_law_word", "_law_many", "_law_begin", "_law_step_here", "_law_some", "_law_at", "_law_size", "_law_other", "_law_one"] ["_law_pool_here", "_law_text"] (defScope s_law_step) := ⟨rfl, rfl, rfl, by decide +kernel, rfl, by decide +kernel, by decide +kernel⟩
theorem ok_law_step {f : Addr} {fd : FuncData} (F : Fun K "_law_step" "_law_step" s_law_step f fd) (T : Txt K mg w D_NUMBERS D_STEPS C_NoRow C_NoStep) (kn_law_take : KN P w K mg base CX0 1 ["_law_pool_here", "_law_many"] (sp_law_take) "_law_take" []) (kn_law_done : KN P w K mg base CX0 2 ["_law_text", "_law_step_here"] (sp_law_done K) "_law_done" []) : FnOk P w K mg base CX0 3 f fd ["_law_pool_here", "_law_text"] (sp_law_step K) := by
  obtain ⟨f_law_take, fd_law_take, ds_law_take, m_law_take, k_law_take, v_law_take, b_law_take, G_law_take⟩ := kn_law_take
  obtain ⟨f_law_done, fd_law_done, ds_law_done, m_law_done, k_law_done, v_law_done, b_law_done, G_law_done⟩ := kn_law_done
  refine F.ok sc_law_step (fun vs H Q E h => ?_) (fun cdv A outer s H vs Q E hr h => ?_)
  · obtain ⟨p, t, rfl, _⟩ := h
    all_goals rfl
  · obtain ⟨p, t, rfl, hp, hl, hz, k⟩ := h
    refine ⟨_, (pss_cons (ps_set (i := 2) sc_law_step.nd rfl (Or.inl rfl) (pe_ix (ix_listK (K := K)) (pe_lst (pa_cons pe_str (pa_cons pe_str (pa_cons pe_str pa_nil)))) (pe_call G_law_take (hr.mono (by decide)) rfl m_law_take k_law_take b_law_take v_law_take pass0 (pa_cons (pv 0) (pa_cons pe_int pa_nil))) (fun _ _ => rfl)))
    (pss_cons (ps_set (i := 3) sc_law_step.nd rfl (Or.inl rfl) (pe_op op_add pe_int (pe_call G_law_take (hr.mono (by decide)) rfl m_law_take k_law_take b_law_take v_law_take pass0 (pa_cons (pv 0) (pa_cons (pe_ix (ix_listK (K := K)) (pe_lst (pa_cons pe_int (pa_cons pe_int (pa_cons pe_int pa_nil)))) (pe_call G_law_take (hr.mono (by decide)) rfl m_law_take k_law_take b_law_take v_law_take pass0 (pa_cons (pv 0) (pa_cons pe_int pa_nil))) (fun _ _ => rfl)) pa_nil)))))
    (pss_cons (ps_set (i := 4) sc_law_step.nd rfl (Or.inl rfl) (pe_call G_law_take (hr.mono (by decide)) rfl m_law_take k_law_take b_law_take v_law_take pass0 (pa_cons (pv 0) (pa_cons (pe_op op_add (pe_callB call_len_str (by rfl) T.b_len (by decide +kernel) (pa_cons (pv 1) pa_nil)) pe_int) pa_nil))))
    (Evl.pss_cut (ps_set (i := 5) sc_law_step.nd rfl (Or.inl rfl) (pe_op (op_catTK (K := K)) (pe_tup (pa_cons (pv 2) (pa_cons (pv 4) (pa_cons (pv 3) pa_nil)))) (pe_op (op_rep01 (K := K)) (pe_tup (pa_cons (pe_op op_add pe_int (pe_call G_law_take (hr.mono (by decide)) rfl m_law_take k_law_take b_law_take v_law_take pass0 (pa_cons (pv 0) (pa_cons pe_int pa_nil)))) pa_nil)) (pe_callTy call_int1 (by rfl) T.b_int (by decide +kernel) (pa_cons (pe_cmpR op_eq (pv 2) pe_str (nomark _)) pa_nil)))))
    (pss_cons (ps_set (i := 6) sc_law_step.nd rfl (Or.inl rfl) (pe_lst pa_nil))
    (pss_cons (ps_for PassesOwn.never rfl (pi_range1 (by rfl) T.b_range (pa_cons (pe_callB call_len_str (by rfl) T.b_len (by decide +kernel) (pa_cons (pv 1) pa_nil)) pa_nil)) (pg_name (i := 7) sc_law_step.nd rfl (Or.inl rfl)) (pss_one (ps_for PassesOwn.never rfl (pi_range2 (by rfl) T.b_range (pa_cons pe_int (pa_cons pe_int pa_nil))) (pg_name (i := 8) sc_law_step.nd rfl (Or.inl rfl)) (pss_one (ps_for PassesOwn.never rfl (pi_range2 (by rfl) T.b_range (pa_cons pe_int (pa_cons pe_int pa_nil))) (pg_name (i := 9) sc_law_step.nd rfl (Or.inl rfl)) (pss_cons (ps_set (i := 10) sc_law_step.nd rfl (Or.inl rfl) (pe_ix (ix_listK (K := K)) (pe_lst (pa_cons (pe_tup (pa_cons pe_str (pa_cons (pv 7) (pa_cons (pv 8) pa_nil)))) (pa_cons (pe_tup (pa_cons pe_str (pa_cons (pv 7) (pa_cons (pv 8) (pa_cons (pv 9) pa_nil))))) pa_nil))) (pe_callTy call_int1 (by rfl) T.b_int (by decide +kernel) (pa_cons (pe_cmpR op_eq (pv 2) pe_str (nomark _)) pa_nil)) (fun _ _ => rfl)))
    (pss_one (ps_if (PW.pt (pw_and (pt_cmpR (op_notInDK (K := K) hr.units65) (pv 10) (pv 6) (by rfl)) (pw_and1 (pt_cmpR op_notN (pe_call G_law_done (hr.mono (by decide)) rfl m_law_done k_law_done b_law_done v_law_done pass0 (pa_cons (pv 1) (pa_cons (pv 10) pa_nil))) pe_non (nomark _))))) (pss_one (ps_expr (pe_bm PySem.F.plainAttrs_list PySem.F.slot_list_append PySem.F.type_list_append mt_append (pv 6) (pa_cons (pv 10) pa_nil)))) pss_nil))))))))
    (pss_cons (ps_if (PW.pt (pw_and (pt_cmpR op_ne (pv 2) pe_str (nomark _)) (pw_and (pt_cmpR (op_neDK (K := K) hr.units) (pv 6) (pe_lst pa_nil) (nomark _)) (pw_and1 (pt_cmpR op_gt (pe_call G_law_take (hr.mono (by decide)) rfl m_law_take k_law_take b_law_take v_law_take pass0 (pa_cons (pv 0) (pa_cons pe_int pa_nil))) pe_int (nomark _)))))) (pss_one (ps_ret (pe_ix (ix_listK (K := K)) (pv 6) (pe_call G_law_take (hr.mono (by decide)) rfl m_law_take k_law_take b_law_take v_law_take pass0 (pa_cons (pv 0) (pa_cons (pe_callB (call_lenK (K := K)) (by rfl) T.b_len (by decide +kernel) (pa_cons (pv 6) pa_nil)) pa_nil))) (fun _ _ => rfl)))) pss_nil)
    (pss_one (ps_ret (pv 5)))))))))), ?_⟩
    have zS : (S t).length ≤ sizeLine := sz_of' (by rw [len_S]; omega)
    -- the word
    refine ⟨by show 3 ≤ sizeLine; decide, fun A hA => ?_⟩
    refine ⟨_, rfl, p, 3, rfl, hp.new hA, by decide, by decide, fun v H1 v0 v1 o1 p1 => ?_⟩
    obtain ⟨y, hy, yy⟩ := at3 (a := V.str (Str.ofString "less")) (b := V.str (Str.ofString "more")) (c := V.str (Str.ofString "past")) v0 v1
    obtain ⟨wz, rfl, hw⟩ : ∃ wz : Str, y = .str wz ∧ (wz = Str.ofString "less" ∨ wz = Str.ofString "more" ∨ wz = Str.ofString "past") := by
      rcases yy with rfl | rfl | rfl
      · exact ⟨_, rfl, .inl rfl⟩
      · exact ⟨_, rfl, .inr (.inl rfl)⟩
      · exact ⟨_, rfl, .inr (.inr rfl)⟩
    refine ⟨_, _, _, _, rfl, rfl, SqL.of (o1 A _ (hp.ne hA).symm upd_same), hy, ?_⟩
    have oH : Off p H H1 := (off_of (Same.new hA)).trans o1
    -- how many
    refine ⟨_, rfl, by show 3 ≤ sizeLine; decide, fun B hB => ?_⟩
    refine ⟨_, rfl, p, 3, rfl, p1.new hB, by decide, by decide, fun v2 H2 v20 v21 o2 p2 => ?_⟩
    obtain ⟨y2, hy2, yy2⟩ := at3 (a := V.int 1) (b := V.int 3) (c := V.int 6) v20 v21
    obtain ⟨mm, rfl, mm0, mm1⟩ : ∃ mm : Int, y2 = .int mm ∧ 1 ≤ mm ∧ mm ≤ 6 := by
      rcases yy2 with rfl | rfl | rfl
      · exact ⟨_, rfl, by omega, by omega⟩
      · exact ⟨_, rfl, by omega, by omega⟩
      · exact ⟨_, rfl, by omega, by omega⟩
    refine ⟨_, _, _, _, rfl, rfl, SqL.of (o2 B _ (p1.ne hB).symm upd_same), hy2, p, mm, rfl, p2, by omega, by omega, fun v3 H3 v30 v31 o3 p3 => ⟨_, _, rfl, rfl, ?_⟩⟩
    have oH : Off p H H3 := ((oH.trans (off_of (Same.new hB))).trans o2).trans o3
    obtain ⟨m, rfl⟩ : ∃ m : Nat, v3 = (m : Int) := ⟨v3.toNat, by omega⟩
    -- from where on
    refine ⟨_, rfl, _, rfl, _, rfl, zS, _, _, rfl, rfl, p, _, rfl, p3, by omega, by rw [len_S]; omega, fun v4 H4 v40 v41 o4 p4 => ?_⟩
    obtain ⟨b, rfl⟩ : ∃ b : Nat, v4 = (b : Int) := ⟨v4.toNat, by omega⟩
    have oH := oH.trans o4
    have em : (1 : Int) + (m : Int) = ((1 + m : Nat) : Int) := by omega
    refine ⟨fun σ H' => ∃ (q : Addr) (st : StepD), σ = [some (.ref p), some (.str (S t)), some (.str wz), some (.int (1 + (m : Int))), some (.int (b : Int)), some (.ref q), none, none, none, none, none] ∧ Off p H H' ∧ Pool H' p ∧ q ≠ p ∧ H' q = some (.tup st.vals) ∧ st.ok ∧ st.small, ?_, ?_⟩
    · refine ⟨_, rfl, _, rfl, _, rfl, (by show 3 ≤ sizeLine; decide), fun T1 hT1 => ?_⟩
      refine ⟨_, rfl, p, 3, rfl, p4.new hT1, by decide, by decide, fun v5 H5 v50 v51 o5 p5 => ⟨_, _, rfl, rfl, (by show 1 ≤ sizeLine; decide), fun T2 hT2 => ?_⟩⟩
      obtain ⟨j, rfl⟩ : ∃ j : Nat, v5 = (j : Int) := ⟨v5.toNat, by omega⟩
      have ej : (1 : Int) + (j : Int) = ((1 + j : Nat) : Int) := by omega
      have n1p : T1 ≠ p := (p4.ne hT1).symm
      have g1 := o5 T1 _ n1p upd_same
      have oH := (oH.trans (off_of (Same.new (o := .tup [.str wz, .int (b : Int), .int (1 + (m : Int))]) hT1))).trans o5
      have g1 := Same.new (o := .tup [.int (1 + (j : Int))]) hT2 _ _ g1
      have g2 := upd_same (H := H5) (a := T2) (o := HO.tup [.int (1 + (j : Int))])
      have oH := oH.trans (off_of (Same.new (o := .tup [.int (1 + (j : Int))]) hT2))
      have p6 := p5.new (o := .tup [.int (1 + (j : Int))]) hT2
      generalize upd H5 T2 (.tup [.int (1 + (j : Int))]) = H6 at g1 g2 oH p6 ⊢
      have g1 : H6 T1 = some (.tup [.str wz, .int (b : Int), .int ((1 + m : Nat) : Int)]) := by rw [← em]; exact g1
      have g2 : H6 T2 = some (.tup [.int ((1 + j : Nat) : Int)]) := by rw [← ej]; exact g2
      have okm : 1 ≤ 1 + m ∧ 0 ≤ 1 + m := by omega
      rcases hw with rfl | rfl | rfl
      · refine ⟨_, rfl, rfl, .inr ⟨_, rfl, T2, _, _, rfl, rfl, SqT.of g2, (by simp), .inl ⟨by decide, fun e he => ?_⟩⟩⟩
        exact ⟨T1, e, _, _, rfl, rfl, SqT.of (Same.new he _ _ g1), SqT.of upd_same, (by simp), (by show 3 + 0 ≤ sizeLine; decide), fun _ => ⟨T1, .less b (1 + m), rfl, oH.trans (off_of (Same.new he)), p6.new he, n1p, Same.new he _ _ g1, okm, (by show 1 + m ≤ 20; omega)⟩, fun h => absurd rfl h⟩
      · refine ⟨_, rfl, rfl, .inr ⟨_, rfl, T2, _, _, rfl, rfl, SqT.of g2, (by simp), .inl ⟨by decide, fun e he => ?_⟩⟩⟩
        exact ⟨T1, e, _, _, rfl, rfl, SqT.of (Same.new he _ _ g1), SqT.of upd_same, (by simp), (by show 3 + 0 ≤ sizeLine; decide), fun _ => ⟨T1, .more b (1 + m), rfl, oH.trans (off_of (Same.new he)), p6.new he, n1p, Same.new he _ _ g1, okm, (by show 1 + m ≤ 20; omega)⟩, fun h => absurd rfl h⟩
      · refine ⟨_, rfl, rfl, .inr ⟨_, rfl, T2, _, _, rfl, rfl, SqT.of g2, (by simp), .inr ⟨by decide, ?_⟩⟩⟩
        exact ⟨T1, T2, _, _, rfl, rfl, SqT.of g1, SqT.of g2, (by simp), (by show 3 + 1 ≤ sizeLine; decide), (fun h => by cases h), fun _ q hq => ⟨q, .past b (1 + m) (1 + j), rfl, oH.trans (off_of (Same.new hq)), p6.new hq, (p6.ne hq).symm, upd_same, ⟨okm, by omega, by omega⟩, (by omega : 1 + m ≤ 20), (by omega : 1 + j ≤ 20)⟩⟩
    rintro σ H7 ⟨q5, st5, rfl, oH, p7, n5, g5, ok5, sm5⟩
    refine ⟨by show 0 ≤ sizeLine; decide, fun L hL => ?_⟩
    have sL := Same.new (o := .lst []) hL
    have gL := upd_same (H := H7) (a := L) (o := HO.lst [])
    have hLn := hL
    have I0 : LsI L H7 (upd H7 L (.lst [])) 0 := ⟨sL, [], [], gL, TL.nil, (fun s h => nomatch h), Nat.le_refl _⟩
    generalize upd H7 L (.lst []) = H8 at I0 ⊢
    refine ⟨_, rfl, _, rfl, zS, _, rfl, ?_⟩
    rw [len_S]
    refine ⟨by omega, by omega, for_range (lo := 0) (n := t.length) (fun i σ H' => ∃ x7 x8 x9 x10, σ = [some (.ref p), some (.str (S t)), some (.str wz), some (.int (1 + (m : Int))), some (.int (b : Int)), some (.ref q5), some (.ref L), x7, x8, x9, x10] ∧ LsI L H7 H' (12 * i)) ⟨_, _, _, _, rfl, I0⟩ ?_ ?_⟩
    · rintro i σ H9 hi ⟨x7, x8, x9, x10, rfl, I⟩
      refine ⟨_, _, rfl, by decide, for_range (lo := 1) (n := 4) (fun j σ H' => ∃ x8 x9 x10, σ = [some (.ref p), some (.str (S t)), some (.str wz), some (.int (1 + (m : Int))), some (.int (b : Int)), some (.ref q5), some (.ref L), some (.int (0 + (i : Int))), x8, x9, x10] ∧ LsI L H7 H' (12 * i + 3 * j)) ⟨_, _, _, rfl, I⟩ ?_ ?_⟩
      rotate_left
      · rintro σ H10 ⟨x8, x9, x10, rfl, I⟩
        exact ⟨_, _, _, _, rfl, I.le (by omega)⟩
      rintro j σ H10 hj ⟨x8, x9, x10, rfl, I⟩
      refine ⟨_, _, rfl, by decide, for_range (lo := 1) (n := 3) (fun n σ H' => ∃ x9 x10, σ = [some (.ref p), some (.str (S t)), some (.str wz), some (.int (1 + (m : Int))), some (.int (b : Int)), some (.ref q5), some (.ref L), some (.int (0 + (i : Int))), some (.int (1 + (j : Int))), x9, x10] ∧ LsI L H7 H' (12 * i + 3 * j + n)) ⟨_, _, rfl, I⟩ ?_ ?_⟩
      rotate_left
      · rintro σ H11 ⟨x9, x10, rfl, I⟩
        exact ⟨_, _, _, rfl, I.le (by omega)⟩
      rintro n σ H11 hn ⟨x9, x10, rfl, I⟩
      have e7 : (0 : Int) + (i : Int) = (i : Int) := Int.zero_add _
      have e8 : (1 : Int) + (j : Int) = ((1 + j : Nat) : Int) := by omega
      have e9 : (1 : Int) + (n : Int) = ((1 + n : Nat) : Int) := by omega
      refine ⟨_, rfl, _, rfl, (by show 3 ≤ sizeLine; decide), fun A hA => ⟨_, rfl, _, rfl, _, rfl, (by show 4 ≤ sizeLine; decide), fun B hB => ⟨by show 2 ≤ sizeLine; decide, fun C hC => ?_⟩⟩⟩
      rw [e7, e8, e9] at *
      have sA := Same.new (o := .tup [V.str (Str.ofString "less"), .int (i : Int), .int ((1 + j : Nat) : Int)]) hA
      have gA : (upd H11 A (.tup [V.str (Str.ofString "less"), .int (i : Int), .int ((1 + j : Nat) : Int)])) A = some (.tup (StepD.vals (.less i (1 + j)))) := upd_same
      generalize upd H11 A (.tup [V.str (Str.ofString "less"), .int (i : Int), .int ((1 + j : Nat) : Int)]) = Ha at sA gA hB hC ⊢
      have sB := Same.trans sA (Same.new (o := .tup [V.str (Str.ofString "past"), .int (i : Int), .int ((1 + j : Nat) : Int), .int ((1 + n : Nat) : Int)]) hB)
      have gA := Same.new (o := .tup [V.str (Str.ofString "past"), .int (i : Int), .int ((1 + j : Nat) : Int), .int ((1 + n : Nat) : Int)]) hB _ _ gA
      have gB : (upd Ha B (.tup [V.str (Str.ofString "past"), .int (i : Int), .int ((1 + j : Nat) : Int), .int ((1 + n : Nat) : Int)])) B = some (.tup (StepD.vals (.past i (1 + j) (1 + n)))) := upd_same
      generalize upd Ha B (.tup [V.str (Str.ofString "past"), .int (i : Int), .int ((1 + j : Nat) : Int), .int ((1 + n : Nat) : Int)]) = Hb at sB gA gB hC ⊢
      have sC := Same.trans sB (Same.new (o := .lst [V.ref A, .ref B]) hC)
      have gA := Same.new (o := .lst [V.ref A, .ref B]) hC _ _ gA
      have gB := Same.new (o := .lst [V.ref A, .ref B]) hC _ _ gB
      have gC := upd_same (H := Hb) (a := C) (o := HO.lst [V.ref A, .ref B])
      generalize upd Hb C (.lst [V.ref A, .ref B]) = H12 at sC gA gB gC ⊢
      obtain ⟨P', s1, hat, gP, ok1, sm1⟩ : ∃ (P' : Addr) (s1 : StepD), atI [V.ref A, V.ref B] (if decide (V.str wz = V.str (Str.ofString "past")) = true then 1 else 0) = some (.ref P') ∧ H12 P' = some (.tup s1.vals) ∧ s1.ok ∧ s1.small := by
        by_cases h : wz = Str.ofString "past"
        · exact ⟨B, .past i (1 + j) (1 + n), by rw [h, decide_eq_true rfl]; rfl, gB, ⟨by omega, by omega⟩, (by omega : 1 + j ≤ 20), (by omega : 1 + n ≤ 20)⟩
        · exact ⟨A, .less i (1 + j), by rw [decide_eq_false (fun z => h (by injection z))]; rfl, gA, (by omega : 1 ≤ 1 + j ∧ 0 ≤ 1 + j), (by omega : 1 + j ≤ 20)⟩
      refine ⟨_, rfl, rfl, .inr ⟨_, rfl, C, _, _, _, rfl, rfl, SqL.of gC, hat, ?_⟩⟩
      obtain ⟨sI, ts, ss, gL, tl, oks, zss⟩ := I.same sC
      refine ⟨_, rfl, _, rfl, _, _, st_dp gP, .lst (SqL.of gL) (tl.dp st_fl), st_shaped s1, st_shapedL ss, _, rfl, ?_⟩
      obtain ⟨bb, ebb⟩ : ∃ bb : Bool, bb = (!(ss.map (tupD StepD.vals)).any fun z => PyData.eqv z (tupD StepD.vals s1)) := ⟨_, rfl⟩
      rw [← ebb]
      have stay : ∀ H', Same H12 H' → LsI L H7 H' (12 * i + 3 * j + (n + 1)) := fun H' s => LsI.le (LsI.same ⟨sI, ts, ss, gL, tl, oks, zss⟩ s) (by omega)
      cases bb with
      | false => exact iteF (iteF ⟨_, _, rfl, stay _ (Same.refl _)⟩)
      | true =>
        refine iteT ⟨_, rfl, _, rfl, t, P', s1, rfl, hl, by omega, gP, ok1, fun H13 s13 => ⟨rfl, _, rfl, ?_⟩⟩
        cases doR t s1 with
        | none => exact iteF ⟨_, _, rfl, stay _ s13⟩
        | some u =>
          have gL13 := s13 _ _ gL
          refine iteT ⟨_, rfl, .inl ⟨rfl, _, SqL.of gL13⟩, _, rfl, L, _, _, rfl, rfl, gL13, ?_, ?_⟩
          · rw [List.length_map, tl.len]
            exact Nat.lt_of_le_of_lt (by omega : _ ≤ 3000) (by decide)
          refine ⟨_, _, rfl, fun b o hb => ?_, ts ++ [P'], ss ++ [s1], ?_, TL.add gL13 (tl.mono s13) (s13 _ _ gP), fun s hs => ?_, ?_⟩
          · rw [upd_ne (ne_of_none hb hLn)]
            exact s13 _ _ (sI _ _ hb)
          · rw [upd_same, List.map_append]
            rfl
          · rcases List.mem_append.mp hs with hs | hs
            · exact oks s hs
            · rw [List.mem_singleton.mp hs]
              exact ⟨ok1, sm1⟩
          · rw [List.length_append]
            show _ + 1 ≤ _
            omega
    rintro σ H9 ⟨x7, x8, x9, x10, rfl, sI, ts, ss, gL, tl, oks, zss⟩
    have oH9 : Off p H H9 := oH.trans (off_of sI)
    have p9 := p7.same sI
    have g59 := sI _ _ g5
    have fin : ∀ H', Off p H9 H' → Pool H' p → Q (.ref q5) H' := fun H' o' p' => k q5 st5 H' (oH9.trans o') p' n5 (o' _ _ n5 g59) ⟨ok5, sm5⟩
    refine ⟨_, rfl, rfl, _, rfl, ?_⟩
    by_cases hmore : wz = Str.ofString "more"
    · rw [hmore, decide_eq_true rfl]
      exact iteF (iteF ⟨_, rfl, fin H9 (Off.refl _ _) p9⟩)
    rw [decide_eq_false (fun z => hmore (by injection z))]
    refine iteT ⟨_, rfl, (by show 0 ≤ sizeLine; decide), fun e he => ⟨_, .list [], .lst (SqL.of (Same.new he _ _ gL)) ((tl.mono (Same.new he)).dp st_fl), .lst (SqL.of upd_same) .nil, st_shapedL ss, by decide, _, rfl, ?_⟩⟩
    rw [eqv_nil]
    have se := Same.new (o := .lst []) he
    have p10 := p9.new (o := .lst []) he
    have gL10 := se _ _ gL
    have tl10 := tl.mono se
    generalize upd H9 e (.lst []) = H10 at se p10 gL10 tl10 ⊢
    cases ss with
    | nil => exact iteF (iteF ⟨_, rfl, fin H10 (off_of se) p10⟩)
    | cons s0 r0 =>
      refine iteT ⟨_, rfl, p, 5, rfl, p10, by decide, by decide, fun v6 H11 v60 v61 o11 p11 => ⟨_, _, rfl, rfl, _, rfl, ?_⟩⟩
      refine ite2 (fun _ => ?_) (fun _ => ⟨_, rfl, fin H11 ((off_of se).trans o11) p11⟩)
      have nLp : L ≠ p := fun z => by
        obtain ⟨_, _, h, _⟩ := p9
        rw [z, h] at gL
        have := congrArg (fun o => match o with | some (HO.lst xs) => xs.head? | _ => none) gL
        cases ts with
        | nil => have := tl.len; simp at this
        | cons a b => simp at this
      have gL11 := o11 _ _ nLp gL10
      refine ⟨_, rfl, _, rfl, _, rfl, L, _, rfl, .inl (SqL.of gL11), p, _, rfl, p11, ?_, ?_, fun v7 H12 v70 v71 o12 p12 => ?_⟩
      · rw [List.length_map, tl.len, List.length_cons]
        omega
      · rw [List.length_map, tl.len]
        have : (s0 :: r0).length ≤ 12 * 200 := Nat.le_trans zss (by omega)
        omega
      rw [List.length_map, tl.len] at v71
      obtain ⟨z, rfl⟩ : ∃ z : Nat, v7 = (z : Int) := ⟨v7.toNat, by omega⟩
      have hz2 : z < ts.length := by rw [tl.len]; omega
      obtain ⟨P', hP⟩ : ∃ P', ts[z]? = some P' := ⟨_, List.getElem?_eq_getElem hz2⟩
      obtain ⟨s1, hs1, gP⟩ := tl10.get z P' hP
      have nPp : P' ≠ p := fun y => by
        obtain ⟨_, _, h, _⟩ := p10
        rw [y, h] at gP
        cases gP
      have om := oks s1 (List.mem_of_getElem? hs1)
      exact ⟨_, _, _, _, rfl, rfl, SqL.of (o12 _ _ nLp gL11), atI_nat (v := V.ref P') (by rw [List.getElem?_map, hP]; rfl), k P' s1 H12 (((oH9.trans (off_of se)).trans o11).trans o12) p12 nPp (o12 _ _ nPp (o11 _ _ nPp gP)) om⟩
theorem sc_law_bent : FnScope ["_law_pool_here", "_law_step_here", "_law_at", "_law_way", "_law_odd"] ["_law_pool_here", "_law_step_here"] (defScope s_law_bent) := ⟨rfl, rfl, rfl, by decide +kernel, rfl, by decide +kernel, by decide +kernel⟩
theorem ok_law_bent {f : Addr} {fd : FuncData} (F : Fun K "_law_bent" "_law_bent" s_law_bent f fd) (T : Txt K mg w D_NUMBERS D_STEPS C_NoRow C_NoStep) (kn_law_take : KN P w K mg base CX0 1 ["_law_pool_here", "_law_many"] (sp_law_take) "_law_take" []) : FnOk P w K mg base CX0 2 f fd ["_law_pool_here", "_law_step_here"] (sp_law_bent K) := by
  obtain ⟨f_law_take, fd_law_take, ds_law_take, m_law_take, k_law_take, v_law_take, b_law_take, G_law_take⟩ := kn_law_take
  refine F.ok sc_law_bent (fun vs H Q E h => ?_) (fun cdv A outer s H vs Q E hr h => ?_)
  · obtain ⟨p, q, st, rfl, _⟩ := h
    all_goals rfl
  · obtain ⟨p, q, st, rfl, hp, hq, nq, ok, k⟩ := h
    refine ⟨_, (pss_cons (ps_set (i := 2) sc_law_bent.nd rfl (Or.inl rfl) (pe_call G_law_take (hr.mono (by decide)) rfl m_law_take k_law_take b_law_take v_law_take pass0 (pa_cons (pv 0) (pa_cons (pe_callB (call_lenK (K := K)) (by rfl) T.b_len (by decide +kernel) (pa_cons (pv 1) pa_nil)) pa_nil))))
    (pss_cons (ps_set (i := 3) sc_law_bent.nd rfl (Or.inl rfl) (pe_call G_law_take (hr.mono (by decide)) rfl m_law_take k_law_take b_law_take v_law_take pass0 (pa_cons (pv 0) (pa_cons pe_int pa_nil))))
    (pss_cons (ps_set (i := 4) sc_law_bent.nd rfl (Or.inl rfl) (pe_ix (ix_listK (K := K)) (pe_lst (pa_cons (pe_un un_neg pe_int) (pa_cons pe_bl (pa_cons pe_bl (pa_cons pe_non (pa_cons pe_str (pa_cons pe_int (pa_cons (pe_tup (pa_cons pe_int pa_nil)) (pa_cons (pe_op op_pow pe_int pe_int) pa_nil))))))))) (pe_call G_law_take (hr.mono (by decide)) rfl m_law_take k_law_take b_law_take v_law_take pass0 (pa_cons (pv 0) (pa_cons pe_int pa_nil))) (fun _ _ => rfl)))
    (pss_cons (ps_if (pt_cmpR op_lt (pv 3) pe_int (nomark _)) (pss_one (ps_ret (pe_op (op_catTK (K := K)) (pe_op (op_catE (K := K)) (pe_slice (sl_tupK (K := K)) (pv 1) po_none (po_some (pv 2))) (pe_tup (pa_cons (pv 4) pa_nil))) (pe_slice (sl_tupK (K := K)) (pv 1) (po_some (pe_op op_add (pv 2) pe_int)) po_none)))) pss_nil)
    (pss_cons (ps_if (pt_cmpR op_eq (pv 3) pe_int (nomark _)) (pss_one (ps_ret (pe_op (op_catE (K := K)) (pe_slice (sl_tupK (K := K)) (pv 1) po_none (po_some (pv 2))) (pe_slice (sl_tupK (K := K)) (pv 1) (po_some (pe_op op_add (pv 2) pe_int)) po_none)))) pss_nil)
    (pss_cons (ps_if (pt_cmpR op_eq (pv 3) pe_int (nomark _)) (pss_one (ps_ret (pe_op (op_catTK (K := K)) (pv 1) (pe_tup (pa_cons pe_int pa_nil))))) pss_nil)
    (pss_cons (ps_if (pt_cmpR op_eq (pv 3) pe_int (nomark _)) (pss_one (ps_ret (pe_op (op_catTK (K := K)) (pe_tup (pa_cons (pe_ix (ix_listK (K := K)) (pe_lst (pa_cons pe_str (pa_cons pe_str (pa_cons pe_str (pa_cons pe_str (pa_cons pe_non (pa_cons (pe_lst (pa_cons pe_str pa_nil)) pa_nil))))))) (pe_call G_law_take (hr.mono (by decide)) rfl m_law_take k_law_take b_law_take v_law_take pass0 (pa_cons (pv 0) (pa_cons pe_int pa_nil))) (fun _ _ => rfl)) pa_nil)) (pe_slice (sl_tupK (K := K)) (pv 1) (po_some pe_int) po_none)))) pss_nil)
    (pss_cons (ps_if (pt_cmpR op_eq (pv 3) pe_int (nomark _)) (pss_one (ps_ret (pe_ix (ix_listK (K := K)) (pe_lst (pa_cons pe_non (pa_cons (pe_tup pa_nil) (pa_cons (pe_lst pa_nil) (pa_cons pe_str (pa_cons pe_int (pa_cons pe_dnewK pa_nil))))))) (pe_call G_law_take (hr.mono (by decide)) rfl m_law_take k_law_take b_law_take v_law_take pass0 (pa_cons (pv 0) (pa_cons pe_int pa_nil))) (fun _ _ => rfl)))) pss_nil)
    (pss_one (ps_ret (pe_callTy (call_listK (K := K)) (by rfl) T.b_list (by decide +kernel) (pa_cons (pv 1) pa_nil)))))))))))), ?_⟩
    obtain ⟨z3, z4⟩ := st_len st
    have cs : ∀ H, ∀ v ∈ st.vals, Cell H v := fun H => cells_st st
    obtain ⟨vs, evs⟩ : ∃ vs, vs = st.vals := ⟨_, rfl⟩
    rw [← evs] at hq z3 z4 cs
    refine ⟨_, rfl, _, rfl, q, _, rfl, .inr (SqT.of hq), p, (vs.length : Int), rfl, hp, by omega, by omega, fun at_ H1 a0 a1 o1 p1 => ?_⟩
    obtain ⟨i, rfl⟩ : ∃ i : Nat, at_ = (i : Int) := ⟨at_.toNat, by omega⟩
    have hi : i < vs.length := by omega
    refine ⟨_, rfl, p, 8, rfl, p1, by decide, by decide, fun w H2 w0 w1 o2 p2 => ?_⟩
    have oH := o1.trans o2
    have gq := oH _ _ nq hq
    -- the odd one
    refine ⟨_, rfl, (by show 1 ≤ sizeLine; decide), fun A hA => ⟨_, _, rfl, rfl, ⟨by decide, by decide, by decide⟩, (by show 8 ≤ sizeLine; decide), fun B hB => ?_⟩⟩
    have sA := Same.new (o := .tup [.int 1]) hA
    have gA : (upd H2 A (.tup [.int 1])) A = some (.tup [.int 1]) := upd_same
    have p3 := p2.new (o := .tup [.int 1]) hA
    have nAp : A ≠ p := (p2.ne hA).symm
    generalize upd H2 A (.tup [.int 1]) = H3 at sA gA p3 hB ⊢
    obtain ⟨xs, exs⟩ : ∃ xs : List V, xs = [.int (-1), .bl true, .bl false, .non, .str (Str.ofString "1"), .int 0, .ref A, .int ((10 : Int) ^ (30 : Int).toNat)] := ⟨_, rfl⟩
    have sB := Same.new (o := .lst xs) hB
    have gB : (upd H3 B (.lst xs)) B = some (.lst xs) := upd_same
    have p4 := p3.new (o := .lst xs) hB
    have nBp : B ≠ p := (p3.ne hB).symm
    have gA := sB _ _ gA
    rw [← exs]
    generalize upd H3 B (.lst xs) = H4 at sB gB p4 gA ⊢
    refine ⟨_, rfl, p, 8, rfl, p4, by decide, by decide, fun v H5 v0 v1 o5 p5 => ?_⟩
    obtain ⟨j, rfl⟩ : ∃ j : Nat, v = (j : Int) := ⟨v.toNat, by omega⟩
    have zx : xs.length = 8 := by rw [exs]; rfl
    obtain ⟨y, hy⟩ : ∃ y, xs[j]? = some y := ⟨_, List.getElem?_eq_getElem (by omega)⟩
    have gA5 := o5 _ _ nAp gA
    have cy : Cell H5 y := by
      have := List.mem_of_getElem? hy
      rw [exs] at this
      simp only [List.mem_cons, List.not_mem_nil, or_false] at this
      rcases this with rfl | rfl | rfl | rfl | rfl | rfl | rfl | rfl
      · exact .inl ⟨_, rfl⟩
      · exact .inr (.inl ⟨_, rfl⟩)
      · exact .inr (.inl ⟨_, rfl⟩)
      · exact .inr (.inr (.inl rfl))
      · exact .inr (.inr (.inr (.inl ⟨_, by decide, rfl⟩)))
      · exact .inl ⟨_, rfl⟩
      · exact .inr (.inr (.inr (.inr ⟨A, rfl, .inl gA5⟩)))
      · exact .inl ⟨_, rfl⟩
    refine ⟨B, xs, (j : Int), y, rfl, rfl, SqL.of (o5 _ _ nBp gB), atI_nat hy, ?_⟩
    have oH := ((oH.trans (off_of sA)).trans (off_of sB)).trans o5
    have gq := oH _ _ nq hq
    have fin : ∀ (H' : Hp) (r : Addr) (us : List V), Off p H5 H' → Pool H' p → H' r = some (.tup us) → (∀ u ∈ us, Cell H' u) → us.length ≤ 8 → Q (.ref r) H' := fun H' r us o' p' g c z => k (.ref r) (formR us) H' (oH.trans o') p' (thg_tup g c z) (fun e => by
      injection e with e
      obtain ⟨_, _, h, _⟩ := p'
      rw [← e, g] at h
      cases h)
    have finS : ∀ (H' : Hp) (r : Addr) (us : List V), Same H5 H' → H' r = some (.tup us) → (∀ u ∈ us, Cell H' u) → us.length ≤ 8 → Q (.ref r) H' := fun H' r us s' g c z => fin H' r us (off_of s') (p5.same s') g c z
    have e1 : (i : Int) + 1 = ((i + 1 : Nat) : Int) := by omega
    have sizeB : ∀ n : Nat, n ≤ 8 → n ≤ sizeLine := fun n h => Nat.le_trans h (by decide)
    have cd : ∀ H', ∀ u ∈ vs.drop (i + 1), Cell H' u := fun H' u hu => cs H' u (List.mem_of_mem_drop hu)
    have zd : (vs.drop (i + 1)).length ≤ 4 := by rw [List.length_drop]; omega
    have join : ∀ (H' : Hp) (r c : Addr) (us : List V), Same H5 H' → H' r = some (.tup us) → us ≠ [] → (∀ u ∈ us, Cell H' u) → us.length ≤ 4 → H' c = some (.tup (vs.drop (i + 1))) → rCatT K (.ref r) (.ref c) H' Q := fun H' r c us s g ne cu zu gc =>
      ⟨r, c, us, _, rfl, rfl, SqT.of g, SqT.of gc, ne, sizeB _ (by omega), fun _ => finS H' r us s g cu (by omega), fun _ d hd => finS _ d _ (Same.trans s (Same.new hd)) upd_same (fun u hu => by
        rcases List.mem_append.mp hu with hu | hu
        · exact (cu u hu).same (Same.new hd)
        · exact cd _ u hu) (by rw [List.length_append]; omega)⟩
    have ct : ∀ H', ∀ u ∈ vs.take i, Cell H' u := fun H' u hu => cs H' u (List.mem_of_mem_take hu)
    have zt : (vs.take i).length ≤ 4 := by rw [List.length_take]; omega
    -- a part put otherwise
    refine ⟨_, rfl, _, _, rfl, rfl, _, rfl, ?_⟩
    by_cases hw3 : w < 3
    · rw [decide_eq_true hw3]
      refine iteT ⟨_, rfl, _, rfl, _, rfl, q, _, rfl, SqT.of gq, not_pre hi, fun a ha => ?_⟩
      rw [cut_pre]
      have sa := Same.new (o := .tup (vs.take i)) ha
      have ga := upd_same (H := H5) (a := a) (o := HO.tup (vs.take i))
      generalize upd H5 a (.tup (vs.take i)) = H6 at sa ga ⊢
      refine ⟨_, rfl, (by show 1 ≤ sizeLine; decide), fun b hb => ?_⟩
      have sb := Same.trans sa (Same.new (o := .tup [y]) hb)
      have ga := Same.new (o := .tup [y]) hb _ _ ga
      have gb := upd_same (H := H6) (a := b) (o := HO.tup [y])
      generalize upd H6 b (.tup [y]) = H7 at sb ga gb ⊢
      have cy7 : ∀ u ∈ [y], Cell H7 u := fun u hu => by
        rw [List.mem_singleton.mp hu]
        exact cy.same sb
      by_cases h0 : vs.take i = []
      · rw [h0] at ga
        refine .inl ⟨a, b, [y], rfl, rfl, SqT.of ga, SqT.of gb, ?_⟩
        refine ⟨_, rfl, _, rfl, _, _, rfl, rfl, _, rfl, q, _, rfl, SqT.of (sb _ _ gq), by rw [e1]; exact not_suf (by omega) (by omega), fun c hc => ?_⟩
        rw [e1, cut_suf]
        exact join _ b c [y] (Same.trans sb (Same.new hc)) (Same.new hc _ _ gb) (by simp) (fun u hu => (cy7 u hu).same (Same.new hc)) (by simp) upd_same
      · refine .inr ⟨a, b, _, _, rfl, rfl, SqT.of ga, SqT.of gb, h0, sizeB _ (by rw [List.length_singleton]; omega), (fun h => nomatch h), fun _ d hd => ?_⟩
        have sd := Same.trans sb (Same.new (o := .tup (vs.take i ++ [y])) hd)
        have gd := upd_same (H := H7) (a := d) (o := HO.tup (vs.take i ++ [y]))
        have cd7 : ∀ u ∈ vs.take i ++ [y], Cell (upd H7 d (.tup (vs.take i ++ [y]))) u := fun u hu => by
          rcases List.mem_append.mp hu with hu | hu
          · exact ct _ u hu
          · exact (cy7 u hu).same (Same.new hd)
        generalize upd H7 d (.tup (vs.take i ++ [y])) = H8 at sd gd cd7 ⊢
        refine ⟨_, rfl, _, rfl, _, _, rfl, rfl, _, rfl, q, _, rfl, SqT.of (sd _ _ gq), by rw [e1]; exact not_suf (by omega) (by omega), fun c hc => ?_⟩
        rw [e1, cut_suf]
        exact join _ d c _ (Same.trans sd (Same.new hc)) (Same.new hc _ _ gd) (by simp) (fun u hu => (cd7 u hu).same (Same.new hc)) (by rw [List.length_append, List.length_take, List.length_singleton]; omega) upd_same
    rw [decide_eq_false hw3]
    refine iteF ⟨_, rfl, rfl, _, rfl, ?_⟩
    -- a part fewer
    by_cases hw3 : w = 3
    · rw [hw3, decide_eq_true rfl]
      refine iteT ⟨_, rfl, _, rfl, _, rfl, q, _, rfl, SqT.of gq, not_pre hi, fun a ha => ?_⟩
      rw [cut_pre]
      have sa := Same.new (o := .tup (vs.take i)) ha
      have ga := upd_same (H := H5) (a := a) (o := HO.tup (vs.take i))
      generalize upd H5 a (.tup (vs.take i)) = H6 at sa ga ⊢
      refine ⟨_, rfl, _, rfl, _, _, rfl, rfl, _, rfl, q, _, rfl, SqT.of (sa _ _ gq), by rw [e1]; exact not_suf (by omega) (by omega), fun c hc => ?_⟩
      rw [e1, cut_suf]
      have sc := Same.trans sa (Same.new (o := .tup (vs.drop (i + 1))) hc)
      have ga := Same.new (o := .tup (vs.drop (i + 1))) hc _ _ ga
      have gc := upd_same (H := H6) (a := c) (o := HO.tup (vs.drop (i + 1)))
      generalize upd H6 c (.tup (vs.drop (i + 1))) = H7 at sc ga gc ⊢
      by_cases h0 : vs.take i = []
      · rw [h0] at ga
        exact .inl ⟨a, c, _, rfl, rfl, SqT.of ga, SqT.of gc, finS H7 c _ sc gc (cd _) (by omega)⟩
      · exact .inr (join _ a c _ sc ga h0 (ct _) zt gc)
    rw [decide_eq_false (fun h => hw3 (by injection h))]
    refine iteF ⟨_, rfl, rfl, _, rfl, ?_⟩
    -- a part more
    by_cases hw3 : w = 4
    · rw [hw3, decide_eq_true rfl]
      refine iteT ⟨_, rfl, (by show 1 ≤ sizeLine; decide), fun a ha => ?_⟩
      have sa := Same.new (o := .tup [.int 1]) ha
      exact ⟨q, a, _, _, rfl, rfl, SqT.of (sa _ _ gq), SqT.of upd_same, (fun h => by rw [h] at z3; simp at z3), sizeB _ (by rw [List.length_singleton]; omega), (fun h => nomatch h), fun _ d hd => finS _ d _ (Same.trans sa (Same.new hd)) upd_same (fun u hu => by
        rcases List.mem_append.mp hu with hu | hu
        · exact cs _ u hu
        · rw [List.mem_singleton.mp hu]
          exact .inl ⟨_, rfl⟩) (by rw [List.length_append, List.length_singleton]; omega)⟩
    rw [decide_eq_false (fun h => hw3 (by injection h))]
    refine iteF ⟨_, rfl, rfl, _, rfl, ?_⟩
    -- another word
    by_cases hw3 : w = 5
    · rw [hw3, decide_eq_true rfl]
      refine iteT ⟨(by show 1 ≤ sizeLine; decide), fun a ha => ⟨(by show 6 ≤ sizeLine; decide), fun b hb => ?_⟩⟩
      have sa := Same.new (o := .lst [V.str (Str.ofString "less")]) ha
      have ga : (upd H5 a (.lst [V.str (Str.ofString "less")])) a = some (.lst [V.str (Str.ofString "less")]) := upd_same
      have p6 := p5.new (o := .lst [V.str (Str.ofString "less")]) ha
      have nap : a ≠ p := (p5.ne ha).symm
      generalize upd H5 a (.lst [V.str (Str.ofString "less")]) = H6 at sa ga p6 hb ⊢
      obtain ⟨ys, eys⟩ : ∃ ys : List V, ys = [.str (Str.ofString "Less"), .str (Str.ofString "lesser"), .str (Str.ofString ""), .str (Str.ofString "pass"), .non, .ref a] := ⟨_, rfl⟩
      rw [← eys]
      have sb := Same.trans sa (Same.new (o := .lst ys) hb)
      have ga := Same.new (o := .lst ys) hb _ _ ga
      have gb : (upd H6 b (.lst ys)) b = some (.lst ys) := upd_same
      have p7 := p6.new (o := .lst ys) hb
      have nbp : b ≠ p := (p6.ne hb).symm
      generalize upd H6 b (.lst ys) = H7 at sb ga gb p7 ⊢
      refine ⟨_, rfl, p, 6, rfl, p7, by decide, by decide, fun v2 H8 v20 v21 o8 p8 => ?_⟩
      obtain ⟨j2, rfl⟩ : ∃ j2 : Nat, v2 = (j2 : Int) := ⟨v2.toNat, by omega⟩
      have zy : ys.length = 6 := by rw [eys]; rfl
      obtain ⟨x, hx⟩ : ∃ x, ys[j2]? = some x := ⟨_, List.getElem?_eq_getElem (by omega)⟩
      have ga8 := o8 _ _ nap ga
      have cx : Cell H8 x := by
        have := List.mem_of_getElem? hx
        rw [eys] at this
        simp only [List.mem_cons, List.not_mem_nil, or_false] at this
        rcases this with rfl | rfl | rfl | rfl | rfl | rfl
        · exact .inr (.inr (.inr (.inl ⟨_, by decide, rfl⟩)))
        · exact .inr (.inr (.inr (.inl ⟨_, by decide, rfl⟩)))
        · exact .inr (.inr (.inr (.inl ⟨_, by decide, rfl⟩)))
        · exact .inr (.inr (.inr (.inl ⟨_, by decide, rfl⟩)))
        · exact .inr (.inr (.inl rfl))
        · exact .inr (.inr (.inr (.inr ⟨a, rfl, .inr ga8⟩)))
      refine ⟨b, ys, (j2 : Int), x, rfl, rfl, SqL.of (o8 _ _ nbp gb), atI_nat hx, (by show 1 ≤ sizeLine; decide), fun c hc => ?_⟩
      have gq8 := o8 _ _ nq (sb _ _ gq)
      have o58 := (off_of (p := p) sb).trans o8
      have sc := Same.new (o := .tup [x]) hc
      have gc := upd_same (H := H8) (a := c) (o := HO.tup [x])
      generalize upd H8 c (.tup [x]) = H9 at sc gc ⊢
      have e2 : (1 : Int) = ((1 : Nat) : Int) := rfl
      refine ⟨_, rfl, _, rfl, q, _, rfl, SqT.of (sc _ _ gq8), by rw [e2]; exact not_suf (by omega) (by omega), fun d hd => ?_⟩
      rw [e2, cut_suf]
      have sd := Same.trans sc (Same.new (o := .tup (vs.drop 1)) hd)
      have gc := Same.new (o := .tup (vs.drop 1)) hd _ _ gc
      have gd := upd_same (H := H9) (a := d) (o := HO.tup (vs.drop 1))
      generalize upd H9 d (.tup (vs.drop 1)) = H10 at sd gc gd ⊢
      have z1 : (vs.drop 1).length ≤ 4 := by rw [List.length_drop]; omega
      refine ⟨c, d, _, _, rfl, rfl, SqT.of gc, SqT.of gd, (by simp), sizeB _ (by rw [List.length_singleton]; omega), (fun h => by have := congrArg List.length h; rw [List.length_drop] at this; simp at this; omega), fun _ r hr => ?_⟩
      refine fin _ r ([x] ++ vs.drop 1) (o58.trans (off_of (Same.trans sd (Same.new hr)))) (p8.same (Same.trans sd (Same.new hr))) upd_same (fun u hu => ?_) (by rw [List.length_append, List.length_singleton]; omega)
      rcases List.mem_append.mp hu with hu | hu
      · rw [List.mem_singleton.mp hu]
        exact cx.same (Same.trans sd (Same.new hr))
      · exact cs _ u (List.mem_of_mem_drop hu)
    rw [decide_eq_false (fun h => hw3 (by injection h))]
    refine iteF ⟨_, rfl, rfl, _, rfl, ?_⟩
    -- no tuple
    by_cases hw3 : w = 6
    · rw [hw3, decide_eq_true rfl]
      refine iteT ⟨(by show 0 ≤ sizeLine; decide), fun a ha => ⟨(by show 0 ≤ sizeLine; decide), fun b hb => fun c hc => ⟨(by show 6 ≤ sizeLine; decide), fun d hd => ?_⟩⟩⟩
      have ga : (upd H5 a (.tup [])) a = some (.tup []) := upd_same
      have sb := Same.new (o := .lst []) hb
      have sc := Same.new (o := .dK []) hc
      have gb := sc _ _ (upd_same (H := upd H5 a (.tup [])) (a := b) (o := HO.lst []))
      have ga := sc _ _ (sb _ _ ga)
      have gc : (upd (upd (upd H5 a (.tup [])) b (.lst [])) c (.dK [])) c = some (.dK []) := upd_same
      have p6 := ((p5.new (o := .tup []) ha).new (o := .lst []) hb).new (o := .dK []) hc
      have nap : a ≠ p := (p5.ne ha).symm
      have nbp : b ≠ p := ((p5.new (o := .tup []) ha).ne hb).symm
      have ncp : c ≠ p := (((p5.new (o := .tup []) ha).new (o := .lst []) hb).ne hc).symm
      have s6 := Same.trans (Same.new (o := .tup []) ha) (Same.trans sb sc)
      generalize upd (upd (upd H5 a (.tup [])) b (.lst [])) c (.dK []) = H6 at ga gb gc p6 s6 hd ⊢
      obtain ⟨ys, eys⟩ : ∃ ys : List V, ys = [.non, .ref a, .ref b, .str (Str.ofString "less"), .int 0, .ref c] := ⟨_, rfl⟩
      rw [← eys]
      have sd := Same.new (o := .lst ys) hd
      have gd : (upd H6 d (.lst ys)) d = some (.lst ys) := upd_same
      have p7 := p6.new (o := .lst ys) hd
      have ndp : d ≠ p := (p6.ne hd).symm
      have ga := sd _ _ ga
      have gb := sd _ _ gb
      have gc := sd _ _ gc
      have s7 := Same.trans s6 sd
      generalize upd H6 d (.lst ys) = H7 at ga gb gc gd p7 s7 ⊢
      refine ⟨_, rfl, p, 6, rfl, p7, by decide, by decide, fun v2 H8 v20 v21 o8 p8 => ?_⟩
      obtain ⟨j2, rfl⟩ : ∃ j2 : Nat, v2 = (j2 : Int) := ⟨v2.toNat, by omega⟩
      have zy : ys.length = 6 := by rw [eys]; rfl
      obtain ⟨x, hx⟩ : ∃ x, ys[j2]? = some x := ⟨_, List.getElem?_eq_getElem (by omega)⟩
      refine ⟨d, ys, (j2 : Int), x, rfl, rfl, SqL.of (o8 _ _ ndp gd), atI_nat hx, ?_⟩
      have o58 := oH.trans ((off_of (p := p) s7).trans o8)
      have hm := List.mem_of_getElem? hx
      rw [eys] at hm
      simp only [List.mem_cons, List.not_mem_nil, or_false] at hm
      have aw : ∀ b : Addr, b ≠ p → AwayV p (.ref b) := fun b h e => by
        injection e with e
        exact h e
      rcases hm with rfl | rfl | rfl | rfl | rfl | rfl
      · exact k _ none H8 o58 p8 (.inr ⟨.inl rfl, rfl⟩) (fun e => nomatch e)
      · exact k _ (formR []) H8 o58 p8 (thg_tup (o8 _ _ nap ga) (fun _ h => nomatch h) (by decide)) (aw a nap)
      · exact k _ none H8 o58 p8 (.inr ⟨.inr (.inr (.inr (.inr ⟨b, rfl, .inl ⟨_, o8 _ _ nbp gb⟩⟩))), rfl⟩) (aw b nbp)
      · exact k _ none H8 o58 p8 (.inr ⟨.inr (.inr (.inr (.inl ⟨_, rfl⟩))), rfl⟩) (fun e => nomatch e)
      · exact k _ none H8 o58 p8 (.inr ⟨.inr (.inl ⟨_, rfl⟩), rfl⟩) (fun e => nomatch e)
      · exact k _ none H8 o58 p8 (.inr ⟨.inr (.inr (.inr (.inr ⟨c, rfl, .inr ⟨_, o8 _ _ ncp gc⟩⟩))), rfl⟩) (aw c ncp)
    rw [decide_eq_false (fun h => hw3 (by injection h))]
    refine iteF ⟨_, rfl, q, _, rfl, .inr (SqT.of gq), fun l hl => ?_⟩
    exact k (.ref l) none _ (oH.trans (off_of (Same.new hl))) (p5.same (Same.new hl)) (.inr ⟨.inr (.inr (.inr (.inr ⟨l, rfl, .inl ⟨_, upd_same⟩⟩))), rfl⟩) (fun e => by
      injection e with e
      exact (p5.ne hl) e.symm)
theorem sc_law_formed : FnScope ["_law_step_here", "_law_number"] ["_law_step_here"] (defScope s_law_formed) := ⟨rfl, rfl, rfl, by decide +kernel, rfl, by decide +kernel, by decide +kernel⟩
theorem ok_law_formed {f : Addr} {fd : FuncData} (F : Fun K "_law_formed" "_law_formed" s_law_formed f fd) (T : Txt K mg w D_NUMBERS D_STEPS C_NoRow C_NoStep) : FnOk P w K mg base CX0 1 f fd ["_law_step_here"] (sp_law_formed K) := by
  refine F.ok sc_law_formed (fun vs H Q E h => ?_) (fun cdv A outer s H vs Q E hr h => ?_)
  · obtain ⟨x, o, rfl, _⟩ := h
    all_goals rfl
  · obtain ⟨x, o, rfl, hx, k⟩ := h
    refine ⟨_, (pss_cons (ps_if (PW.pt (pw_or (pt_not (pt_val (pe_callB (call_isiK1 (K := K)) (by rfl) T.b_isinstance (by decide +kernel) (pa_cons (pv 0) (pa_cons (pe_bltn (v := .ty "tuple") (by rfl) T.b_tuple (by decide +kernel) rfl) pa_nil))))) (pw_or (pt_cmpR op_lt (pe_callB (call_lenK (K := K)) (by rfl) T.b_len (by decide +kernel) (pa_cons (pv 0) pa_nil)) pe_int (nomark _)) (pw_or1 (pt_cmpR (op_notInDK (K := K) hr.units65) (pe_ix (ix_tupK (K := K)) (pv 0) pe_int (fun _ _ => rfl)) (pe_lst (pa_cons pe_str (pa_cons pe_str (pa_cons pe_str pa_nil)))) (by rfl)))))) (pss_one (ps_ret pe_bl)) pss_nil)
    (pss_cons (ps_if (pt_cmpR op_ne (pe_callB (call_lenK (K := K)) (by rfl) T.b_len (by decide +kernel) (pa_cons (pv 0) pa_nil)) (pe_ix (ix_listK (K := K)) (pe_lst (pa_cons pe_int (pa_cons pe_int pa_nil))) (pe_callTy call_int1 (by rfl) T.b_int (by decide +kernel) (pa_cons (pe_cmpR op_eq (pe_ix (ix_tupK (K := K)) (pv 0) pe_int (fun _ _ => rfl)) pe_str (nomark _)) pa_nil)) (fun _ _ => rfl)) (nomark _)) (pss_one (ps_ret pe_bl)) pss_nil)
    (pss_cons (ps_for PassesOwn.never rfl (pi_tup (pe_slice (sl_tupK (K := K)) (pv 0) (po_some pe_int) po_none)) (pg_name (i := 1) sc_law_formed.nd rfl (Or.inl rfl)) (pss_one (ps_if (PW.pt (pw_or (pt_val (pe_callB (call_isiK1 (K := K)) (by rfl) T.b_isinstance (by decide +kernel) (pa_cons (pv 1) (pa_cons (pe_bltn (v := .ty "bool") (by rfl) T.b_bool (by decide +kernel) rfl) pa_nil)))) (pw_or1 (pt_not (pt_val (pe_callB (call_isiK1 (K := K)) (by rfl) T.b_isinstance (by decide +kernel) (pa_cons (pv 1) (pa_cons (pe_bltn (v := .ty "int") (by rfl) T.b_int (by decide +kernel) rfl) pa_nil)))))))) (pss_one (ps_ret pe_bl)) pss_nil)))
    (pss_one (ps_ret (pe_and (pe_cmpR op_ge (pe_ix (ix_tupK (K := K)) (pv 0) pe_int (fun _ _ => rfl)) pe_int (nomark _)) (pe_and (pe_cmpR op_ge (pe_ix (ix_tupK (K := K)) (pv 0) pe_int (fun _ _ => rfl)) pe_int (nomark _)) (pe_one (pe_cmpR op_ge (pe_ix (ix_tupK (K := K)) (pv 0) (pe_un un_neg pe_int) (fun _ _ => rfl)) (pe_callTy call_int1 (by rfl) T.b_int (by decide +kernel) (pa_cons (pe_cmpR op_eq (pe_ix (ix_tupK (K := K)) (pv 0) pe_int (fun _ _ => rfl)) pe_str (nomark _)) pa_nil)) (nomark _)))))))))), ?_⟩
    rcases hx with ⟨p, vs, rfl, hp, hc, hz, ho⟩ | ⟨hn, rfl⟩
    rotate_left
    · obtain ⟨t, ht, hk⟩ := hn.ty (K := K)
      exact ⟨_, rfl, x, _, _, _, false, rfl, .ty "tuple", ht, kit_ty hk, false, rfl, iteT (k H (Same.refl H))⟩
    subst ho
    refine ⟨_, rfl, _, _, _, _, true, rfl, .ty "tuple", .base (.tup hp), kit_ty (r := true) (by decide +kernel), true, rfl, iteF ?_⟩
    refine ⟨_, rfl, p, _, rfl, .inr (SqT.of hp), _, _, rfl, rfl, _, rfl, ?_⟩
    by_cases h3 : (vs.length : Int) < 3
    · rw [decide_eq_true h3]
      have hno : formR vs = none := by
        match vs, h3 with
        | [], _ => rfl
        | [v], _ => unfold formR; split <;> first | rfl | (rename_i e; cases e)
        | [v, u], _ => unfold formR; split <;> first | rfl | (rename_i e; cases e)
        | _ :: _ :: _ :: _, h => simp at h; omega
      rw [hno] at k
      exact iteT (k H (Same.refl H))
    rw [decide_eq_false h3]
    refine iteF ?_
    cases vs with
    | nil => exact absurd (by decide) h3
    | cons v r =>
      have cv := hc v List.mem_cons_self
      refine ⟨_, rfl, p, _, _, _, rfl, rfl, SqT.of hp, atI0, (by show 3 ≤ sizeLine; decide), fun e he => ?_⟩
      have s1 := Same.new (o := .lst [V.str (Str.ofString "less"), .str (Str.ofString "more"), .str (Str.ofString "past")]) he
      have ge := upd_same (H := H) (a := e) (o := HO.lst [V.str (Str.ofString "less"), .str (Str.ofString "more"), .str (Str.ofString "past")])
      have hp1 := s1 _ _ hp
      generalize upd H e (.lst [V.str (Str.ofString "less"), .str (Str.ofString "more"), .str (Str.ofString "past")]) = H1 at s1 ge hp1 ⊢
      obtain ⟨d, dd, d2, d3, de⟩ := (cv.same s1).dp (K := K)
      refine ⟨d, _, dd, .lst (SqL.of ge) (.cons (.str _) (.cons (.str _) (.cons (.str _) .nil))), ?_, ?_, _, rfl, ?_⟩
      · simp only [SeqAt.shaped, d2, Bool.true_and]
        exact decide_eq_true (by omega)
      · simp [SeqAt.shaped, PyData.canLay0, PyData.canLayAll0, PyData.depth, PyData.depthAll, ok_less, ok_more, ok_past]
      rw [List.any_cons, List.any_cons, List.any_cons, List.any_nil, de, de, de, Bool.or_false]
      by_cases hw : v = .str (Str.ofString "less") ∨ v = .str (Str.ofString "more") ∨ v = .str (Str.ofString "past")
      rotate_left
      · rw [decide_eq_false (fun z => hw (.inl z)), decide_eq_false (fun z => hw (.inr (.inl z))), decide_eq_false (fun z => hw (.inr (.inr z)))]
        have hno : formR (v :: r) = none := by
          cases hs : isS v with
          | false => exact form_head hs
          | true =>
            cases v with
            | str w => exact form_word ⟨fun z => hw (.inl (by rw [z])), fun z => hw (.inr (.inl (by rw [z]))), fun z => hw (.inr (.inr (by rw [z])))⟩
            | _ => cases hs
        rw [hno] at k
        exact iteT (k H1 s1)
      have hany : (decide (v = .str (Str.ofString "less")) || (decide (v = .str (Str.ofString "more")) || decide (v = .str (Str.ofString "past")))) = true := by
        rw [Bool.or_eq_true, Bool.or_eq_true, decide_eq_true_eq, decide_eq_true_eq, decide_eq_true_eq]
        exact hw
      rw [hany]
      refine iteF ?_
      obtain ⟨w, c, rfl, hwc, ec⟩ : ∃ (w : Str) (c : Nat), v = .str w ∧ ((w = Str.ofString "less" ∨ w = Str.ofString "more") ∧ c = 2 ∨ w = Str.ofString "past" ∧ c = 3) ∧ ((c : Int) + 1 = 3 + if w = Str.ofString "past" then 1 else 0) := by
        rcases hw with rfl | rfl | rfl
        · exact ⟨_, 2, rfl, .inl ⟨.inl rfl, rfl⟩, by rw [if_neg (by decide)]; rfl⟩
        · exact ⟨_, 2, rfl, .inl ⟨.inr rfl, rfl⟩, by rw [if_neg (by decide)]; rfl⟩
        · exact ⟨_, 3, rfl, .inr ⟨rfl, rfl⟩, by rw [if_pos rfl]; rfl⟩
      -- how many parts
      refine ⟨_, rfl, p, _, rfl, .inr (SqT.of hp1), (by show 2 ≤ sizeLine; decide), fun g hg => ?_⟩
      have s2 := Same.trans s1 (Same.new (o := .lst [V.int 3, .int 4]) hg)
      have gg := upd_same (H := H1) (a := g) (o := HO.lst [V.int 3, .int 4])
      have hp2 := Same.new (o := .lst [V.int 3, .int 4]) hg _ _ hp1
      generalize upd H1 g (.lst [V.int 3, .int 4]) = H2 at s2 gg hp2 ⊢
      have eP : decide (V.str w = V.str (Str.ofString "past")) = decide (c = 3) := by
        rcases hwc with ⟨rfl | rfl, rfl⟩ | ⟨rfl, rfl⟩ <;> decide
      refine ⟨_, rfl, p, _, _, _, rfl, rfl, SqT.of hp2, atI0, rfl, .inr ⟨_, rfl, g, _, _, .int ((c : Int) + 1), rfl, rfl, SqL.of gg, ?_, rfl, _, rfl, ?_⟩⟩
      · rw [eP]
        rcases hwc with ⟨_, rfl⟩ | ⟨_, rfl⟩ <;> rfl
      rw [List.length_cons]
      by_cases hl : r.length = c
      rotate_left
      · rw [decide_eq_false (fun z => hl (by injection z with z; omega))]
        have hno : formR (.str w :: r) = none := by
          rcases hwc with ⟨hw2, rfl⟩ | ⟨rfl, rfl⟩
          · exact form_two hl (by rcases hw2 with rfl | rfl <;> decide)
          · exact form_three hl
        rw [hno] at k
        exact iteT (k H2 s2)
      refine iteNS (by rw [hl]; rfl) ?_
      -- each a number
      refine ⟨_, rfl, _, rfl, p, _, rfl, SqT.of hp2, not_whole1 _ _ _, fun n hn2 => ?_⟩
      rw [cut_tail]
      have s3 := Same.trans s2 (Same.new (o := .tup r) hn2)
      have gn := upd_same (H := H2) (a := n) (o := HO.tup r)
      have hp3 := Same.new (o := .tup r) hn2 _ _ hp2
      generalize upd H2 n (.tup r) = H3 at s3 gn hp3 ⊢
      have cr : ∀ v ∈ r, Cell H3 v := fun v hv => (hc v (List.mem_cons_of_mem _ hv)).same s3
      refine ⟨n, rfl, ⟨_, SqT.of gn⟩, for_tup (K := K) (a := n) (xs := r) (fun i σ H' => ∃ x1, σ = [some (.ref p), x1] ∧ Same H3 H' ∧ (r.take i).all isI = true) ⟨_, rfl, Same.refl _, rfl⟩ (fun _ σ H' _ ⟨_, _, s, _⟩ => SqT.of (s _ _ gn)) ?_ ?_⟩
      · rintro i y σ H4 hy ⟨x1, rfl, s4, hi⟩
        have cy := (cr y (List.mem_of_getElem? hy)).same s4
        obtain ⟨t, b, c2, ty, k1, k2, ei⟩ := cy.ty2 (K := K)
        have bad : isI y = false → r.all isI = false := fun h => by
          rw [List.all_eq_false]
          exact ⟨y, List.mem_of_getElem? hy, by rw [h]; decide⟩
        refine ⟨_, rfl, y, _, _, _, b, rfl, .ty "bool", ty, kit_ty k1, b, rfl, ?_⟩
        cases b with
        | true =>
          rw [form_int (bad ei)] at k
          exact iteT (k H4 (Same.trans s3 s4))
        | false =>
          refine iteF ⟨_, rfl, y, _, _, _, c2, rfl, .ty "int", ty, kit_ty k2, c2, rfl, ?_⟩
          cases c2 with
          | false =>
            rw [form_int (bad ei)] at k
            exact iteT (k H4 (Same.trans s3 s4))
          | true =>
            refine iteF ⟨_, rfl, s4, ?_⟩
            rw [take_oneS hy, List.all_append, hi, List.all_cons, ei]
            rfl
      rintro σ H4 ⟨x1, rfl, s4, hall⟩
      rw [List.take_length] at hall
      have hp4 := s4 _ _ hp3
      have s5 := Same.trans s3 s4
      obtain ⟨ns, rfl⟩ := ints_of hall
      rw [List.length_map] at hl
      rcases hwc with ⟨hw2, rfl⟩ | ⟨rfl, rfl⟩
      · obtain ⟨a, m, rfl⟩ := len2 hl
        have k : ∀ H' : Hp, Same H H' → Q (.bl (formR [.str w, .int a, .int m]).isSome) H' := k
        rw [form_2 hw2, ← dec_last2] at k
        refine ⟨_, rfl, p, _, _, _, rfl, rfl, SqT.of hp4, atI1, _, _, rfl, rfl, _, rfl, ?_⟩
        cases ha : decide ((0 : Int) ≤ a) with
        | false =>
          rw [ha] at k
          exact iteF (k H4 s5)
        | true =>
          rw [ha] at k
          refine iteT ⟨_, rfl, p, _, _, _, rfl, rfl, SqT.of hp4, atI_nat (j := 2) rfl, _, _, rfl, rfl, _, rfl, ?_⟩
          cases hm : decide ((1 : Int) ≤ m) with
          | false =>
            rw [hm] at k
            exact iteF (k H4 s5)
          | true =>
            rw [hm] at k
            refine iteT ⟨_, rfl, _, rfl, p, _, _, _, rfl, rfl, SqT.of hp4, (by rfl), _, rfl, p, _, _, _, rfl, rfl, SqT.of hp4, atI0, rfl, .inr ⟨_, rfl, m, (0 : Int), rfl, ?_, ?_⟩⟩
            · rw [eP]
              rfl
            · exact k H4 s5
      · obtain ⟨a, m, j, rfl⟩ := len3 hl
        have k : ∀ H' : Hp, Same H H' → Q (.bl (formR [.str (Str.ofString "past"), .int a, .int m, .int j]).isSome) H' := k
        rw [form_3] at k
        refine ⟨_, rfl, p, _, _, _, rfl, rfl, SqT.of hp4, atI1, _, _, rfl, rfl, _, rfl, ?_⟩
        cases ha : decide ((0 : Int) ≤ a) with
        | false =>
          rw [ha] at k
          exact iteF (k H4 s5)
        | true =>
          rw [ha] at k
          refine iteT ⟨_, rfl, p, _, _, _, rfl, rfl, SqT.of hp4, atI_nat (j := 2) rfl, _, _, rfl, rfl, _, rfl, ?_⟩
          cases hm : decide ((1 : Int) ≤ m) with
          | false =>
            rw [hm] at k
            exact iteF (k H4 s5)
          | true =>
            rw [hm] at k
            refine iteT ⟨_, rfl, _, rfl, p, _, _, _, rfl, rfl, SqT.of hp4, (by rfl), _, rfl, p, _, _, _, rfl, rfl, SqT.of hp4, atI0, rfl, .inr ⟨_, rfl, j, (1 : Int), rfl, ?_, ?_⟩⟩
            · rw [eP]
              rfl
            · exact k H4 s5
theorem sc_is_row_within : FnScope ["thing", "most", "sign"] ["thing", "most"] (defScope s_is_row_within) := ⟨rfl, rfl, rfl, by decide +kernel, rfl, by decide +kernel, by decide +kernel⟩
theorem ok_is_row_within {f : Addr} {fd : FuncData} (F : Fun K "is_row_within" "is_row_within" s_is_row_within f fd) (T : Txt K mg w D_NUMBERS D_STEPS C_NoRow C_NoStep) : FnOk P w K mg base CX0 1 f fd ["thing", "most"] (sp_is_row_within) := by
  refine F.ok sc_is_row_within (fun vs H Q E h => ?_) (fun cdv A outer s H vs Q E hr h => ?_)
  · obtain ⟨x, most, r, rfl, _⟩ := h
    all_goals rfl
  · obtain ⟨x, most, r, rfl, hx, k⟩ := h
    refine ⟨_, (pss_one (ps_ret (pe_and (pe_callB (call_isiK1 (K := K)) (by rfl) T.b_isinstance (by decide +kernel) (pa_cons (pv 0) (pa_cons (pe_bltn (v := .ty "str") (by rfl) T.b_str (by decide +kernel) rfl) pa_nil))) (pe_and (pe_cmpR op_le (pe_callB call_len_str (by rfl) T.b_len (by decide +kernel) (pa_cons (pv 0) pa_nil)) (pv 1) (nomark _)) (pe_one (pe_callB (cr_allK (K := K) rfl) (by rfl) T.b_all (by decide +kernel) (pa_cons (pe_lc (own := [("sign", 2)]) (g := gName 2) (tt := tYes) rfl sc_is_row_within.nd (pi_str (pv 0)) (blkOk_by (own := [("sign", 2)]) (N := ["thing", "most", "sign"]) (sc := defScope s_is_row_within) (by decide +kernel)) (fun _ _ _ _ _ => (pg_name (i := 2) sc_is_row_within.nd rfl (Or.inl rfl))) (fun _ _ _ _ _ => pts_nil) (fun _ _ _ _ _ => (pe_cmpR op_in_sign (pv 2) (pe_globC T.g_SIGNS) rfl))) pa_nil))))))), ?_⟩
    obtain ⟨u, hu, ru⟩ := T.g_SIGNS
    rcases hx with ⟨l, rfl, hz, rfl⟩ | ⟨hx, rfl⟩
    · refine Evl.s_ret (Evl.ev_is (Evl.ev_andV (Evl.ev_isi (Evl.ev_var rfl) Evl.ev_c (.ty "str") (fun _ _ => .base (.str _)) (kit_ty (r := true) (by decide +kernel)))
        (fun _ => Evl.ev_andV (Evl.ev_op (Evl.ev_lenS (Evl.ev_var rfl) (by rw [len_S]; omega)) (Evl.ev_var rfl) Evl.rv_I0)
          (fun _ => Evl.ev_allN (bs := l.map fun c => decide (c ∈ sgns)) (el_is (Evl.el_mapS (fun c => .bl (decide (c ∈ sgns))) (Evl.ev_var rfl) (by rw [len_S]; omega) (fun _ => rfl)
            (fun c H1 e hc => Evl.ev_is (Evl.ev_op (Evl.ev_var rfl) Evl.ev_c Evl.rv_inS) (by rw [decide_eq_decide.mpr (iff_of_eq (sgns_mem c))]))) (by rw [List.map_map]; rfl))))) ?_) fun H1 e => k H1 e
      rw [len_S]
      simp [List.all_map, Function.comp]
    · obtain ⟨t, ht, hk⟩ := hx.ty (K := K)
      refine Evl.s_ret (v := .bl (false && false)) (Evl.ev_andV (a := false) (fun H1 e Q q => ?_) (fun h => by cases h)) fun H1 e => k H1 e
      obtain ⟨t, ht, hk⟩ := (NotStr.same hx e).ty (K := K)
      exact ⟨_, rfl, x, _, _, _, false, rfl, .ty "str", ht, kit_ty hk, q H1 (Evl.Ex.refl H1)⟩
theorem sc_is_long_row : FnScope ["thing"] ["thing"] (defScope s_is_long_row) := ⟨rfl, rfl, rfl, by decide +kernel, rfl, by decide +kernel, by decide +kernel⟩
theorem ok_is_long_row {f : Addr} {fd : FuncData} (F : Fun K "is_long_row" "is_long_row" s_is_long_row f fd) (T : Txt K mg w D_NUMBERS D_STEPS C_NoRow C_NoStep) (kn_is_row_within : KN P w K mg base CX0 1 ["thing", "most"] (sp_is_row_within) "is_row_within" []) : FnOk P w K mg base CX0 2 f fd ["thing"] (sp_is_long_row) := by
  obtain ⟨f_is_row_within, fd_is_row_within, ds_is_row_within, m_is_row_within, k_is_row_within, v_is_row_within, b_is_row_within, G_is_row_within⟩ := kn_is_row_within
  refine F.ok sc_is_long_row (fun vs H Q E h => ?_) (fun cdv A outer s H vs Q E hr h => ?_)
  · obtain ⟨x, r, rfl, _⟩ := h
    all_goals rfl
  · obtain ⟨x, r, rfl, hx, k⟩ := h
    refine ⟨_, (pss_one (ps_ret (pe_call G_is_row_within (hr.mono (by decide)) rfl m_is_row_within k_is_row_within b_is_row_within v_is_row_within pass0 (pa_cons (pv 0) (pa_cons (pe_globC T.g_MOST_LONG) pa_nil))))), ?_⟩
    exact ⟨_, rfl, x, 4000, r, rfl, hx, fun H1 s1 => k H1 s1⟩
theorem sc_look_at_long_row : FnScope ["thing"] ["thing"] (defScope s_look_at_long_row) := ⟨rfl, rfl, rfl, by decide +kernel, rfl, by decide +kernel, by decide +kernel⟩
theorem ok_look_at_long_row {f : Addr} {fd : FuncData} (F : Fun K "look_at_long_row" "look_at_long_row" s_look_at_long_row f fd) (T : Txt K mg w D_NUMBERS D_STEPS C_NoRow C_NoStep) (kn_is_long_row : KN P w K mg base CX0 2 ["thing"] (sp_is_long_row) "is_long_row" []) : FnOk P w K mg base (L2.CX P w) 3 f fd ["thing"] (sp_look_at_long_row C_NoRow) := by
  obtain ⟨f_is_long_row, fd_is_long_row, ds_is_long_row, m_is_long_row, k_is_long_row, v_is_long_row, b_is_long_row, G_is_long_row⟩ := kn_is_long_row
  refine F.okX sc_look_at_long_row (fun vs H Q E h => ?_) (fun cdv A outer s H vs Q E hr h => ?_)
  · obtain ⟨x, r, rfl, _⟩ := h
    all_goals rfl
  · obtain ⟨x, r, rfl, hx, k⟩ := h
    refine ⟨_, (pss_one (ps_if (pt_not (pt_val (pe_call G_is_long_row (hr.mono (by decide)) rfl m_is_long_row k_is_long_row b_is_long_row v_is_long_row pass0 (pa_cons (pv 0) pa_nil)))) (pss_one (ps_raise rfl (takes_of rfl rfl rfl rfl) (pmk_own PySem.F.excBase_ValueError T.x_NoRow.xC T.x_NoRow.gC T.x_NoRow.kC (raises_own T.x_NoRow.bC T.x_NoRow.tC) rfl))) pss_nil)), ?_⟩
    obtain ⟨k1, k2⟩ := k
    refine ⟨_, rfl, x, r, rfl, hx, fun H1 e => ⟨_, rfl, ?_⟩⟩
    cases r with
    | true => exact iteF (k1 rfl H1 e)
    | false => exact iteT (k2 rfl H1 e)
theorem sc_part_of : FnScope ["text", "at", "many", "found"] ["text", "at", "many"] (defScope s_part_of) := ⟨rfl, rfl, rfl, by decide +kernel, rfl, by decide +kernel, by decide +kernel⟩
theorem ok_part_of {f : Addr} {fd : FuncData} (F : Fun K "part_of" "part_of" s_part_of f fd) (T : Txt K mg w D_NUMBERS D_STEPS C_NoRow C_NoStep) : FnOk P w K mg base CX0 1 f fd ["text", "at", "many"] (sp_part_of) := by
  refine F.ok sc_part_of (fun vs H Q E h => ?_) (fun cdv A outer s H vs Q E hr h => ?_)
  · obtain ⟨t, a, m, rfl, _⟩ := h
    all_goals rfl
  · obtain ⟨t, a, m, rfl, hz, k⟩ := h
    refine ⟨_, (pss_cons (ps_set (i := 3) sc_part_of.nd rfl (Or.inl rfl) (pe_slice sl_str (pv 0) (po_some (pv 1)) (po_some (pe_op op_add (pv 1) (pv 2)))))
    (pss_cons (ps_if (pt_cmpR op_ne (pe_callB call_len_str (by rfl) T.b_len (by decide +kernel) (pa_cons (pv 3) pa_nil)) (pv 2) (nomark _)) (pss_one (ps_ret pe_non)) pss_nil)
    (pss_one (ps_ret (pv 3))))), ?_⟩
    have e1 : (a : Int) + (m : Int) = ((a + m : Nat) : Int) := by omega
    refine ⟨_, rfl, _, rfl, _, rfl, _, rfl, _, rfl, _, _, rfl, rfl, _, rfl, _, rfl, sz_of' (by rw [len_S]; omega), ?_⟩
    rw [e1, cut_mid (by omega), Nat.add_sub_cancel_left]
    obtain ⟨p, ep⟩ : ∃ p, p = (t.drop a).take m := ⟨_, rfl⟩
    unfold partR at k
    rw [← ep] at k ⊢
    have zp : p.length ≤ 40000 := by rw [ep, List.length_take, List.length_drop]; omega
    refine ⟨_, rfl, _, rfl, sz_of' (by rw [len_S]; omega), _, rfl, rfl, _, rfl, ?_⟩
    rw [len_S, show decide (V.int (p.length : Int) = V.int (m : Int)) = decide (p.length = m) from decide_eq_decide.mpr ⟨fun h => by injection h with h; omega, fun h => by rw [h]⟩]
    by_cases z : p.length = m
    · rw [if_pos z] at k
      rw [decide_eq_true z]
      exact iteF ⟨_, rfl, k H (Same.refl H)⟩
    · rw [if_neg z] at k
      rw [decide_eq_false z]
      exact iteT (k H (Same.refl H))
theorem sc_contrary_sign : FnScope ["sign"] ["sign"] (defScope s_contrary_sign) := ⟨rfl, rfl, rfl, by decide +kernel, rfl, by decide +kernel, by decide +kernel⟩
theorem ok_contrary_sign {f : Addr} {fd : FuncData} (F : Fun K "contrary_sign" "contrary_sign" s_contrary_sign f fd) (T : Txt K mg w D_NUMBERS D_STEPS C_NoRow C_NoStep) : FnOk P w K mg base CX0 1 f fd ["sign"] (sp_contrary_sign) := by
  refine F.ok sc_contrary_sign (fun vs H Q E h => ?_) (fun cdv A outer s H vs Q E hr h => ?_)
  · obtain ⟨c, rfl, _⟩ := h
    all_goals rfl
  · obtain ⟨c, rfl, hc, k⟩ := h
    refine ⟨_, (pss_one (ps_ret (pe_ifExp (pt_val (pe_m0 PySem.F.slot_str_isupper PySem.F.type_str_isupper mt_isupper (pv 0))) (pe_lower (pv 0)) (pe_upper (pv 0))))), ?_⟩
    refine Evl.s_ret (Evl.ev_is (Evl.ev_ifv (Evl.et_B (Evl.ev_m0 (Evl.ev_var rfl) trivial)) (fun _ => Evl.ev_m0 (Evl.ev_var rfl) one_le) (fun _ => Evl.ev_m0 (Evl.ev_var rfl) one_le)) ?_) fun H1 e => k H1 e
    rw [up1 c hc, low1 c hc, isup1 c hc]
    unfold con lo up
    by_cases h : c < 97
    · have h2 : ¬ 97 ≤ c := by omega
      rw [decide_eq_true h, if_pos rfl, if_neg h2, if_neg h2]
    · have h2 : 97 ≤ c := by omega
      rw [decide_eq_false h, if_neg (by decide), if_pos h2, if_pos h2]
theorem sc_turned : FnScope ["text", "sign"] ["text"] (defScope s_turned) := ⟨rfl, rfl, rfl, by decide +kernel, rfl, by decide +kernel, by decide +kernel⟩
theorem ok_turned {f : Addr} {fd : FuncData} (F : Fun K "turned" "turned" s_turned f fd) (T : Txt K mg w D_NUMBERS D_STEPS C_NoRow C_NoStep) (kn_contrary_sign : KN P w K mg base CX0 1 ["sign"] (sp_contrary_sign) "contrary_sign" []) : FnOk P w K mg base CX0 2 f fd ["text"] (sp_turned) := by
  obtain ⟨f_contrary_sign, fd_contrary_sign, ds_contrary_sign, m_contrary_sign, k_contrary_sign, v_contrary_sign, b_contrary_sign, G_contrary_sign⟩ := kn_contrary_sign
  refine F.ok sc_turned (fun vs H Q E h => ?_) (fun cdv A outer s H vs Q E hr h => ?_)
  · obtain ⟨l, rfl, _⟩ := h
    all_goals rfl
  · obtain ⟨l, rfl, hl, hz, k⟩ := h
    refine ⟨_, (pss_one (ps_ret (pe_m1 PySem.F.slot_str_join PySem.F.type_str_join (mt_joinK (K := K)) pe_str (pe_lc (own := [("sign", 1)]) (g := gName 1) (tt := tYes) rfl sc_turned.nd (pi_str (pe_revS (pv 0))) (blkOk_by (own := [("sign", 1)]) (N := ["text", "sign"]) (sc := defScope s_turned) (by decide +kernel)) (fun _ _ _ _ _ => (pg_name (i := 1) sc_turned.nd rfl (Or.inl rfl))) (fun _ _ _ _ _ => pts_nil) (fun _ _ _ _ _ => (pe_call G_contrary_sign (hr.mono (by decide)) rfl m_contrary_sign k_contrary_sign b_contrary_sign v_contrary_sign pass0 (pa_cons (pv 1) pa_nil))))))), ?_⟩
    refine Evl.s_ret (Evl.ev_is (ev_joinMap con Evl.ev_c (by decide) (Evl.ev_revS (Evl.ev_var rfl) (by rw [len_S]; omega)) (by show (S l.reverse).length ≤ _; rw [len_S, List.length_reverse]; omega) (fun _ => rfl) (fun c H1 e hc => ?_)) rfl) fun H1 e => k H1 e
    have hc : c ∈ sgns := hl c (List.mem_reverse.mp hc)
    exact Evl.ev_call (Evl.ea_cons (Evl.ev_var rfl) Evl.ea_nil) fun H1 e Q q E => ⟨c, rfl, hc, q⟩
theorem sc_less_of : FnScope ["text", "at", "many", "part"] ["text", "at", "many"] (defScope s_less_of) := ⟨rfl, rfl, rfl, by decide +kernel, rfl, by decide +kernel, by decide +kernel⟩
theorem ok_less_of {f : Addr} {fd : FuncData} (F : Fun K "less_of" "less_of" s_less_of f fd) (T : Txt K mg w D_NUMBERS D_STEPS C_NoRow C_NoStep) (kn_part_of : KN P w K mg base CX0 1 ["text", "at", "many"] (sp_part_of) "part_of" []) (kn_turned : KN P w K mg base CX0 2 ["text"] (sp_turned) "turned" []) : FnOk P w K mg base CX0 3 f fd ["text", "at", "many"] (sp_less_of) := by
  obtain ⟨f_part_of, fd_part_of, ds_part_of, m_part_of, k_part_of, v_part_of, b_part_of, G_part_of⟩ := kn_part_of
  obtain ⟨f_turned, fd_turned, ds_turned, m_turned, k_turned, v_turned, b_turned, G_turned⟩ := kn_turned
  refine F.ok sc_less_of (fun vs H Q E h => ?_) (fun cdv A outer s H vs Q E hr h => ?_)
  · obtain ⟨t, a, m, rfl, _⟩ := h
    all_goals rfl
  · obtain ⟨t, a, m, rfl, hl, hz, hm, hm2, k⟩ := h
    refine ⟨_, (pss_cons (ps_set (i := 3) sc_less_of.nd rfl (Or.inl rfl) (pe_call G_part_of (hr.mono (by decide)) rfl m_part_of k_part_of b_part_of v_part_of pass0 (pa_cons (pv 0) (pa_cons (pv 1) (pa_cons (pv 2) pa_nil)))))
    (pss_cons (ps_if (PW.pt (pw_or (pt_cmpR op_isN (pv 3) pe_non (nomark _)) (pw_or1 (pt_not (pt_val (pe_bm PySem.F.plainAttrs_str PySem.F.slot_str_startswith PySem.F.type_str_startswith mt_startswith3 (pv 0) (pa_cons (pe_op op_add_str (pe_call G_turned (hr.mono (by decide)) rfl m_turned k_turned b_turned v_turned pass0 (pa_cons (pv 3) pa_nil)) (pv 3)) (pa_cons (pe_op op_add (pv 1) (pv 2)) pa_nil)))))))) (pss_one (ps_ret pe_non)) pss_nil)
    (pss_one (ps_ret (pe_op op_add_str (pe_slice sl_str (pv 0) po_none (po_some (pe_op op_add (pv 1) (pv 2)))) (pe_slice sl_str (pv 0) (po_some (pe_op op_add (pv 1) (pe_op op_mul pe_int (pv 2)))) po_none)))))), ?_⟩
    have e1 : (a : Int) + (m : Int) = ((a + m : Nat) : Int) := by omega
    have e3 : (a : Int) + 3 * (m : Int) = ((a + 3 * m : Nat) : Int) := by omega
    have zt : (S t).length ≤ sizeLine := sz_of' (by rw [len_S]; omega)
    refine ⟨_, rfl, _, rfl, _, rfl, t, a, m, rfl, by omega, fun H1 s1 => ?_⟩
    unfold lessR at k
    cases hp : partR t a m with
    | none =>
      rw [hp] at k
      exact ⟨_, rfl, rfl, _, rfl, iteT (k H1 s1)⟩
    | some p =>
      rw [hp] at k
      obtain ⟨zp, _⟩ := partR_some hp
      have rp := row_part hl hp
      have room := part_room hp hm
      have el : (RowM.turn p ++ p).length = 2 * m := by rw [List.length_append, RowM.turn_length]; omega
      refine ⟨_, rfl, rfl, _, rfl, iteF ?_⟩
      refine ⟨_, rfl, rfl, _, rfl, p, rfl, rp, by omega, fun H2 s2 => ⟨_, rfl, _, _, rfl, rfl, sz_of' (by rw [len_S, len_S, RowM.turn_length]; omega), _, rfl, _, rfl, _, _, rfl, rfl, _, _, _, rfl, rfl, _, rfl, ?_⟩⟩
      rw [add_S, e1, starts3_S room, el]
      have s12 := Same.trans s1 s2
      have k : ∀ H' : Hp, Same H H' → Q (optS (if (t.drop (a + m)).take (2 * m) = RowM.turn p ++ p then some (t.take (a + m) ++ t.drop (a + 3 * m)) else none)) H' := k
      by_cases z : (t.drop (a + m)).take (2 * m) = RowM.turn p ++ p
      · rw [if_pos z] at k
        rw [decide_eq_true z]
        refine iteF ⟨_, rfl, _, rfl, _, rfl, _, _, rfl, rfl, _, rfl, _, rfl, zt, _, rfl, _, rfl, _, rfl, _, _, rfl, rfl, .inl ⟨by decide, by decide⟩, _, _, rfl, rfl, _, rfl, _, rfl, zt, _, _, rfl, rfl, sz_of' (by rw [e1, e3, cut_toG, cut_from, len_S, len_S, List.length_take, List.length_drop]; omega), ?_⟩
        rw [e1, e3, cut_toG, cut_from, add_S]
        exact k H2 s12
      · rw [if_neg z] at k
        rw [decide_eq_false z]
        exact iteT (k H2 s12)
theorem sc_more_of : FnScope ["text", "at", "many", "part"] ["text", "at", "many"] (defScope s_more_of) := ⟨rfl, rfl, rfl, by decide +kernel, rfl, by decide +kernel, by decide +kernel⟩
theorem ok_more_of {f : Addr} {fd : FuncData} (F : Fun K "more_of" "more_of" s_more_of f fd) (T : Txt K mg w D_NUMBERS D_STEPS C_NoRow C_NoStep) (kn_part_of : KN P w K mg base CX0 1 ["text", "at", "many"] (sp_part_of) "part_of" []) (kn_turned : KN P w K mg base CX0 2 ["text"] (sp_turned) "turned" []) : FnOk P w K mg base CX0 3 f fd ["text", "at", "many"] (sp_more_of) := by
  obtain ⟨f_part_of, fd_part_of, ds_part_of, m_part_of, k_part_of, v_part_of, b_part_of, G_part_of⟩ := kn_part_of
  obtain ⟨f_turned, fd_turned, ds_turned, m_turned, k_turned, v_turned, b_turned, G_turned⟩ := kn_turned
  refine F.ok sc_more_of (fun vs H Q E h => ?_) (fun cdv A outer s H vs Q E hr h => ?_)
  · obtain ⟨t, a, m, rfl, _⟩ := h
    all_goals rfl
  · obtain ⟨t, a, m, rfl, hl, hz, hm, hm2, k⟩ := h
    refine ⟨_, (pss_cons (ps_set (i := 3) sc_more_of.nd rfl (Or.inl rfl) (pe_call G_part_of (hr.mono (by decide)) rfl m_part_of k_part_of b_part_of v_part_of pass0 (pa_cons (pv 0) (pa_cons (pv 1) (pa_cons (pv 2) pa_nil)))))
    (pss_cons (ps_if (pt_cmpR op_isN (pv 3) pe_non (nomark _)) (pss_one (ps_ret pe_non)) pss_nil)
    (pss_one (ps_ret (pe_op op_add_str (pe_op op_add_str (pe_op op_add_str (pe_slice sl_str (pv 0) po_none (po_some (pe_op op_add (pv 1) (pv 2)))) (pe_call G_turned (hr.mono (by decide)) rfl m_turned k_turned b_turned v_turned pass0 (pa_cons (pv 3) pa_nil))) (pv 3)) (pe_slice sl_str (pv 0) (po_some (pe_op op_add (pv 1) (pv 2))) po_none)))))), ?_⟩
    have e1 : (a : Int) + (m : Int) = ((a + m : Nat) : Int) := by omega
    have e3 : (a : Int) + 3 * (m : Int) = ((a + 3 * m : Nat) : Int) := by omega
    have zt : (S t).length ≤ sizeLine := sz_of' (by rw [len_S]; omega)
    refine ⟨_, rfl, _, rfl, _, rfl, t, a, m, rfl, by omega, fun H1 s1 => ?_⟩
    unfold moreR at k
    cases hp : partR t a m with
    | none =>
      rw [hp] at k
      exact ⟨_, rfl, rfl, _, rfl, iteT (k H1 s1)⟩
    | some p =>
      rw [hp] at k
      obtain ⟨zp, _⟩ := partR_some hp
      have rp := row_part hl hp
      have room := part_room hp hm
      refine ⟨_, rfl, rfl, _, rfl, iteF ?_⟩
      refine ⟨_, rfl, _, rfl, _, rfl, _, _, rfl, rfl, _, rfl, _, rfl, zt, _, rfl, p, rfl, rp, by omega, fun H2 s2 => ⟨_, _, rfl, rfl, sz_of' (by rw [e1, cut_toG, len_S, len_S, RowM.turn_length, List.length_take]; omega), _, rfl, _, _, rfl, rfl, sz_of' (by rw [e1, cut_toG, add_S, len_S, len_S, List.length_append, RowM.turn_length, List.length_take]; omega), _, rfl, _, rfl, _, rfl, _, _, rfl, rfl, _, rfl, _, rfl, zt, _, _, rfl, rfl, sz_of' (by rw [e1, cut_toG, cut_from, add_S, add_S, len_S, len_S, List.length_append, List.length_append, RowM.turn_length, List.length_take, List.length_drop]; omega), ?_⟩⟩
      rw [e1, cut_toG, cut_from, add_S, add_S, add_S]
      exact k H2 (Same.trans s1 s2)
theorem sc_is_whole : FnScope ["thing"] ["thing"] (defScope s_is_whole) := ⟨rfl, rfl, rfl, by decide +kernel, rfl, by decide +kernel, by decide +kernel⟩
theorem ok_is_whole {f : Addr} {fd : FuncData} (F : Fun K "is_whole" "is_whole" s_is_whole f fd) (T : Txt K mg w D_NUMBERS D_STEPS C_NoRow C_NoStep) : FnOk P w K mg base CX0 1 f fd ["thing"] (sp_is_whole) := by
  refine F.ok sc_is_whole (fun vs H Q E h => ?_) (fun cdv A outer s H vs Q E hr h => ?_)
  · obtain ⟨x, r, rfl, _⟩ := h
    all_goals rfl
  · obtain ⟨x, r, rfl, hx, k⟩ := h
    refine ⟨_, (pss_one (ps_ret (pe_and (pe_callB (call_isiK1 (K := K)) (by rfl) T.b_isinstance (by decide +kernel) (pa_cons (pv 0) (pa_cons (pe_bltn (v := .ty "int") (by rfl) T.b_int (by decide +kernel) rfl) pa_nil))) (pe_one (pe_not (pe_callB (call_isiK1 (K := K)) (by rfl) T.b_isinstance (by decide +kernel) (pa_cons (pv 0) (pa_cons (pe_bltn (v := .ty "bool") (by rfl) T.b_bool (by decide +kernel) rfl) pa_nil)))))))), ?_⟩
    rcases hx with ⟨i, rfl, rfl⟩ | ⟨hx, rfl⟩
    · refine Evl.s_ret (Evl.ev_andV (a := true) (b := true) (Evl.ev_isi (Evl.ev_var rfl) Evl.ev_c (.ty "int") (fun _ _ => .base (.int _)) (kit_ty (r := true) (by decide +kernel)))
        (fun _ => Evl.ev_notV (a := false) (Evl.ev_isi (Evl.ev_var rfl) Evl.ev_c (.ty "bool") (fun _ _ => .base (.int _)) (kit_ty (r := false) (by decide +kernel))))) fun H1 e => k H1 e
    · obtain ⟨t, ht, hk | ⟨hk, hk2⟩⟩ := hx.ty (K := K)
      · exact ⟨_, rfl, x, _, _, _, false, rfl, .ty "int", ht, kit_ty hk, false, rfl, k H (Same.refl H)⟩
      · exact ⟨_, rfl, x, _, _, _, true, rfl, .ty "int", ht, kit_ty hk, true, rfl, ⟨_, rfl, x, _, _, _, true, rfl, .ty "bool", ht, kit_ty hk2, true, rfl, k H (Same.refl H)⟩⟩
theorem sc_is_formed : FnScope ["step", "numbers", "number"] ["step"] (defScope s_is_formed) := ⟨rfl, rfl, rfl, by decide +kernel, rfl, by decide +kernel, by decide +kernel⟩
theorem ok_is_formed {f : Addr} {fd : FuncData} (F : Fun K "is_formed" "is_formed" s_is_formed f fd) (T : Txt K mg w D_NUMBERS D_STEPS C_NoRow C_NoStep) (kn_is_whole : KN P w K mg base CX0 1 ["thing"] (sp_is_whole) "is_whole" []) : FnOk P w K mg base CX0 2 f fd ["step"] (sp_is_formed K) := by
  obtain ⟨f_is_whole, fd_is_whole, ds_is_whole, m_is_whole, k_is_whole, v_is_whole, b_is_whole, G_is_whole⟩ := kn_is_whole
  refine F.ok sc_is_formed (fun vs H Q E h => ?_) (fun cdv A outer s H vs Q E hr h => ?_)
  · obtain ⟨x, o, rfl, _⟩ := h
    all_goals rfl
  · obtain ⟨x, o, rfl, hx, k⟩ := h
    refine ⟨_, (pss_cons (ps_if (PW.pt (pw_or (pt_not (pt_val (pe_callB (call_isiK1 (K := K)) (by rfl) T.b_isinstance (by decide +kernel) (pa_cons (pv 0) (pa_cons (pe_bltn (v := .ty "tuple") (by rfl) T.b_tuple (by decide +kernel) rfl) pa_nil))))) (pw_or (pt_cmpR (op_eqDK (K := K) hr.units) (pv 0) (pe_tup pa_nil) (nomark _)) (pw_or (pt_not (pt_val (pe_callB (call_isiK1 (K := K)) (by rfl) T.b_isinstance (by decide +kernel) (pa_cons (pe_ix (ix_tupK (K := K)) (pv 0) pe_int (fun _ _ => rfl)) (pa_cons (pe_bltn (v := .ty "str") (by rfl) T.b_str (by decide +kernel) rfl) pa_nil))))) (pw_or1 (pt_cmpR (op_kNotIn (K := K) (w := w) T.q_NUMBERS) (pe_ix (ix_tupK (K := K)) (pv 0) pe_int (fun _ _ => rfl)) (pe_glob (v := .ref D_NUMBERS) rfl T.q_NUMBERS.mg rfl) (by rfl))))))) (pss_one (ps_ret pe_bl)) pss_nil)
    (pss_cons (ps_set (i := 1) sc_is_formed.nd rfl (Or.inl rfl) (pe_slice (sl_tupK (K := K)) (pv 0) (po_some pe_int) po_none))
    (pss_cons (ps_if (PW.pt (pw_or (pt_cmpR op_ne (pe_callB (call_lenK (K := K)) (by rfl) T.b_len (by decide +kernel) (pa_cons (pv 1) pa_nil)) (pe_ix (ix_k (K := K) (w := w) T.q_NUMBERS) (pe_glob (v := .ref D_NUMBERS) rfl T.q_NUMBERS.mg rfl) (pe_ix (ix_tupK (K := K)) (pv 0) pe_int (fun _ _ => rfl)) (fun _ _ => rfl)) (nomark _)) (pw_or1 (pt_not (pt_val (pe_callB (cr_allK (K := K) rfl) (by rfl) T.b_all (by decide +kernel) (pa_cons (pe_lc (own := [("number", 2)]) (g := gName 2) (tt := tYes) rfl sc_is_formed.nd (pi_tup (pv 1)) (blkOk_by (own := [("number", 2)]) (N := ["step", "numbers", "number"]) (sc := defScope s_is_formed) (by decide +kernel)) (fun _ _ _ _ _ => (pg_name (i := 2) sc_is_formed.nd rfl (Or.inl rfl))) (fun _ _ _ _ _ => pts_nil) (fun _ _ _ _ _ => (pe_call G_is_whole (hr.mono (by decide)) rfl m_is_whole k_is_whole b_is_whole v_is_whole pass0 (pa_cons (pv 2) pa_nil)))) pa_nil))))))) (pss_one (ps_ret pe_bl)) pss_nil)
    (pss_one (ps_ret (pe_and (pe_cmpR op_ge (pe_ix (ix_tupK (K := K)) (pv 1) pe_int (fun _ _ => rfl)) pe_int (nomark _)) (pe_one (pe_cmpR op_ge (pe_callB (cr_minT (K := K) rfl) (by rfl) T.b_min (by decide +kernel) (pa_cons (pe_slice (sl_tupK (K := K)) (pv 1) (po_some pe_int) po_none) pa_nil)) pe_int (nomark _))))))))), ?_⟩
    rcases hx with ⟨p, vs, rfl, hp, hc, hz, ho⟩ | ⟨hn, rfl⟩
    rotate_left
    · obtain ⟨t, ht, hk⟩ := hn.ty (K := K)
      exact ⟨_, rfl, x, _, _, _, false, rfl, .ty "tuple", ht, kit_ty hk, false, rfl, iteT (k H (Same.refl H))⟩
    subst ho
    refine ⟨_, rfl, _, _, _, _, true, rfl, .ty "tuple", .base (.tup hp), kit_ty (r := true) (by decide +kernel), true, rfl, iteF ?_⟩
    refine ⟨_, rfl, (by show 0 ≤ sizeLine; decide), fun e he => ?_⟩
    have s1 := Same.new (o := .tup []) he
    have ge := upd_same (H := H) (a := e) (o := HO.tup [])
    have hp1 := s1 _ _ hp
    generalize upd H e (.tup []) = H1 at s1 ge hp1 ⊢
    obtain ⟨ds, d1, d2, d3⟩ := cells_dp (K := K) (H := H1) (fun v hv => (hc v hv).same s1)
    refine ⟨.tuple ds, .tuple [], .tup (SqT.of hp1) d1, .tup (SqT.of ge) .nil, shaped_cells d2 d3, by decide, ?_⟩
    cases vs with
    | nil =>
      cases d1
      rw [show PyData.eqv (.tuple []) (.tuple []) = true by simp [PyData.eqv, PyData.eqvAll]]
      exact ⟨_, rfl, iteT (k H1 s1)⟩
    | cons v r =>
      cases d1 with
      | cons f1 f2 =>
      rename_i d dr
      rw [show PyData.eqv (.tuple (d :: dr)) (.tuple []) = false by simp [PyData.eqv, PyData.eqvAll]]
      refine ⟨_, rfl, iteF ?_⟩
      have cv := (hc v List.mem_cons_self).same s1
      obtain ⟨t, ht, hk⟩ := cv.ty (K := K)
      refine ⟨_, rfl, p, _, _, _, rfl, rfl, SqT.of hp1, atI0, v, _, _, _, isS v, rfl, .ty "str", ht, kit_ty hk, isS v, rfl, ?_⟩
      cases hs : isS v with
      | false =>
        rw [form_head hs] at k
        exact iteT (k H1 s1)
      | true =>
      obtain ⟨w, hw, rfl⟩ : ∃ w ∈ wordsS, v = .str w := by
        rcases cv with ⟨i, rfl⟩ | ⟨b, rfl⟩ | rfl | ⟨w, hw, rfl⟩ | ⟨q, rfl, _⟩
        · cases hs
        · cases hs
        · cases hs
        · exact ⟨w, hw, rfl⟩
        · cases hs
      have hN : (∃ (c : Nat) (t : Tok), PySem.W.nsIn K D_NUMBERS w = some (some (.int (c : Int) t)) ∧ ((w = Str.ofString "less" ∨ w = Str.ofString "more") ∧ c = 2 ∨ w = Str.ofString "past" ∧ c = 3)) ∨ (PySem.W.nsIn K D_NUMBERS w = some none ∧ w ≠ Str.ofString "less" ∧ w ≠ Str.ofString "more" ∧ w ≠ Str.ofString "past") := by
        obtain ⟨t1, n1⟩ := T.q_NUMBERS_less
        obtain ⟨t2, n2⟩ := T.q_NUMBERS_more
        obtain ⟨t3, n3⟩ := T.q_NUMBERS_past
        unfold wordsS at hw
        simp only [List.mem_cons, List.not_mem_nil, or_false] at hw
        rcases hw with rfl | rfl | rfl | rfl | rfl | rfl | rfl | rfl
        · exact .inl ⟨2, t1, n1, .inl ⟨.inl rfl, rfl⟩⟩
        · exact .inl ⟨2, t2, n2, .inl ⟨.inr rfl, rfl⟩⟩
        · exact .inl ⟨3, t3, n3, .inr ⟨rfl, rfl⟩⟩
        · exact .inr ⟨T.z0, by decide, by decide, by decide⟩
        · exact .inr ⟨T.z1, by decide, by decide, by decide⟩
        · exact .inr ⟨T.z2, by decide, by decide, by decide⟩
        · exact .inr ⟨T.z3, by decide, by decide, by decide⟩
        · exact .inr ⟨T.z4, by decide, by decide, by decide⟩
      rcases hN with ⟨c, t, hn, hwc⟩ | ⟨hn, hne⟩
      rotate_left
      · rw [form_word hne] at k
        exact iteF ⟨_, rfl, p, _, _, _, rfl, rfl, SqT.of hp1, atI0, rfl, _, _, _, rfl, rfl, hn, _, rfl, iteT (k H1 s1)⟩
      refine iteF ⟨_, rfl, p, _, _, _, rfl, rfl, SqT.of hp1, atI0, rfl, _, _, _, rfl, rfl, hn, _, rfl, iteF ?_⟩
      refine ⟨_, rfl, _, rfl, p, _, rfl, SqT.of hp1, not_whole1 _ _ _, fun n hn2 => ?_⟩
      rw [cut_tail]
      have s2 := Same.trans s1 (Same.new (o := .tup r) hn2)
      have gn := upd_same (H := H1) (a := n) (o := HO.tup r)
      have hp2 := Same.new (o := .tup r) hn2 _ _ hp1
      generalize upd H1 n (.tup r) = H2 at s2 gn hp2 ⊢
      refine ⟨_, rfl, n, _, rfl, .inr (SqT.of gn), _, rfl, p, _, _, _, rfl, rfl, SqT.of hp2, atI0, _, _, .int c, rfl, rfl, hn, ⟨_, rfl⟩, rfl, _, rfl, ?_⟩
      by_cases hl : r.length = c
      rotate_left
      · rw [decide_eq_false (fun z => hl (by injection z with z; omega))]
        have hno : formR (.str w :: r) = none := by
          rcases hwc with ⟨hw2, rfl⟩ | ⟨rfl, rfl⟩
          · exact form_two hl (by rcases hw2 with rfl | rfl <;> decide)
          · exact form_three hl
        rw [hno] at k
        exact iteT (k H2 s2)
      refine iteNS (by rw [hl]) ?_
      refine ⟨_, rfl, n, rfl, ⟨_, SqT.of gn⟩, fun D hD => ?_⟩
      have cr : ∀ v ∈ r, Cell H2 v := fun v hv => (hc v (List.mem_cons_of_mem _ hv)).same s2
      refine lc_tup (K := K) (a := n) (xs := r) (fun i H' => H' D = some (.lst (((r.take i).map isI).map V.bl)) ∧ Same H2 H' ∧ i ≤ r.length) ⟨upd_same, Same.new hD, Nat.zero_le _⟩ (fun _ H' _ ⟨_, s, _⟩ => SqT.of (s _ _ gn)) ?_ ?_
      · rintro i x H3 hx ⟨gD, s3, hi⟩
        have il := (List.getElem?_eq_some_iff.mp hx).1
        refine ⟨rfl, _, rfl, x, isI x, rfl, ((cr x (List.mem_of_getElem? hx)).same s3).whole, fun H4 s4 => ⟨_, s4 _ _ gD, ?_, ?_, fun b o hb => ?_, il⟩⟩
        · rw [List.length_map, List.length_map, List.length_take]
          have : r.length ≤ 8 := by
            rw [List.length_cons] at hz
            omega
          exact Nat.lt_of_le_of_lt (by omega : _ ≤ 8) (by decide)
        · rw [upd_same, take_oneS hx, List.map_append, List.map_append]
          rfl
        · rw [upd_ne (ne_of_none hb hD)]
          exact s4 _ _ (s3 _ _ hb)
      rintro H3 ⟨gD, s3, _⟩
      rw [List.take_length] at gD
      have gn3 := s3 _ _ gn
      have s13 := Same.trans s2 s3
      refine ⟨D, r.map isI, rfl, SqL.of gD, r.all isI, (by rw [List.all_map]; rfl), ?_⟩
      cases hall : r.all isI with
      | false =>
        rw [form_int hall] at k
        exact iteT (k H3 s13)
      | true =>
      refine iteF ?_
      obtain ⟨ns, rfl⟩ := ints_of hall
      rw [List.length_map] at hl
      rcases hwc with ⟨hw2, rfl⟩ | ⟨rfl, rfl⟩
      · obtain ⟨a, m, rfl⟩ := len2 hl
        have k : ∀ H' : Hp, Same H H' → Q (.bl (formR [.str w, .int a, .int m]).isSome) H' := k
        rw [form_2 hw2] at k
        refine ⟨_, rfl, n, _, _, _, rfl, rfl, SqT.of gn3, atI0, _, _, rfl, rfl, _, rfl, ?_⟩
        cases ha : decide ((0 : Int) ≤ a) with
        | false =>
          rw [ha] at k
          exact iteF (k H3 s13)
        | true =>
          rw [ha] at k
          refine iteT ⟨_, rfl, _, rfl, n, _, rfl, SqT.of gn3, not_whole1 _ _ _, fun u hu => ⟨u, [m], rfl, SqT.of upd_same, by show 0 < 1; decide, fun mm h1 h2 => ⟨_, _, rfl, rfl, ?_⟩⟩⟩
          obtain rfl : mm = m := by simpa using h1
          exact k _ (Same.trans s13 (Same.new hu))
      · obtain ⟨a, m, j, rfl⟩ := len3 hl
        have k : ∀ H' : Hp, Same H H' → Q (.bl (formR [.str (Str.ofString "past"), .int a, .int m, .int j]).isSome) H' := k
        rw [form_3] at k
        refine ⟨_, rfl, n, _, _, _, rfl, rfl, SqT.of gn3, atI0, _, _, rfl, rfl, _, rfl, ?_⟩
        cases ha : decide ((0 : Int) ≤ a) with
        | false =>
          rw [ha] at k
          exact iteF (k H3 s13)
        | true =>
          rw [ha] at k
          refine iteT ⟨_, rfl, _, rfl, n, _, rfl, SqT.of gn3, not_whole1 _ _ _, fun u hu => ⟨u, [m, j], rfl, SqT.of upd_same, by show 0 < 2; decide, fun mm h1 h2 => ⟨_, _, rfl, rfl, ?_⟩⟩⟩
          show Q (V.bl (decide ((1 : Int) ≤ mm))) _
          rw [dec_and2 h1 h2]
          exact k _ (Same.trans s13 (Same.new hu))
theorem sc_past_of : FnScope ["text", "at", "many", "more", "one", "other", "first", "second"] ["text", "at", "many", "more"] (defScope s_past_of) := ⟨rfl, rfl, rfl, by decide +kernel, rfl, by decide +kernel, by decide +kernel⟩
theorem ok_past_of {f : Addr} {fd : FuncData} (F : Fun K "past_of" "past_of" s_past_of f fd) (T : Txt K mg w D_NUMBERS D_STEPS C_NoRow C_NoStep) (kn_part_of : KN P w K mg base CX0 1 ["text", "at", "many"] (sp_part_of) "part_of" []) (kn_turned : KN P w K mg base CX0 2 ["text"] (sp_turned) "turned" []) : FnOk P w K mg base CX0 3 f fd ["text", "at", "many", "more"] (sp_past_of) := by
  obtain ⟨f_part_of, fd_part_of, ds_part_of, m_part_of, k_part_of, v_part_of, b_part_of, G_part_of⟩ := kn_part_of
  obtain ⟨f_turned, fd_turned, ds_turned, m_turned, k_turned, v_turned, b_turned, G_turned⟩ := kn_turned
  refine F.ok sc_past_of (fun vs H Q E h => ?_) (fun cdv A outer s H vs Q E hr h => ?_)
  · obtain ⟨t, a, m, j, rfl, _⟩ := h
    all_goals rfl
  · obtain ⟨t, a, m, j, rfl, hl, hz, hm, hm2, hj, hj2, k⟩ := h
    refine ⟨_, (pss_cons (ps_set (i := 4) sc_past_of.nd rfl (Or.inl rfl) (pe_call G_part_of (hr.mono (by decide)) rfl m_part_of k_part_of b_part_of v_part_of pass0 (pa_cons (pv 0) (pa_cons (pv 1) (pa_cons (pv 2) pa_nil)))))
    (pss_cons (ps_set (i := 5) sc_past_of.nd rfl (Or.inl rfl) (pe_call G_part_of (hr.mono (by decide)) rfl m_part_of k_part_of b_part_of v_part_of pass0 (pa_cons (pv 0) (pa_cons (pe_op op_add (pv 1) (pe_op op_mul pe_int (pv 2))) (pa_cons (pv 3) pa_nil)))))
    (pss_cons (ps_if (PW.pt (pw_or (pt_cmpR op_isN (pv 4) pe_non (nomark _)) (pw_or1 (pt_cmpR op_isN (pv 5) pe_non (nomark _))))) (pss_one (ps_ret pe_non)) pss_nil)
    (pss_cons (ps_par (i := 6) (j := 7) (by rfl) sc_past_of.nd rfl rfl (by decide) rfl rfl (pa_cons (pe_op op_add_str (pv 4) (pe_call G_turned (hr.mono (by decide)) rfl m_turned k_turned b_turned v_turned pass0 (pa_cons (pv 4) pa_nil))) (pa_cons (pe_op op_add_str (pv 5) (pe_call G_turned (hr.mono (by decide)) rfl m_turned k_turned b_turned v_turned pass0 (pa_cons (pv 5) pa_nil))) pa_nil)) (by rfl))
    (pss_cons (ps_if (pt_not (pt_val (pe_bm PySem.F.plainAttrs_str PySem.F.slot_str_startswith PySem.F.type_str_startswith mt_startswith3 (pv 0) (pa_cons (pe_op op_add_str (pv 6) (pv 7)) (pa_cons (pv 1) pa_nil))))) (pss_one (ps_ret pe_non)) pss_nil)
    (pss_one (ps_ret (pe_op op_add_str (pe_op op_add_str (pe_op op_add_str (pe_slice sl_str (pv 0) po_none (po_some (pv 1))) (pv 7)) (pv 6)) (pe_slice sl_str (pv 0) (po_some (pe_op op_add (pe_op op_add (pv 1) (pe_callB call_len_str (by rfl) T.b_len (by decide +kernel) (pa_cons (pv 6) pa_nil))) (pe_callB call_len_str (by rfl) T.b_len (by decide +kernel) (pa_cons (pv 7) pa_nil)))) po_none))))))))), ?_⟩
    have e2 : (a : Int) + 2 * (m : Int) = ((a + 2 * m : Nat) : Int) := by omega
    have zt : (S t).length ≤ sizeLine := sz_of' (by rw [len_S]; omega)
    refine ⟨_, rfl, _, rfl, _, rfl, t, a, m, rfl, by omega, fun H1 s1 => ?_⟩
    refine ⟨_, rfl, _, rfl, _, rfl, _, _, rfl, rfl, .inl ⟨by decide, by decide⟩, _, _, rfl, rfl, _, rfl, t, a + 2 * m, j, (by show [V.str (S t), V.int ((a : Int) + 2 * (m : Int)), V.int (j : Int)] = _; rw [e2]), by omega, fun H2 s2 => ?_⟩
    have s12 := Same.trans s1 s2
    unfold pastR at k
    cases hp : partR t a m with
    | none =>
      rw [hp] at k
      exact ⟨_, rfl, rfl, _, rfl, iteT (k H2 s12)⟩
    | some p =>
      refine ⟨_, rfl, rfl, _, rfl, iteF ?_⟩
      cases hq : partR t (a + 2 * m) j with
      | none =>
        rw [hp] at k
        have k : ∀ H' : Hp, Same H H' → Q (optS ((partR t (a + 2 * m) j).bind _)) H' := k
        rw [hq] at k
        exact ⟨_, rfl, rfl, _, rfl, iteT (k H2 s12)⟩
      | some q =>
        refine ⟨_, rfl, rfl, _, rfl, iteF ?_⟩
        rw [hp] at k
        have k : ∀ H' : Hp, Same H H' → Q (optS ((partR t (a + 2 * m) j).bind _)) H' := k
        rw [hq] at k
        obtain ⟨zp, _⟩ := partR_some hp
        obtain ⟨zq, _⟩ := partR_some hq
        have rp := row_part hl hp
        have rq := row_part hl hq
        have room := part_room hp hm
        have room2 := part_room hq hj
        have lp : (p ++ RowM.turn p).length = 2 * m := by rw [List.length_append, RowM.turn_length]; omega
        have lq : (q ++ RowM.turn q).length = 2 * j := by rw [List.length_append, RowM.turn_length]; omega
        have el : (p ++ RowM.turn p ++ (q ++ RowM.turn q)).length = 2 * m + 2 * j := by rw [List.length_append, lp, lq]
        refine ⟨_, rfl, _, rfl, p, rfl, rp, by omega, fun H3 s3 => ⟨_, _, rfl, rfl, sz_of' (by rw [len_S, len_S, RowM.turn_length]; omega), _, rfl, _, rfl, q, rfl, rq, by omega, fun H4 s4 => ⟨_, _, rfl, rfl, sz_of' (by rw [len_S, len_S, RowM.turn_length]; omega), ?_⟩⟩⟩
        rw [add_S, add_S]
        have s14 := Same.trans s12 (Same.trans s3 s4)
        refine ⟨_, _, rfl, _, rfl, rfl, _, rfl, _, rfl, _, _, rfl, rfl, sz_of' (by rw [len_S, len_S, lp, lq]; omega), _, rfl, _, _, _, rfl, rfl, _, rfl, ?_⟩
        rw [add_S, starts3_S (by omega), el]
        have k : ∀ H' : Hp, Same H H' → Q (optS (if (t.drop a).take (2 * m + 2 * j) = p ++ RowM.turn p ++ (q ++ RowM.turn q) then some (t.take a ++ (q ++ RowM.turn q) ++ (p ++ RowM.turn p) ++ t.drop (a + 2 * m + 2 * j)) else none)) H' := k
        by_cases z : (t.drop a).take (2 * m + 2 * j) = p ++ RowM.turn p ++ (q ++ RowM.turn q)
        · rw [if_pos z] at k
          rw [decide_eq_true z]
          have zfp : (S (p ++ RowM.turn p)).length ≤ sizeLine := sz_of' (by rw [len_S, lp]; omega)
          have zfq : (S (q ++ RowM.turn q)).length ≤ sizeLine := sz_of' (by rw [len_S, lq]; omega)
          have e5 : (a : Int) + ((S (p ++ RowM.turn p)).length : Int) + ((S (q ++ RowM.turn q)).length : Int) = ((a + 2 * m + 2 * j : Nat) : Int) := by rw [len_S, len_S, lp, lq]; omega
          refine iteF ⟨_, rfl, _, rfl, _, rfl, _, rfl, zt, _, rfl, _, _, rfl, rfl, sz_of' (by rw [cut_toG, len_S, len_S, lq, List.length_take]; omega), _, rfl, _, _, rfl, rfl, sz_of' (by rw [cut_toG, add_S, len_S, len_S, List.length_append, lp, lq, List.length_take]; omega), _, rfl, _, rfl, _, rfl, _, rfl, zfp, _, _, rfl, rfl, _, rfl, _, rfl, zfq, _, _, rfl, rfl, _, rfl, _, rfl, zt, _, _, rfl, rfl, sz_of' (by rw [cut_toG, e5, cut_from, add_S, add_S, len_S, len_S, List.length_append, List.length_append, lp, lq, List.length_take, List.length_drop]; omega), ?_⟩
          rw [cut_toG, e5, cut_from, add_S, add_S, add_S]
          exact k H4 s14
        · rw [if_neg z] at k
          rw [decide_eq_false z]
          exact iteT (k H4 s14)
theorem sc_done : FnScope ["text", "step", "deed", "found"] ["text", "step"] (defScope s_done) := ⟨rfl, rfl, rfl, by decide +kernel, rfl, by decide +kernel, by decide +kernel⟩
theorem ok_done {f : Addr} {fd : FuncData} (F : Fun K "done" "done" s_done f fd) (T : Txt K mg w D_NUMBERS D_STEPS C_NoRow C_NoStep) (kn_is_formed : KN P w K mg base CX0 2 ["step"] (sp_is_formed K) "is_formed" []) (kn_past_of : KN P w K mg base CX0 3 ["text", "at", "many", "more"] (sp_past_of) "past_of" []) (kn_less_of : KN P w K mg base CX0 3 ["text", "at", "many"] (sp_less_of) "less_of" []) (kn_more_of : KN P w K mg base CX0 3 ["text", "at", "many"] (sp_more_of) "more_of" []) : FnOk P w K mg base CX0 4 f fd ["text", "step"] (sp_done K) := by
  obtain ⟨f_is_formed, fd_is_formed, ds_is_formed, m_is_formed, k_is_formed, v_is_formed, b_is_formed, G_is_formed⟩ := kn_is_formed
  obtain ⟨f_past_of, fd_past_of, ds_past_of, m_past_of, k_past_of, v_past_of, b_past_of, G_past_of⟩ := kn_past_of
  obtain ⟨f_less_of, fd_less_of, ds_less_of, m_less_of, k_less_of, v_less_of, b_less_of, G_less_of⟩ := kn_less_of
  obtain ⟨f_more_of, fd_more_of, ds_more_of, m_more_of, k_more_of, v_more_of, b_more_of, G_more_of⟩ := kn_more_of
  refine F.ok sc_done (fun vs H Q E h => ?_) (fun cdv A outer s H vs Q E hr h => ?_)
  · obtain ⟨t, x, o, rfl, _⟩ := h
    all_goals rfl
  · obtain ⟨t, x, o, rfl, hl, hz, hx, k⟩ := h
    refine ⟨_, (pss_cons (ps_if (pt_not (pt_val (pe_call G_is_formed (hr.mono (by decide)) rfl m_is_formed k_is_formed b_is_formed v_is_formed pass0 (pa_cons (pv 1) pa_nil)))) (pss_one (ps_ret pe_non)) pss_nil)
    (pss_cons (ps_set (i := 2) sc_done.nd rfl (Or.inl rfl) (pe_ix (ix_k (K := K) (w := w) T.q_STEPS) (pe_glob (v := .ref D_STEPS) rfl T.q_STEPS.mg rfl) (pe_ix (ix_tupK (K := K)) (pv 1) pe_int (fun _ _ => rfl)) (fun _ _ => rfl)))
    (pss_cons (ps_if (pt_cmpR op_eq (pe_ix (ix_tupK (K := K)) (pv 1) pe_int (fun _ _ => rfl)) pe_str (nomark _)) (pss_one (ps_set (i := 3) sc_done.nd rfl (Or.inl rfl) (pe_callL (i := 2) G_past_of (hr.mono (by decide)) rfl (Or.inl rfl) k_past_of b_past_of v_past_of pass0 (pa_cons (pv 0) (pa_cons (pe_ix (ix_tupK (K := K)) (pv 1) pe_int (fun _ _ => rfl)) (pa_cons (pe_ix (ix_tupK (K := K)) (pv 1) pe_int (fun _ _ => rfl)) (pa_cons (pe_ix (ix_tupK (K := K)) (pv 1) pe_int (fun _ _ => rfl)) pa_nil))))))) (pss_one (ps_set (i := 3) sc_done.nd rfl (Or.inl rfl) (pe_call2 (i := 2) (k := 3) (G_less_of.mono (by decide)) (G_more_of.mono (by decide)) (hr.mono (by decide)) rfl (Or.inl rfl) k_less_of k_more_of b_less_of b_more_of v_less_of v_more_of pass0 (pa_cons (pv 0) (pa_cons (pe_ix (ix_tupK (K := K)) (pv 1) pe_int (fun _ _ => rfl)) (pa_cons (pe_ix (ix_tupK (K := K)) (pv 1) pe_int (fun _ _ => rfl)) pa_nil)))))))
    (pss_cons (ps_if (PW.pt (pw_or (pt_cmpR op_isN (pv 3) pe_non (nomark _)) (pw_or1 (pt_cmpR op_gt (pe_callB call_len_str (by rfl) T.b_len (by decide +kernel) (pa_cons (pv 3) pa_nil)) (pe_globC T.g_MOST_LONG) (nomark _))))) (pss_one (ps_ret pe_non)) pss_nil)
    (pss_one (ps_ret (pv 3))))))), ?_⟩
    refine ⟨_, rfl, x, o, rfl, hx, fun H1 s1 => ⟨_, rfl, ?_⟩⟩
    cases o with
    | none => exact iteT (k H1 s1)
    | some st =>
    refine iteF ?_
    obtain ⟨p, vs, rfl, hp, hc, hz2, ho⟩ | ⟨_, ho⟩ := hx
    rotate_left
    · cases ho
    obtain ⟨rfl, ok⟩ := form_vals hc ho.symm
    have ho := ok
    have hp1 := s1 _ _ hp
    have fin : ∀ H2 u, Same H H2 → doR t st = some u → (if decide ((4000 : Int) < (u.length : Int)) = true then Q .non H2 else Q (.str (S u)) H2) := fun H2 u s12 hr => by
      have k := k H2 s12
      rw [doX_some hr] at k
      by_cases z : u.length ≤ 4000
      · rw [if_pos z] at k
        rw [decide_eq_false (by omega)]
        exact iteF k
      · rw [if_neg z] at k
        rw [decide_eq_true (by omega)]
        exact iteT k
    have zl : ∀ u, doR t st = some u → u.length ≤ 12000 := fun u e => by
      have := doR_len3 ok e
      omega
    have no0 : ∀ H2, Same H H2 → doR t st = none → Q .non H2 := fun H2 s12 hr => by
      have k := k H2 s12
      rw [doX_none hr] at k
      exact k
    cases st with
    | less a m =>
      obtain ⟨f0, hm0, hk0⟩ := T.q_STEPS_less
      obtain rfl : f0 = f_less_of := by
        rw [m_less_of] at hm0
        injection hm0 with h
        injection h with h
        exact h.symm
      have hp1 : H1 p = some (.tup [.str (Str.ofString "less"), .int (a : Int), .int (m : Int)]) := hp1
      refine ⟨_, rfl, p, _, _, _, rfl, rfl, SqT.of hp1, atI0, _, _, .ref f0, rfl, rfl, hk0, rfl, ?_⟩
      refine ⟨_, rfl, p, _, _, _, rfl, rfl, SqT.of hp1, atI0, rfl, _, rfl, ?_⟩
      rw [show decide (V.str (Str.ofString "less") = V.str (Str.ofString "past")) = false by decide]
      refine iteF (.inl ⟨rfl, _, rfl, _, rfl, p, _, _, _, rfl, rfl, SqT.of hp1, (by rfl), _, rfl, p, _, _, _, rfl, rfl, SqT.of hp1, (by rfl), t, a, m, rfl, hl, by omega, ho.1, ho.2, fun H2 s2 => ?_⟩)
      have s12 := Same.trans s1 s2
      have zl : ∀ u, lessR t a m = some u → u.length ≤ 12000 := zl
      have fin : ∀ H2 u, Same H H2 → lessR t a m = some u → (if decide ((4000 : Int) < (u.length : Int)) = true then Q .non H2 else Q (.str (S u)) H2) := fin
      have no0 : ∀ H2, Same H H2 → lessR t a m = none → Q .non H2 := no0
      cases hr2 : lessR t a m with
      | none => exact ⟨_, rfl, rfl, _, rfl, iteT (no0 H2 s12 hr2)⟩
      | some u =>
        have zu := zl u hr2
        have fin := fin H2 u s12 hr2
        refine ⟨_, rfl, rfl, _, rfl, iteF ⟨_, rfl, _, rfl, sz_of' (by rw [len_S]; omega), _, _, rfl, rfl, _, rfl, ?_⟩⟩
        rw [len_S]
        cases hb : decide ((4000 : Int) < (u.length : Int)) with
        | true =>
          rw [hb] at fin
          exact iteT fin
        | false =>
          rw [hb] at fin
          exact iteF ⟨_, rfl, fin⟩
    | more a m =>
      obtain ⟨f0, hm0, hk0⟩ := T.q_STEPS_more
      obtain rfl : f0 = f_more_of := by
        rw [m_more_of] at hm0
        injection hm0 with h
        injection h with h
        exact h.symm
      have hp1 : H1 p = some (.tup [.str (Str.ofString "more"), .int (a : Int), .int (m : Int)]) := hp1
      refine ⟨_, rfl, p, _, _, _, rfl, rfl, SqT.of hp1, atI0, _, _, .ref f0, rfl, rfl, hk0, rfl, ?_⟩
      refine ⟨_, rfl, p, _, _, _, rfl, rfl, SqT.of hp1, atI0, rfl, _, rfl, ?_⟩
      rw [show decide (V.str (Str.ofString "more") = V.str (Str.ofString "past")) = false by decide]
      refine iteF (.inr ⟨rfl, _, rfl, _, rfl, p, _, _, _, rfl, rfl, SqT.of hp1, (by rfl), _, rfl, p, _, _, _, rfl, rfl, SqT.of hp1, (by rfl), t, a, m, rfl, hl, by omega, ho.1, ho.2, fun H2 s2 => ?_⟩)
      have s12 := Same.trans s1 s2
      have zl : ∀ u, moreR t a m = some u → u.length ≤ 12000 := zl
      have fin : ∀ H2 u, Same H H2 → moreR t a m = some u → (if decide ((4000 : Int) < (u.length : Int)) = true then Q .non H2 else Q (.str (S u)) H2) := fin
      have no0 : ∀ H2, Same H H2 → moreR t a m = none → Q .non H2 := no0
      cases hr2 : moreR t a m with
      | none => exact ⟨_, rfl, rfl, _, rfl, iteT (no0 H2 s12 hr2)⟩
      | some u =>
        have zu := zl u hr2
        have fin := fin H2 u s12 hr2
        refine ⟨_, rfl, rfl, _, rfl, iteF ⟨_, rfl, _, rfl, sz_of' (by rw [len_S]; omega), _, _, rfl, rfl, _, rfl, ?_⟩⟩
        rw [len_S]
        cases hb : decide ((4000 : Int) < (u.length : Int)) with
        | true =>
          rw [hb] at fin
          exact iteT fin
        | false =>
          rw [hb] at fin
          exact iteF ⟨_, rfl, fin⟩
    | past a m j =>
      obtain ⟨f0, hm0, hk0⟩ := T.q_STEPS_past
      obtain rfl : f0 = f_past_of := by
        rw [m_past_of] at hm0
        injection hm0 with h
        injection h with h
        exact h.symm
      have hp1 : H1 p = some (.tup [.str (Str.ofString "past"), .int (a : Int), .int (m : Int), .int (j : Int)]) := hp1
      refine ⟨_, rfl, p, _, _, _, rfl, rfl, SqT.of hp1, atI0, _, _, .ref f0, rfl, rfl, hk0, rfl, ?_⟩
      refine ⟨_, rfl, p, _, _, _, rfl, rfl, SqT.of hp1, atI0, rfl, _, rfl, ?_⟩
      rw [show decide (V.str (Str.ofString "past") = V.str (Str.ofString "past")) = true by decide]
      refine iteT ⟨rfl, _, rfl, _, rfl, p, _, _, _, rfl, rfl, SqT.of hp1, (by rfl), _, rfl, p, _, _, _, rfl, rfl, SqT.of hp1, (by rfl), _, rfl, p, _, _, _, rfl, rfl, SqT.of hp1, (by rfl), t, a, m, j, rfl, hl, by omega, ho.1.1, ho.1.2, ho.2.1, ho.2.2, fun H2 s2 => ?_⟩
      have s12 := Same.trans s1 s2
      have zl : ∀ u, pastR t a m j = some u → u.length ≤ 12000 := zl
      have fin : ∀ H2 u, Same H H2 → pastR t a m j = some u → (if decide ((4000 : Int) < (u.length : Int)) = true then Q .non H2 else Q (.str (S u)) H2) := fin
      have no0 : ∀ H2, Same H H2 → pastR t a m j = none → Q .non H2 := no0
      cases hr2 : pastR t a m j with
      | none => exact ⟨_, rfl, rfl, _, rfl, iteT (no0 H2 s12 hr2)⟩
      | some u =>
        have zu := zl u hr2
        have fin := fin H2 u s12 hr2
        refine ⟨_, rfl, rfl, _, rfl, iteF ⟨_, rfl, _, rfl, sz_of' (by rw [len_S]; omega), _, _, rfl, rfl, _, rfl, ?_⟩⟩
        rw [len_S]
        cases hb : decide ((4000 : Int) < (u.length : Int)) with
        | true =>
          rw [hb] at fin
          exact iteT fin
        | false =>
          rw [hb] at fin
          exact iteF ⟨_, rfl, fin⟩
theorem sc_NoStep___init__ : FnScope ["self", "number"] ["self", "number"] (defScope s_NoStep___init__) := ⟨rfl, rfl, rfl, by decide +kernel, rfl, by decide +kernel, by decide +kernel⟩
theorem ok_NoStep___init__ {f : Addr} {fd : FuncData} (F : Fun K "__init__" "NoStep.__init__" s_NoStep___init__ f fd) (T : Txt K mg w D_NUMBERS D_STEPS C_NoRow C_NoStep) : FnOk P w K mg base CX0 1 f fd ["self", "number"] (sp_NoStep___init__ C_NoStep) := by
  refine F.ok sc_NoStep___init__ (fun vs H Q E h => ?_) (fun cdv A outer s H vs Q E hr h => ?_)
  · obtain ⟨a, v, rfl, _⟩ := h
    all_goals rfl
  · obtain ⟨a, v, rfl, ha, k⟩ := h
    refine ⟨_, (pss_cons (ps_expr (pe_xi (B := "LookupError") (ni := "LookupError.__new__") (ii := "LookupError.__init__") (bm := [.type "LookupError", .type "Exception", .type "BaseException", .type "object"]) rfl T.b_LookupError (by rfl) (by decide) (by decide) (by kernel_rfl) T.v_LookupError (pa_cons (pv 0) (pa_cons pe_str pa_nil))))
    (pss_one (ps_xs (B := "LookupError") (ni := "LookupError.__new__") (ii := "LookupError.__init__") (bm := [.type "LookupError", .type "Exception", .type "BaseException", .type "object"]) (pv 0) (pv 1)))), ?_⟩
    refine ⟨_, rfl, a, C_NoStep, [_], rfl, (by show 1 ≤ 1000; decide), T.x_NoStep.xi, ha, ?_⟩
    exact ⟨_, rfl, _, rfl, a, C_NoStep, rfl, T.x_NoStep.xi, taker_none T.y_NoStep_number, .inl ⟨ha, fun d hd ne => k d hd ne⟩⟩
theorem sc_led_on : FnScope ["row", "steps", "here", "number", "step", "found"] ["row", "steps"] (defScope s_led_on) := ⟨rfl, rfl, rfl, by decide +kernel, rfl, by decide +kernel, by decide +kernel⟩
theorem ok_led_on {f : Addr} {fd : FuncData} (F : Fun K "led_on" "led_on" s_led_on f fd) (T : Txt K mg w D_NUMBERS D_STEPS C_NoRow C_NoStep) (kn_look_at_long_row : KN P w K mg base (L2.CX P w) 3 ["thing"] (sp_look_at_long_row C_NoRow) "look_at_long_row" []) (kn_done : KN P w K mg base CX0 4 ["text", "step"] (sp_done K) "done" []) (kn_NoStep___init__ : KM P w K mg base CX0 1 ["self", "number"] (sp_NoStep___init__ C_NoStep) C_NoStep "__init__" []) : FnOk P w K mg base (L2.CX P w) 5 f fd ["row", "steps"] (sp_led_on K C_NoStep C_NoRow) := by
  obtain ⟨f_look_at_long_row, fd_look_at_long_row, ds_look_at_long_row, m_look_at_long_row, k_look_at_long_row, v_look_at_long_row, b_look_at_long_row, G_look_at_long_row⟩ := kn_look_at_long_row
  obtain ⟨f_done, fd_done, ds_done, m_done, k_done, v_done, b_done, G_done⟩ := kn_done
  obtain ⟨f_NoStep___init__, fd_NoStep___init__, ds_NoStep___init__, i_NoStep___init__, t_NoStep___init__, fn_NoStep___init__, k_NoStep___init__, v_NoStep___init__, b_NoStep___init__, G_NoStep___init__⟩ := kn_NoStep___init__
  refine F.okX sc_led_on (fun vs H Q E h => ?_) (fun cdv A outer s H vs Q E hr h => ?_)
  · obtain ⟨y, r, q, xs, os, rfl, _⟩ := h
    all_goals rfl
  · obtain ⟨y, r, q, xs, os, rfl, hy, hq, hx, k⟩ := h
    refine ⟨_, (pss_cons (ps_expr (pe_call G_look_at_long_row (hr.mono (by decide)) rfl m_look_at_long_row k_look_at_long_row b_look_at_long_row v_look_at_long_row (passes_call (E := E) (takes_of rfl rfl rfl rfl) (fun _ _ _ _ h => h)) (pa_cons (pv 0) pa_nil)))
    (pss_cons (ps_set (i := 2) sc_led_on.nd rfl (Or.inl rfl) (pv 0))
    (pss_cons (ps_for (passes_of rfl) rfl (pi_enum (by rfl) T.b_enumerate (pa_cons (pv 1) pa_nil)) (pg_tup rfl (pgs_cons (pg_name (i := 3) sc_led_on.nd rfl (Or.inl rfl)) (pgs_cons (pg_name (i := 4) sc_led_on.nd rfl (Or.inl rfl)) pgs_nil))) (pss_cons (ps_set (i := 5) sc_led_on.nd rfl (Or.inl rfl) (pe_call G_done (hr.mono (by decide)) rfl m_done k_done b_done v_done pass0 (pa_cons (pv 2) (pa_cons (pv 4) pa_nil))))
    (pss_cons (ps_if (pt_cmpR op_isN (pv 5) pe_non (nomark _)) (pss_one (ps_raise rfl (takes_of rfl rfl rfl rfl) (pmk_xi T.x_NoStep.xi i_NoStep___init__ t_NoStep___init__ G_NoStep___init__ (hr.mono (by decide)) b_NoStep___init__ v_NoStep___init__ pass0 rfl T.x_NoStep.gC (pa_cons (pv 3) pa_nil)))) pss_nil)
    (pss_one (ps_set (i := 2) sc_led_on.nd rfl (Or.inl rfl) (pv 5))))))
    (pss_one (ps_ret (pv 2)))))), ?_⟩
    obtain ⟨k1, k2, k3⟩ := k
    refine ⟨_, rfl, y, r, rfl, hy, fun hr H1 s1 => ?_, fun hr H1 s1 => k3 hr H1 s1⟩
    subst hr
    obtain ⟨t, rfl, rt, zt⟩ := longW_true hy
    have hq1 := s1 _ _ hq
    have hx1 := hx.same s1
    refine ⟨_, rfl, ?_⟩
    refine ⟨_, rfl, q, _, rfl, SqL.of hq1, for_it walk_enum (fun i σ H' => ∃ (u : List Nat) (x3 x4 x5 : Option V), σ = [some (.str (S t)), some (.ref q), some (.str (S u)), x3, x4, x5] ∧ Same H1 H' ∧ doXL t (os.take i) = some u ∧ Row u ∧ u.length ≤ 4000) ⟨t, _, _, _, rfl, Same.refl _, rfl, rt, zt⟩ (fun _ _ _ _ ⟨_, _, _, _, _, s, _⟩ => SqL.of (s _ _ hq1)) ?_ ?_⟩
    rotate_left
    · rintro σ H2 ⟨u, x3, x4, x5, rfl, s2, e, _, _⟩
      rw [hx.len, List.take_length] at e
      exact ⟨_, rfl, k1 t u rfl rt zt e H2 (Same.trans s1 s2)⟩
    rintro i v σ H2 H3 hi ⟨u, x3, x4, x5, rfl, s2, e, ru, zu⟩ ⟨c, x, y, rfl, nc, rfl, ex, ey⟩
    injection ex with ex
    subst ex
    obtain ⟨o, ho, tg⟩ := hx1.get ey
    have sc := Same.new (o := .tup [.int (i : Nat), y]) nc
    refine ⟨c, [_, _], rfl, SqT.of upd_same, rfl, _, _, rfl, _, _, rfl, rfl, ?_⟩
    refine ⟨_, rfl, _, rfl, u, y, o, rfl, ru, zu, tg.same (Same.trans s2 sc), fun H4 s4 => ?_⟩
    have s5 := Same.trans s2 (Same.trans sc s4)
    cases hd : doX u o with
    | none =>
      refine ⟨_, rfl, rfl, _, rfl, iteT ?_⟩
      obtain ⟨b1, b2⟩ := doXL_bad e ho hd
      exact ⟨_, rfl, (by show 1 ≤ 1000; decide), fun x hx => ⟨x, .int (i : Nat), rfl, upd_same, fun d hd ne => madeF hx (fun d' H' s' h' => k2 t rfl rt zt b1 d' H' (Same.trans s1 (Same.trans s5 s')) (by rw [b2]; exact h')) d hd ne⟩⟩
    | some z =>
      obtain ⟨rz, zz⟩ := doX_row ru hd
      refine ⟨_, rfl, rfl, _, rfl, iteF ⟨_, rfl, z, _, _, _, rfl, s5, ?_, rz, zz⟩⟩
      rw [take_oneS ho, doXL_snoc, e]
      exact hd
theorem sc_stepped : FnScope ["row", "step"] ["row", "step"] (defScope s_stepped) := ⟨rfl, rfl, rfl, by decide +kernel, rfl, by decide +kernel, by decide +kernel⟩
theorem ok_stepped {f : Addr} {fd : FuncData} (F : Fun K "stepped" "stepped" s_stepped f fd) (T : Txt K mg w D_NUMBERS D_STEPS C_NoRow C_NoStep) (kn_led_on : KN P w K mg base (L2.CX P w) 5 ["row", "steps"] (sp_led_on K C_NoStep C_NoRow) "led_on" []) : FnOk P w K mg base (L2.CX P w) 6 f fd ["row", "step"] (sp_stepped K C_NoStep C_NoRow) := by
  obtain ⟨f_led_on, fd_led_on, ds_led_on, m_led_on, k_led_on, v_led_on, b_led_on, G_led_on⟩ := kn_led_on
  refine F.okX sc_stepped (fun vs H Q E h => ?_) (fun cdv A outer s H vs Q E hr h => ?_)
  · obtain ⟨y, r, x, o, rfl, _⟩ := h
    all_goals rfl
  · obtain ⟨y, r, x, o, rfl, hy, hx, k⟩ := h
    refine ⟨_, (pss_one (ps_ret (pe_call G_led_on (hr.mono (by decide)) rfl m_led_on k_led_on b_led_on v_led_on (passes_call (E := E) (takes_of rfl rfl rfl rfl) (fun _ _ _ _ h => h)) (pa_cons (pv 0) (pa_cons (pe_lst (pa_cons (pv 1) pa_nil)) pa_nil))))), ?_⟩
    obtain ⟨k1, k2, k3⟩ := k
    refine ⟨_, rfl, _, rfl, (by show 1 ≤ sizeLine; decide), fun q hq => ?_⟩
    have s1 := Same.new (o := .lst [x]) hq
    refine ⟨y, r, q, [x], [o], rfl, isRowW_same hy s1, upd_same, ⟨hx.same s1, trivial⟩, fun t u e rt zt hu H1 s2 => ?_, fun t e rt zt hu d H1 s2 hd => ?_, fun hr H1 s2 => k3 hr H1 (Same.trans s1 s2)⟩
    · rw [doXL_one] at hu
      exact k1 t u e rt zt hu H1 (Same.trans s1 s2)
    · rw [doXL_one] at hu
      rw [badX_one hu] at hd
      exact k2 t e rt zt hu d H1 (Same.trans s1 s2) hd
theorem sc_law_told : FnScope ["_law_row_here", "_law_step_here", "_law_found", "e"] ["_law_row_here", "_law_step_here"] (defScope s_law_told) := ⟨rfl, rfl, rfl, by decide +kernel, rfl, by decide +kernel, by decide +kernel⟩
theorem ok_law_told {f : Addr} {fd : FuncData} (F : Fun K "_law_told" "_law_told" s_law_told f fd) (T : Txt K mg w D_NUMBERS D_STEPS C_NoRow C_NoStep) (kn_stepped : KN P w K mg base (L2.CX P w) 6 ["row", "step"] (sp_stepped K C_NoStep C_NoRow) "stepped" []) : FnOk P w K mg base CX0 7 f fd ["_law_row_here", "_law_step_here"] (sp_law_told K C_NoStep C_NoRow) := by
  obtain ⟨f_stepped, fd_stepped, ds_stepped, m_stepped, k_stepped, v_stepped, b_stepped, G_stepped⟩ := kn_stepped
  refine F.ok sc_law_told (fun vs H Q E h => ?_) (fun cdv A outer s H vs Q E hr h => ?_)
  · obtain ⟨y, r, x, o, rfl, _⟩ := h
    all_goals rfl
  · obtain ⟨y, r, x, o, rfl, hy, hx, k⟩ := h
    refine ⟨_, (pss_cons (ps_try_ls sc_law_told.nd rfl rfl takes0
    (fun W pn xe tk po => (pss_one (ps_set (i := 2) sc_law_told.nd rfl (Or.inl rfl) (pe_lst (pa_cons pe_str (pa_cons (pe_callSD G_stepped (hr.mono (by decide)) rfl m_stepped k_stepped b_stepped v_stepped (fun σ => passAt tk σ) (by exact (pa_cons (pv 0) (pa_cons (pv 1) pa_nil)))) pa_nil))))))
    (.named (i := 3) rfl rfl ⟨rfl, by decide, Or.inl T.x_NoStep.gC⟩ (fun a oe cls d pn hz hf => (pss_one (ps_set (i := 2) sc_law_told.nd rfl (Or.inl rfl) (pe_lst (pa_cons pe_str (pa_cons (pe_xf T.x_NoStep.xf T.y_NoStep_number hz hf (pv 3)) pa_nil))))))
    (.named (i := 3) rfl rfl ⟨rfl, by decide, Or.inl T.x_NoRow.gC⟩ (fun a oe cls d pn hz hf => (pss_one (ps_set (i := 2) sc_law_told.nd rfl (Or.inl rfl) (pe_lst (pa_cons pe_str (pa_cons (pe_callB (call_isX (K := K) hz hf) (by rfl) T.b_isinstance (by decide +kernel) (pa_cons (pv 3) (pa_cons (pe_bltn (v := .ty "ValueError") (by rfl) T.b_ValueError (by decide +kernel) rfl) pa_nil))) pa_nil))))))
    .nil)))
    (pss_one (ps_ret (pv 2)))), ?_⟩
    refine ⟨_, rfl, _, rfl, y, r, x, o, rfl, hy, hx, fun t u e rt zt hu H1 s1 => ?_, fun t e rt zt hu d H1 s1 hd => ?_, fun hr H1 s1 => ?_⟩
    · refine ⟨by show 2 ≤ sizeLine; decide, fun q hq => ⟨_, rfl, k q _ _ (Same.trans s1 (Same.new hq)) (Same.free s1 hq) upd_same (fun t' e' _ => ?_) (fun h => ?_)⟩⟩
      · obtain rfl := sT_of (e.symm.trans e')
        rw [toldX_some (by rw [doXL_one]; exact hu)]
      · subst e
        rw [longW hy rt zt] at h
        cases h
    · refine ⟨true, T.x_NoStep.te, fun _ a _ => ?_, fun q => nomatch q⟩
      refine ⟨_, rfl, rfl, rfl, d, _, _, rfl, hd, rfl, (by show 2 ≤ sizeLine; decide), fun q hq => ⟨_, rfl, k q _ _ (Same.trans s1 (Same.new hq)) (Same.free s1 hq) upd_same (fun t' e' _ => ?_) (fun h => ?_)⟩⟩
      · obtain rfl := sT_of (e.symm.trans e')
        rw [toldX_none (by rw [doXL_one]; exact hu), badX_one hu]
        rfl
      · subst e
        rw [longW hy rt zt] at h
        cases h
    · refine ⟨false, exm_of T.n5 T.x_NoStep.bC T.x_NoStep.iC T.x_NoStep.tC, (fun h => nomatch h), fun _ => ⟨true, T.x_NoRow.te, fun _ a _ => ?_, fun q => nomatch q⟩⟩
      refine ⟨_, rfl, C_NoRow, _, _, true, ⟨rfl, .inl rfl, T.x_NoRow.ok⟩, rfl, .ty "ValueError", kit_exT T.n4, (by show 2 ≤ sizeLine; decide), fun q hq => ⟨_, rfl, k q _ _ (Same.trans s1 (Same.new hq)) (Same.free s1 hq) upd_same (fun t e h => by rw [hr] at h; cases h) (fun _ => rfl)⟩⟩
theorem sc_law_told_on : FnScope ["_law_row_here", "_law_steps", "_law_found", "e"] ["_law_row_here", "_law_steps"] (defScope s_law_told_on) := ⟨rfl, rfl, rfl, by decide +kernel, rfl, by decide +kernel, by decide +kernel⟩
theorem ok_law_told_on {f : Addr} {fd : FuncData} (F : Fun K "_law_told_on" "_law_told_on" s_law_told_on f fd) (T : Txt K mg w D_NUMBERS D_STEPS C_NoRow C_NoStep) (kn_led_on : KN P w K mg base (L2.CX P w) 5 ["row", "steps"] (sp_led_on K C_NoStep C_NoRow) "led_on" []) : FnOk P w K mg base CX0 6 f fd ["_law_row_here", "_law_steps"] (sp_law_told_on K C_NoStep C_NoRow) := by
  obtain ⟨f_led_on, fd_led_on, ds_led_on, m_led_on, k_led_on, v_led_on, b_led_on, G_led_on⟩ := kn_led_on
  refine F.ok sc_law_told_on (fun vs H Q E h => ?_) (fun cdv A outer s H vs Q E hr h => ?_)
  · obtain ⟨t, q, xs, os, rfl, _⟩ := h
    all_goals rfl
  · obtain ⟨t, q, xs, os, rfl, hl, hz, hq, hx, k⟩ := h
    refine ⟨_, (pss_cons (ps_try_as (i := 3) rfl rfl sc_law_told_on.nd rfl rfl ⟨rfl, by decide, Or.inl T.x_NoStep.gC⟩ takes0
    (fun W pn xe tk po => (pss_one (ps_set (i := 2) sc_law_told_on.nd rfl (Or.inl rfl) (pe_lst (pa_cons pe_str (pa_cons (pe_callSD G_led_on (hr.mono (by decide)) rfl m_led_on k_led_on b_led_on v_led_on (fun σ => passAt tk σ) (by exact (pa_cons (pv 0) (pa_cons (pv 1) pa_nil)))) pa_nil))))))
    (fun a oe cls d pn hz hf => (pss_one (ps_set (i := 2) sc_law_told_on.nd rfl (Or.inl rfl) (pe_lst (pa_cons pe_str (pa_cons (pe_xf T.x_NoStep.xf T.y_NoStep_number hz hf (pv 3)) pa_nil)))))))
    (pss_one (ps_ret (pv 2)))), ?_⟩
    refine ⟨_, rfl, _, rfl, .str (S t), true, q, xs, os, rfl, .inl ⟨t, rfl, by omega, ?_⟩, hq, hx, fun t' u e rt zt hu H1 s1 => ?_, fun t' e rt zt hu d H1 s1 hd => ?_, fun hr => nomatch hr⟩
    · symm
      rw [Bool.and_eq_true, decide_eq_true_eq, List.all_eq_true]
      exact ⟨by omega, fun c hc => decide_eq_true (hl c hc)⟩
    · obtain rfl := sT_of e
      refine ⟨by show 2 ≤ sizeLine; decide, fun r hr => ⟨_, rfl, k r _ (Same.trans s1 (Same.new hr)) (Same.free s1 hr) ?_⟩⟩
      rw [toldX_some hu]
      exact upd_same
    · obtain rfl := sT_of e
      refine ⟨true, T.x_NoStep.te, fun _ a _ => ?_, fun q => nomatch q⟩
      refine ⟨_, rfl, rfl, rfl, d, _, _, rfl, hd, rfl, (by show 2 ≤ sizeLine; decide), fun r hr => ⟨_, rfl, k r _ (Same.trans s1 (Same.new hr)) (Same.free s1 hr) ?_⟩⟩
      rw [toldX_none hu]
      exact upd_same
theorem sc_law : FnScope ["_law_script", "_law_k", "_law_pool_here", "_law_deeds", "_law_one", "_law_row_here", "_law_step_here", "_law_thing", "_law_due", "_law_later", "_law_many", "_law_size", "_law_text", "_law_found", "_law_bad"] ["_law_script"] (defScope s_law) := ⟨rfl, rfl, rfl, by decide +kernel, rfl, by decide +kernel, by decide +kernel⟩
theorem ok_law {f : Addr} {fd : FuncData} (F : Fun K "law" "law" s_law f fd) (T : Txt K mg w D_NUMBERS D_STEPS C_NoRow C_NoStep) (kn_law_pool : KN P w K mg base CX0 1 ["_law_script", "_law_k"] (sp_law_pool K) "_law_pool" []) (kn_law_take : KN P w K mg base CX0 1 ["_law_pool_here", "_law_many"] (sp_law_take) "_law_take" []) (kn_law_row : KN P w K mg base CX0 2 ["_law_pool_here", "_law_most", "_law_deeds"] (sp_law_row) "_law_row" []) (kn_law_turned : KN P w K mg base CX0 1 ["_law_text"] (sp_law_turned) "_law_turned" []) (kn_law_step : KN P w K mg base CX0 3 ["_law_pool_here", "_law_text"] (sp_law_step K) "_law_step" []) (kn_law_bent : KN P w K mg base CX0 2 ["_law_pool_here", "_law_step_here"] (sp_law_bent K) "_law_bent" []) (kn_law_formed : KN P w K mg base CX0 1 ["_law_step_here"] (sp_law_formed K) "_law_formed" []) (kn_law_done : KN P w K mg base CX0 2 ["_law_text", "_law_step_here"] (sp_law_done K) "_law_done" []) (kn_law_told : KN P w K mg base CX0 7 ["_law_row_here", "_law_step_here"] (sp_law_told K C_NoStep C_NoRow) "_law_told" []) (kn_law_told_on : KN P w K mg base CX0 6 ["_law_row_here", "_law_steps"] (sp_law_told_on K C_NoStep C_NoRow) "_law_told_on" []) (kn_is_long_row : KN P w K mg base CX0 2 ["thing"] (sp_is_long_row) "is_long_row" []) : FnOk P w K mg base CX0 8 f fd ["_law_script"] (sp_law K) := by
  obtain ⟨f_law_pool, fd_law_pool, ds_law_pool, m_law_pool, k_law_pool, v_law_pool, b_law_pool, G_law_pool⟩ := kn_law_pool
  obtain ⟨f_law_take, fd_law_take, ds_law_take, m_law_take, k_law_take, v_law_take, b_law_take, G_law_take⟩ := kn_law_take
  obtain ⟨f_law_row, fd_law_row, ds_law_row, m_law_row, k_law_row, v_law_row, b_law_row, G_law_row⟩ := kn_law_row
  obtain ⟨f_law_turned, fd_law_turned, ds_law_turned, m_law_turned, k_law_turned, v_law_turned, b_law_turned, G_law_turned⟩ := kn_law_turned
  obtain ⟨f_law_step, fd_law_step, ds_law_step, m_law_step, k_law_step, v_law_step, b_law_step, G_law_step⟩ := kn_law_step
  obtain ⟨f_law_bent, fd_law_bent, ds_law_bent, m_law_bent, k_law_bent, v_law_bent, b_law_bent, G_law_bent⟩ := kn_law_bent
  obtain ⟨f_law_formed, fd_law_formed, ds_law_formed, m_law_formed, k_law_formed, v_law_formed, b_law_formed, G_law_formed⟩ := kn_law_formed
  obtain ⟨f_law_done, fd_law_done, ds_law_done, m_law_done, k_law_done, v_law_done, b_law_done, G_law_done⟩ := kn_law_done
  obtain ⟨f_law_told, fd_law_told, ds_law_told, m_law_told, k_law_told, v_law_told, b_law_told, G_law_told⟩ := kn_law_told
  obtain ⟨f_law_told_on, fd_law_told_on, ds_law_told_on, m_law_told_on, k_law_told_on, v_law_told_on, b_law_told_on, G_law_told_on⟩ := kn_law_told_on
  obtain ⟨f_is_long_row, fd_is_long_row, ds_is_long_row, m_is_long_row, k_is_long_row, v_is_long_row, b_is_long_row, G_is_long_row⟩ := kn_is_long_row
  refine F.ok sc_law (fun vs H Q E h => ?_) (fun cdv A outer s H vs Q E hr h => ?_)
  · obtain ⟨a, ns, rfl, _⟩ := h
    all_goals rfl
  · obtain ⟨a, ns, rfl, hS, hlen, k⟩ := h
    refine ⟨_, (pss_cons (ps_for PassesOwn.never rfl (pi_range1 (by rfl) T.b_range (pa_cons (pe_callB (call_max2 rfl) (by rfl) T.b_max (by decide +kernel) (pa_cons pe_int (pa_cons (pe_callB (call_min2 rfl) (by rfl) T.b_min (by decide +kernel) (pa_cons (pe_callB (call_lenK (K := K)) (by rfl) T.b_len (by decide +kernel) (pa_cons (pv 0) pa_nil)) (pa_cons pe_int pa_nil))) pa_nil))) pa_nil)) (pg_name (i := 1) sc_law.nd rfl (Or.inl rfl)) (pss_cons (ps_set (i := 2) sc_law.nd rfl (Or.inl rfl) (pe_call G_law_pool (hr.mono (by decide)) rfl m_law_pool k_law_pool b_law_pool v_law_pool pass0 (pa_cons (pv 0) (pa_cons (pv 1) pa_nil))))
    (pss_cons (ps_set (i := 3) sc_law.nd rfl (Or.inl rfl) (pe_op op_add pe_int (pe_call G_law_take (hr.mono (by decide)) rfl m_law_take k_law_take b_law_take v_law_take pass0 (pa_cons (pv 2) (pa_cons pe_int pa_nil)))))
    (pss_cons (ps_set (i := 4) sc_law.nd rfl (Or.inl rfl) (pe_call G_law_row (hr.mono (by decide)) rfl m_law_row k_law_row b_law_row v_law_row pass0 (pa_cons (pv 2) (pa_cons pe_int (pa_cons (pv 3) pa_nil)))))
    (pss_cons (ps_set (i := 5) sc_law.nd rfl (Or.inl rfl) (pe_op op_add_str (pe_op op_add_str (pe_op op_add_str (pv 4) (pe_call G_law_turned (hr.mono (by decide)) rfl m_law_turned k_law_turned b_law_turned v_law_turned pass0 (pa_cons (pv 4) pa_nil))) (pe_call G_law_row (hr.mono (by decide)) rfl m_law_row k_law_row b_law_row v_law_row pass0 (pa_cons (pv 2) (pa_cons pe_int (pa_cons (pv 3) pa_nil))))) pe_str))
    (pss_cons (ps_set (i := 6) sc_law.nd rfl (Or.inl rfl) (pe_call G_law_step (hr.mono (by decide)) rfl m_law_step k_law_step b_law_step v_law_step pass0 (pa_cons (pv 2) (pa_cons (pv 5) pa_nil))))
    (pss_cons (ps_for PassesOwn.never rfl (pi_list (pe_lst (pa_cons (pv 6) (pa_cons (pe_call G_law_bent (hr.mono (by decide)) rfl m_law_bent k_law_bent b_law_bent v_law_bent pass0 (pa_cons (pv 2) (pa_cons (pv 6) pa_nil))) pa_nil)))) (pg_name (i := 7) sc_law.nd rfl (Or.inl rfl)) (pss_cons (ps_set (i := 8) sc_law.nd rfl (Or.inl rfl) pe_non)
    (Evl.pss_cut (ps_if (pt_val (pe_call G_law_formed (hr.mono (by decide)) rfl m_law_formed k_law_formed b_law_formed v_law_formed pass0 (pa_cons (pv 7) pa_nil))) (pss_one (ps_set (i := 8) sc_law.nd rfl (Or.inl rfl) (pe_call G_law_done (hr.mono (by decide)) rfl m_law_done k_law_done b_law_done v_law_done pass0 (pa_cons (pv 5) (pa_cons (pv 7) pa_nil))))) pss_nil)
    (pss_cons (ps_if (pt_cmpR (op_neDK (K := K) hr.units) (pe_call G_law_told (hr.mono (by decide)) rfl m_law_told k_law_told b_law_told v_law_told pass0 (pa_cons (pv 5) (pa_cons (pv 7) pa_nil))) (pe_ix (ix_listK (K := K)) (pe_lst (pa_cons (pe_lst (pa_cons pe_str (pa_cons (pv 8) pa_nil))) (pa_cons (pe_lst (pa_cons pe_str (pa_cons pe_int pa_nil))) pa_nil))) (pe_callTy call_int1 (by rfl) T.b_int (by decide +kernel) (pa_cons (pe_cmpR op_isN (pv 8) pe_non (nomark _)) pa_nil)) (fun _ _ => rfl)) (nomark _)) (pss_one (ps_ret pe_bl)) pss_nil)
    (pss_cons (ps_set (i := 9) sc_law.nd rfl (Or.inl rfl) pe_non)
    (Evl.pss_cut (ps_if (pt_val (pe_call G_law_formed (hr.mono (by decide)) rfl m_law_formed k_law_formed b_law_formed v_law_formed pass0 (pa_cons (pv 7) pa_nil))) (pss_one (ps_set (i := 9) sc_law.nd rfl (Or.inl rfl) (pe_call G_law_done (hr.mono (by decide)) rfl m_law_done k_law_done b_law_done v_law_done pass0 (pa_cons (pe_call G_law_done (hr.mono (by decide)) rfl m_law_done k_law_done b_law_done v_law_done pass0 (pa_cons (pv 5) (pa_cons (pe_tup (pa_cons pe_str (pa_cons pe_int (pa_cons pe_int pa_nil)))) pa_nil))) (pa_cons (pv 7) pa_nil))))) pss_nil)
    (pss_one (ps_if (pt_cmpR (op_neDK (K := K) hr.units) (pe_call G_law_told_on (hr.mono (by decide)) rfl m_law_told_on k_law_told_on b_law_told_on v_law_told_on pass0 (pa_cons (pv 5) (pa_cons (pe_lst (pa_cons (pe_tup (pa_cons pe_str (pa_cons pe_int (pa_cons pe_int pa_nil)))) (pa_cons (pv 7) pa_nil))) pa_nil))) (pe_ix (ix_listK (K := K)) (pe_lst (pa_cons (pe_lst (pa_cons pe_str (pa_cons (pv 9) pa_nil))) (pa_cons (pe_lst (pa_cons pe_str (pa_cons pe_int pa_nil))) pa_nil))) (pe_callTy call_int1 (by rfl) T.b_int (by decide +kernel) (pa_cons (pe_cmpR op_isN (pv 9) pe_non (nomark _)) pa_nil)) (fun _ _ => rfl)) (nomark _)) (pss_one (ps_ret pe_bl)) pss_nil))))))))
    (pss_cons (ps_set (i := 10) sc_law.nd rfl (Or.inl rfl) (pe_op op_add pe_int (pe_call G_law_take (hr.mono (by decide)) rfl m_law_take k_law_take b_law_take v_law_take pass0 (pa_cons (pv 2) (pa_cons pe_int pa_nil)))))
    (pss_cons (ps_set (i := 11) sc_law.nd rfl (Or.inl rfl) (pe_op op_add pe_int (pe_call G_law_take (hr.mono (by decide)) rfl m_law_take k_law_take b_law_take v_law_take pass0 (pa_cons (pv 2) (pa_cons pe_int pa_nil)))))
    (pss_cons (ps_set (i := 12) sc_law.nd rfl (Or.inl rfl) (pe_op op_repS (pe_ix ix_str pe_str (pe_call G_law_take (hr.mono (by decide)) rfl m_law_take k_law_take b_law_take v_law_take pass0 (pa_cons (pv 2) (pa_cons pe_int pa_nil))) (fun _ _ => rfl)) (pv 10)))
    (pss_cons (ps_set (i := 13) sc_law.nd rfl (Or.inl rfl) (pe_call G_is_long_row (hr.mono (by decide)) rfl m_is_long_row k_is_long_row b_is_long_row v_is_long_row pass0 (pa_cons (pv 12) pa_nil)))
    (pss_cons (ps_if (PW.pt (pw_or (pt_not (pt_val (pe_callB (call_isiK1 (K := K)) (by rfl) T.b_isinstance (by decide +kernel) (pa_cons (pv 13) (pa_cons (pe_bltn (v := .ty "bool") (by rfl) T.b_bool (by decide +kernel) rfl) pa_nil))))) (pw_or1 (pt_cmpR op_ne (pv 13) (pe_cmpR op_le (pv 10) pe_int (nomark _)) (nomark _))))) (pss_one (ps_ret pe_bl)) pss_nil)
    (pss_cons (ps_set (i := 8) sc_law.nd rfl (Or.inl rfl) (pe_lst (pa_cons pe_str (pa_cons pe_int pa_nil))))
    (Evl.pss_cut (ps_if (pt_cmpR op_gt (pv 10) pe_int (nomark _)) (pss_one (ps_set (i := 8) sc_law.nd rfl (Or.inl rfl) (pe_lst (pa_cons pe_str (pa_cons pe_bl pa_nil))))) (pss_one (ps_if (pt_cmpR op_le (pe_op op_add (pv 10) (pe_op op_mul pe_int (pv 11))) pe_int (nomark _)) (pss_one (ps_set (i := 8) sc_law.nd rfl (Or.inl rfl) (pe_lst (pa_cons pe_str (pa_cons (pe_call G_law_done (hr.mono (by decide)) rfl m_law_done k_law_done b_law_done v_law_done pass0 (pa_cons (pv 12) (pa_cons (pe_tup (pa_cons pe_str (pa_cons pe_int (pa_cons (pv 11) pa_nil)))) pa_nil))) pa_nil))))) pss_nil)))
    (pss_cons (ps_if (pt_cmpR (op_neDK (K := K) hr.units) (pe_call G_law_told (hr.mono (by decide)) rfl m_law_told k_law_told b_law_told v_law_told pass0 (pa_cons (pv 12) (pa_cons (pe_tup (pa_cons pe_str (pa_cons pe_int (pa_cons (pv 11) pa_nil)))) pa_nil))) (pv 8) (nomark _)) (pss_one (ps_ret pe_bl)) pss_nil)
    (pss_cons (ps_set (i := 14) sc_law.nd rfl (Or.inl rfl) (pe_ix (ix_listK (K := K)) (pe_lst (pa_cons pe_non (pa_cons pe_str (pa_cons pe_str (pa_cons pe_int (pa_cons (pe_lst (pa_cons pe_str pa_nil)) (pa_cons (pe_op op_repS pe_str pe_int) pa_nil))))))) (pe_call G_law_take (hr.mono (by decide)) rfl m_law_take k_law_take b_law_take v_law_take pass0 (pa_cons (pv 2) (pa_cons pe_int pa_nil))) (fun _ _ => rfl)))
    (pss_one (ps_if (PW.pt (pw_or (pt_cmpR (op_neDK (K := K) hr.units) (pe_call G_law_told (hr.mono (by decide)) rfl m_law_told k_law_told b_law_told v_law_told pass0 (pa_cons (pv 14) (pa_cons (pv 7) pa_nil))) (pe_lst (pa_cons pe_str (pa_cons pe_bl pa_nil))) (nomark _)) (pw_or1 (pt_cmpR op_isnot_bl (pe_call G_is_long_row (hr.mono (by decide)) rfl m_is_long_row k_is_long_row b_is_long_row v_is_long_row pass0 (pa_cons (pv 14) pa_nil)) pe_bl (nomark _))))) (pss_one (ps_ret pe_bl)) pss_nil))))))))))))))))))
    (pss_one (ps_ret pe_bl))), ?_⟩
    have tn := turns_ok (ns.map V.int).length 8 (by decide)
    refine ⟨_, rfl, _, _, rfl, .inl hS, _, _, rfl, _, _, rfl, _, rfl, by omega, by omega, for_range (lo := 0) (n := _) (fun i σ H' => ∃ x1 x2 x3 x4 x5 x6 x7 x8 x9 x10 x11 x12 x13 x14, σ = [some (.ref a), x1, x2, x3, x4, x5, x6, x7, x8, x9, x10, x11, x12, x13, x14] ∧ Same H H')
      ⟨none, none, none, none, none, none, none, none, none, none, none, none, none, none, rfl, Same.refl H⟩ ?_ ?_⟩
    rotate_left
    · rintro σ H1 ⟨x1, x2, x3, x4, x5, x6, x7, x8, x9, x10, x11, x12, x13, x14, rfl, s1⟩
      exact k _
    rintro i σ H1 hi ⟨x1, x2, x3, x4, x5, x6, x7, x8, x9, x10, x11, x12, x13, x14, rfl, s1⟩
    refine ⟨_, rfl, _, rfl, a, ns, _, rfl, s1.seq hS, by omega, by omega, fun p H2 np s2 hp => ?_⟩
    have hpn : H p = none := Same.free s1 np
    have sH := Same.trans s1 s2
    refine ⟨_, rfl, p, 2, rfl, hp, by decide, by decide, fun dv H3 d0 d1 o3 p3 => ⟨_, _, rfl, rfl, ?_⟩⟩
    refine ⟨_, rfl, _, rfl, p, 3, 1 + dv, rfl, p3, by decide, by decide, by omega, by omega, fun l H4 rl zl _ o4 p4 => ?_⟩
    have sH := Off.same hpn (Off.same hpn sH o3) o4
    refine ⟨_, rfl, _, rfl, l, rfl, rl, by omega, fun H5 s5 => ⟨_, _, rfl, rfl, sz_of' (by rw [len_S, len_S, RowM.turn_length]; omega), _, rfl, _, rfl, p, 6, 1 + dv, rfl, p4.same s5, by decide, by decide, by omega, by omega, fun l2 H6 rl2 zl2 _ o6 p6 => ⟨_, _, rfl, rfl, sz_of' (by rw [add_S, len_S, len_S, List.length_append, RowM.turn_length]; omega), _, _, rfl, rfl, sz_of' (by rw [add_S, add_S, len_S, List.length_append, List.length_append, RowM.turn_length]; show _ + 3 ≤ _; omega), ?_⟩⟩⟩
    rw [add_S, add_S, show Str.ofString "aAa" = S [97, 65, 97] from rfl, add_S]
    have sH := Off.same hpn (Same.trans sH s5) o6
    obtain ⟨t, et⟩ : ∃ t, t = l ++ RowM.turn l ++ l2 ++ [97, 65, 97] := ⟨_, rfl⟩
    have rt : Row t := et ▸ row_app (row_app (row_app rl (RowM.turn_row rl)) rl2) (by decide)
    have zt : t.length ≤ 15 ∧ 3 ≤ t.length := by
      rw [et, List.length_append, List.length_append, List.length_append, RowM.turn_length]
      show _ + 3 ≤ 15 ∧ 3 ≤ _ + 3
      omega
    obtain ⟨zt, zt3⟩ := zt
    rw [← et]
    clear et
    -- a step, and it bent
    refine ⟨_, rfl, _, rfl, p, t, rfl, p6, rt, by omega, fun q st H7 o7 p7 nq gq ok => ?_⟩
    have sH := Off.same hpn sH o7
    refine ⟨_, rfl, _, rfl, _, rfl, p, q, st, rfl, p7, gq, nq, ok, fun x o H8 o8 p8 tx aw => ⟨(by show 2 ≤ sizeLine; decide), fun R hR => ?_⟩⟩
    have sH := Off.same hpn sH o8
    have gq := o8 _ _ nq gq
    have sR := Same.new (o := .lst [.ref q, x]) hR
    have gR : (upd H8 R (.lst [.ref q, x])) R = some (.lst [.ref q, x]) := upd_same
    have tx := tx.same sR
    have p9 := p8.same sR
    have gq := sR _ _ gq
    have sH := Same.trans sH sR
    have nRp : R ≠ p := (p8.ne hR).symm
    generalize upd H8 R (.lst [.ref q, x]) = H9 at sH gR tx p9 gq ⊢
    obtain ⟨t2, et2, zt2⟩ := more_done (t := t) (a := 0) (m := 1) (by omega)
    have rt2 := doR_row rt et2
    have ok1 : (StepD.more 0 1).ok := ⟨by decide, by decide⟩
    have ex2 : doX t (some (.more 0 1)) = some t2 := (doX_short ok1 (by omega)).trans et2
    refine ⟨R, rfl, ⟨_, SqL.of gR⟩, for_list (K := K) (a := R) (xs := [.ref q, x]) (fun j σ H' => ∃ x7 x8 x9, σ = [some (.ref a), some (.int (0 + (i : Int))), some (.ref p), some (.int (1 + dv)), some (.str (S l)), some (.str (S t)), some (.ref q), x7, x8, x9, x10, x11, x12, x13, x14] ∧ Same H9 H' ∧ (j = 2 → x7 = some x))
      ⟨_, _, _, rfl, Same.refl _, fun h => nomatch h⟩ (fun _ σ H' _ ⟨_, _, _, _, s, _⟩ => s.seq (SqL.of gR)) ?_ ?_⟩
    · rintro j y σ H10 hy ⟨x7, x8, x9, rfl, s10, _⟩
      obtain ⟨o', ty⟩ : ∃ o', Thg H10 y o' := by
        have hm := List.mem_of_getElem? hy
        simp only [List.mem_cons, List.not_mem_nil, or_false] at hm
        rcases hm with rfl | rfl
        · exact ⟨_, thg_st ok.1 (s10 _ _ gq)⟩
        · exact ⟨_, tx.same s10⟩
      have hj : j + 1 = 2 → some y = some x := fun h => by
        have : j = 1 := by omega
        subst this
        exact hy.symm
      refine ⟨fun σ H' => σ = [some (.ref a), some (.int (0 + (i : Int))), some (.ref p), some (.int (1 + dv)), some (.str (S l)), some (.str (S t)), some (.ref q), some y, some (optS (doX t o')), x9, x10, x11, x12, x13, x14] ∧ Same H10 H', ?_, ?_⟩
      · refine ⟨_, rfl, y, o', rfl, ty, fun H11 s11 => ⟨_, rfl, ?_⟩⟩
        cases o' with
        | none => exact iteF ⟨rfl, s11⟩
        | some st' =>
          obtain ⟨p', rfl, gp, okp⟩ := thg_some (ty.same s11)
          refine iteT ⟨_, rfl, _, rfl, t, p', st', rfl, rt, by omega, gp, okp, fun H12 s12 => ⟨?_, Same.trans s11 s12⟩⟩
          rw [doX_short okp (by omega)]
          rfl
      rintro σ H11 ⟨rfl, s11⟩
      have ty := ty.same s11
      refine ⟨_, rfl, _, rfl, .str (S t), _, y, o', rfl, long_true rt (by omega), ty, fun d vs H12 s12 nd gd h1 _ => ?_⟩
      have h1 := h1 t rfl (decide_eq_true (by omega))
      subst h1
      have fl := toldX_fl rt [o']
      refine ⟨_, rfl, (by show 2 ≤ sizeLine; decide), fun A hA => ⟨(by show 2 ≤ sizeLine; decide), fun B hB => ⟨(by show 2 ≤ sizeLine; decide), fun C hC => ?_⟩⟩⟩
      obtain ⟨H13, P', e13, s13, gC, hat, gP⟩ := pick hA hB hC
      rw [← e13]
      rw [← toldX_p1] at gP
      refine ⟨_, rfl, rfl, .inr ⟨_, rfl, C, _, _, V.ref P', rfl, rfl, SqL.of gC, hat, ?_⟩⟩
      refine ⟨_, _, fl.dp (s13 _ _ gd), fl.dp gP, fl.2, fl.2, _, rfl, ?_⟩
      rw [eqv_selfS fl.2]
      refine iteF ?_
      have s1013 := Same.trans s11 (Same.trans s12 s13)
      have ty := ty.same (Same.trans s12 s13)
      clear e13 hA hB hC fl
      -- behind one more
      refine ⟨fun σ H' => σ = [some (.ref a), some (.int (0 + (i : Int))), some (.ref p), some (.int (1 + dv)), some (.str (S l)), some (.str (S t)), some (.ref q), some y, some (optS (doX t o')), some (optS (doX t2 o')), x10, x11, x12, x13, x14] ∧ Same H13 H', ?_, ?_⟩
      · refine ⟨_, rfl, y, o', rfl, ty, fun H14 s14 => ⟨_, rfl, ?_⟩⟩
        cases o' with
        | none => exact iteF ⟨rfl, s14⟩
        | some st' =>
          obtain ⟨p', rfl, gp, okp⟩ := thg_some (ty.same s14)
          refine iteT ⟨_, rfl, (by show 3 ≤ sizeLine; decide), fun e he => ?_⟩
          have se := Same.new (o := .tup [V.str (Str.ofString "more"), .int 0, .int 1]) he
          refine ⟨t, e, .more 0 1, rfl, rt, by omega, upd_same, ok1, fun H15 s15 => ?_⟩
          rw [et2]
          have s1415 := Same.trans se s15
          refine ⟨_, rfl, t2, p', st', rfl, rt2, by omega, s1415 _ _ gp, okp, fun H16 s16 => ⟨?_, Same.trans s14 (Same.trans s1415 s16)⟩⟩
          rw [doX_short (t := t2) okp (by omega)]
          rfl
      rintro σ H14 ⟨rfl, s14⟩
      have ty := ty.same s14
      refine ⟨_, rfl, (by show 3 ≤ sizeLine; decide), fun e he => ⟨_, rfl, (by show 2 ≤ sizeLine; decide), fun L hL => ?_⟩⟩
      have se := Same.new (o := .tup [V.str (Str.ofString "more"), .int 0, .int 1]) he
      have ge : (upd H14 e (.tup [V.str (Str.ofString "more"), .int 0, .int 1])) e = some (.tup (StepD.vals (.more 0 1))) := upd_same
      have sL := Same.new (o := .lst [V.ref e, y]) hL
      have s1415 := Same.trans se sL
      refine ⟨t, L, [.ref e, y], [some (.more 0 1), o'], rfl, rt, by omega, upd_same, ⟨thg_st ok1 (sL _ _ ge), ty.same s1415, trivial⟩, fun d H16 s16 nd gd => ?_⟩
      have fl := toldX_fl rt [some (.more 0 1), o']
      refine ⟨_, rfl, (by show 2 ≤ sizeLine; decide), fun A hA => ⟨(by show 2 ≤ sizeLine; decide), fun B hB => ⟨(by show 2 ≤ sizeLine; decide), fun C hC => ?_⟩⟩⟩
      obtain ⟨H17, P', e17, s17, gC, hat, gP⟩ := pick hA hB hC
      rw [← e17]
      rw [← toldX_p2 ex2] at gP
      refine ⟨_, rfl, rfl, .inr ⟨_, rfl, C, _, _, V.ref P', rfl, rfl, SqL.of gC, hat, ?_⟩⟩
      refine ⟨_, _, fl.dp (s17 _ _ gd), fl.dp gP, fl.2, fl.2, _, rfl, ?_⟩
      rw [eqv_selfS fl.2]
      exact iteF ⟨_, _, _, rfl, Same.trans s10 (Same.trans s1013 (Same.trans s14 (Same.trans s1415 (Same.trans s16 s17)))), hj⟩
    rintro σ H10 ⟨x7, x8, x9, rfl, s10, hx7⟩
    obtain rfl := hx7 rfl
    have sH := Same.trans sH s10
    have tx := tx.same s10
    have p10 := p9.same s10
    clear s10 hx7 gR gq
    -- long rows
    refine ⟨_, rfl, p, 12, rfl, p10, by decide, by decide, fun v H11 v0 v1 o11 p11 => ⟨_, _, rfl, rfl, ?_⟩⟩
    have sH := Off.same hpn sH o11
    have tx := tx.off p10 o11 aw
    obtain ⟨m, hm, m1, m2⟩ : ∃ m : Nat, (3990 : Int) + v = (m : Int) ∧ 3990 ≤ m ∧ m ≤ 4001 := ⟨(3990 + v).toNat, by omega, by omega, by omega⟩
    try dsimp only
    rw [hm]
    refine ⟨_, rfl, p, 6, rfl, p11, by decide, by decide, fun v2 H12 v20 v21 o12 p12 => ⟨_, _, rfl, rfl, ?_⟩⟩
    have sH := Off.same hpn sH o12
    have tx := tx.off p11 o12 aw
    obtain ⟨z, hz, z1, z2⟩ : ∃ z : Nat, (1 : Int) + v2 = (z : Int) ∧ 1 ≤ z ∧ z ≤ 6 := ⟨(1 + v2).toNat, by omega, by omega, by omega⟩
    try dsimp only
    rw [hz]
    refine ⟨_, rfl, p, 3, rfl, p12, by decide, by decide, fun v3 H13 v30 v31 o13 p13 => ?_⟩
    have sH := Off.same hpn sH o13
    have tx := tx.off p12 o13 aw
    obtain ⟨c, hc, ac⟩ : ∃ c ∈ sgns, atI (Str.ofString "abC").cps.toList v3 = some c := by
      have h : v3 = 0 ∨ v3 = 1 ∨ v3 = 2 := by omega
      rcases h with rfl | rfl | rfl
      · exact ⟨97, by decide, by decide⟩
      · exact ⟨98, by decide, by decide⟩
      · exact ⟨67, by decide, by decide⟩
    obtain ⟨mo, em⟩ := mul_many (l := [c]) (n := m) (by omega) (by omega) (by simp) (by simp)
    rw [flat_one] at em
    obtain ⟨U, eU⟩ : ∃ U, U = List.replicate m c := ⟨_, rfl⟩
    have zU : U.length = m := by rw [eU, List.length_replicate]
    have rU : Row U := fun d hd => by
      rw [eU] at hd
      rw [(List.mem_replicate.mp hd).2]
      exact hc
    rw [← eU] at em
    have mo : MulOk (⟨#[c]⟩ : Str) (m : Int) := mo
    have em : Txt.mul (⟨#[c]⟩ : Str) (m : Int) = S U := em
    clear eU
    refine ⟨_, v3, c, rfl, rfl, (by decide), ac, _, rfl, _, _, rfl, rfl, mo, ?_⟩
    rw [em]
    refine ⟨_, rfl, .str (S U), _, rfl, long_true rU (by omega), fun H14 s14 => ?_⟩
    refine ⟨_, rfl, _, _, _, _, true, rfl, .ty "bool", .base (.bl _), kit_ty (r := true) (by decide +kernel), true, rfl, iteF ⟨_, rfl, _, rfl, _, _, rfl, rfl, rfl, _, rfl, ?_⟩⟩
    refine iteNS (by rw [show decide (U.length ≤ 4000) = decide ((m : Int) ≤ 4000) from decide_eq_decide.mpr (by omega)]) ?_
    have sH := Same.trans sH s14
    have tx := tx.same s14
    have p14 := p13.same s14
    have okU : (StepD.more 7 z).ok := ⟨z1, Nat.zero_le _⟩
    obtain ⟨w, ew, zw⟩ := more_done (t := U) (a := 7) (m := z) (by omega)
    obtain ⟨due, edue⟩ : ∃ due : List V, due = if 4000 < m then rowV else toldX U [some (.more 7 z)] := ⟨_, rfl⟩
    have fdue : FlL due := by
      rw [edue]
      by_cases h : 4000 < m
      · rw [if_pos h]
        exact row_fl
      · rw [if_neg h]
        exact toldX_fl rU _
    refine ⟨(by show 2 ≤ sizeLine; decide), fun A hA => ?_⟩
    have sA := Same.new (o := .lst [V.str (Str.ofString "none"), .int 0]) hA
    have gA : (upd H14 A (.lst [V.str (Str.ofString "none"), .int 0])) A = some (.lst [V.str (Str.ofString "none"), .int 0]) := upd_same
    generalize upd H14 A (.lst [V.str (Str.ofString "none"), .int 0]) = H15 at sA gA ⊢
    refine ⟨fun σ H' => ∃ d : Addr, σ = [some (.ref a), some (.int (0 + (i : Int))), some (.ref p), some (.int (1 + dv)), some (.str (S l)), some (.str (S t)), some (.ref q), some x, some (.ref d), x9, some (.int (m : Int)), some (.int (z : Int)), some (.str (S U)), some (.bl (decide (U.length ≤ 4000))), x14] ∧ Same H15 H' ∧ H' d = some (.lst due), ?_, ?_⟩
    · refine ⟨_, rfl, _, _, rfl, rfl, _, rfl, ?_⟩
      by_cases h4 : 4000 < m
      · rw [decide_eq_true (by omega : (4000 : Int) < (m : Int))]
        rw [if_pos h4] at edue
        subst edue
        exact iteT ⟨(by show 2 ≤ sizeLine; decide), fun B hB => ⟨B, rfl, Same.new hB, upd_same⟩⟩
      rw [decide_eq_false (by omega : ¬ (4000 : Int) < (m : Int))]
      rw [if_neg h4, toldX_p1, doX_some ew] at edue
      refine iteF ⟨_, rfl, _, rfl, _, _, rfl, rfl, .inl ⟨by decide, by decide⟩, _, _, rfl, rfl, _, _, rfl, rfl, _, rfl, ?_⟩
      by_cases h5 : m + 2 * z ≤ 4000
      · rw [decide_eq_true (by omega : (m : Int) + 2 * (z : Int) ≤ 4000)]
        rw [if_pos (by omega)] at edue
        refine iteT ⟨_, rfl, _, rfl, (by show 3 ≤ sizeLine; decide), fun e he => ⟨U, e, .more 7 z, rfl, rU, by omega, upd_same, okU, fun H16 s16 => ⟨(by show 2 ≤ sizeLine; decide), fun B hB => ⟨B, rfl, Same.trans (Same.new he) (Same.trans s16 (Same.new hB)), ?_⟩⟩⟩⟩
        rw [upd_same, ew, edue]
        rfl
      · rw [decide_eq_false (by omega : ¬ (m : Int) + 2 * (z : Int) ≤ 4000)]
        rw [if_neg (by omega)] at edue
        subst edue
        exact iteF ⟨A, rfl, Same.refl _, gA⟩
    rintro σ H16 ⟨d, rfl, s16, gd⟩
    have sH := Same.trans sH (Same.trans sA s16)
    have tx := tx.same (Same.trans sA s16)
    have p16 := p14.same (Same.trans sA s16)
    refine ⟨_, rfl, _, rfl, (by show 3 ≤ sizeLine; decide), fun e he => ?_⟩
    have se := Same.new (o := .tup [V.str (Str.ofString "more"), .int 7, .int (z : Int)]) he
    refine ⟨.str (S U), _, .ref e, some (.more 7 z), rfl, long_true rU (by omega), thg_st okU upd_same, fun d2 vs H17 s17 nd2 gd2 h1 h2 => ?_⟩
    have evs : vs = due := by
      rw [edue]
      by_cases h4 : 4000 < m
      · rw [if_pos h4]
        exact h2 (decide_eq_false (by omega))
      · rw [if_neg h4]
        exact h1 U rfl (decide_eq_true (by omega))
    subst evs
    have s1617 := Same.trans se s17
    refine ⟨_, rfl, _, _, fdue.dp gd2, fdue.dp (s1617 _ _ gd), fdue.2, fdue.2, _, rfl, ?_⟩
    rw [eqv_selfS fdue.2]
    refine iteF ?_
    have sH := Same.trans sH s1617
    have tx := tx.same s1617
    have p17 := p16.same s1617
    -- no rows
    obtain ⟨mo2, em2⟩ := mul_many (l := [97, 65]) (n := 2001) (by decide) (by decide) (by decide) (by decide)
    have z2 := flat_len 2001 [97, 65]
    obtain ⟨W, eW⟩ : ∃ W, W = (List.replicate 2001 [97, 65]).flatten := ⟨_, rfl⟩
    rw [← eW] at em2 z2
    have z2 : W.length = 4002 := z2
    clear eW
    have mo2 : MulOk (Str.ofString "aA") 2001 := mo2
    have em2 : Txt.mul (Str.ofString "aA") 2001 = S W := em2
    refine ⟨(by show 1 ≤ sizeLine; decide), fun A2 hA2 => ⟨_, _, rfl, rfl, mo2, (by show 6 ≤ sizeLine; decide), fun B2 hB2 => ?_⟩⟩
    rw [em2]
    have sA2 := Same.new (o := .lst [V.str (Str.ofString "a")]) hA2
    have gA2 : (upd H17 A2 (.lst [V.str (Str.ofString "a")])) A2 = some (.lst [V.str (Str.ofString "a")]) := upd_same
    have p18 := p17.same sA2
    have nA2 : A2 ≠ p := (p17.ne hA2).symm
    generalize upd H17 A2 (.lst [V.str (Str.ofString "a")]) = H18 at sA2 gA2 p18 hB2 ⊢
    obtain ⟨ys, eys⟩ : ∃ ys : List V, ys = [.non, .str (Str.ofString "g"), .str (Str.ofString "a b"), .int 0, .ref A2, .str (S W)] := ⟨_, rfl⟩
    rw [← eys]
    have sB2 := Same.trans sA2 (Same.new (o := .lst ys) hB2)
    have gA2 := Same.new (o := .lst ys) hB2 _ _ gA2
    have gB2 : (upd H18 B2 (.lst ys)) B2 = some (.lst ys) := upd_same
    have p19 := p18.new (o := .lst ys) hB2
    have nB2 : B2 ≠ p := (p18.ne hB2).symm
    generalize upd H18 B2 (.lst ys) = H19 at sB2 gA2 gB2 p19 ⊢
    have sH := Same.trans sH sB2
    have tx := tx.same sB2
    refine ⟨_, rfl, p, 6, rfl, p19, by decide, by decide, fun v4 H20 v40 v41 o20 p20 => ?_⟩
    have sH := Off.same hpn sH o20
    have tx := tx.off p19 o20 aw
    obtain ⟨j4, rfl⟩ : ∃ j4 : Nat, v4 = (j4 : Int) := ⟨v4.toNat, by omega⟩
    have zy : ys.length = 6 := by rw [eys]; rfl
    obtain ⟨y, hy⟩ : ∃ y, ys[j4]? = some y := ⟨_, List.getElem?_eq_getElem (by omega)⟩
    have bad : ∀ H', Same H20 H' → IsRowW H' y 4000 false := fun H' s => by
      have hm := List.mem_of_getElem? hy
      rw [eys] at hm
      simp only [List.mem_cons, List.not_mem_nil, or_false] at hm
      rcases hm with rfl | rfl | rfl | rfl | rfl | rfl
      · exact .inr ⟨.inl rfl, rfl⟩
      · exact .inl ⟨[103], rfl, by decide, by decide⟩
      · exact .inl ⟨[97, 32, 98], rfl, by decide, by decide⟩
      · exact .inr ⟨.inr (.inl ⟨_, rfl⟩), rfl⟩
      · exact .inr ⟨.inr (.inr (.inr ⟨A2, rfl, .inl ⟨_, s _ _ (o20 _ _ nA2 gA2)⟩⟩)), rfl⟩
      · exact .inl ⟨W, rfl, by omega, by rw [z2]; rfl⟩
    refine ⟨B2, ys, (j4 : Int), y, rfl, rfl, SqL.of (o20 _ _ nB2 gB2), atI_nat hy, ?_⟩
    refine ⟨_, rfl, _, rfl, y, false, x, o, rfl, bad _ (Same.refl _), tx, fun d3 vs3 H21 s21 nd3 gd3 _ h3 => ⟨(by show 2 ≤ sizeLine; decide), fun E hE => ?_⟩⟩
    have h3 := h3 rfl
    subst h3
    have sE := Same.new (o := .lst rowV) hE
    refine ⟨_, _, row_fl.dp (sE _ _ gd3), row_fl.dp upd_same, row_fl.2, row_fl.2, _, rfl, ?_⟩
    rw [eqv_selfS row_fl.2]
    refine iteF ⟨_, rfl, y, false, rfl, bad _ (Same.trans s21 sE), fun H22 s22 => ⟨false, false, rfl, rfl, _, rfl, ?_⟩⟩
    exact iteF ⟨_, _, _, _, _, _, _, _, _, _, _, _, _, _, rfl, Same.trans sH (Same.trans s21 (Same.trans sE s22))⟩
end
theorem all_mk {l : PySem.W.OpenLaw} {w : World} {K : PySem.W.Frag} {h : Heap} {mg : Str → Option Value} {fa : Addr} (X : K.In h) (G : h.Ns mainGlobals mg) (hfa : mg "law" = some (.ref fa))
    {t_MOST_LONG : Tok}
    {t_SIGNS : Tok}
    {C_NoRow : Addr}
    {C_NoStep : Addr}
    {D_NUMBERS : Addr} {es_NUMBERS : Array DictEntry} {nn_NUMBERS : Nat}
    {te_NUMBERS_less : Tok}
    {te_NUMBERS_more : Tok}
    {te_NUMBERS_past : Tok}
    {D_STEPS : Addr} {es_STEPS : Array DictEntry} {nn_STEPS : Nat}
    {f_law_pool : Addr} {od_law_pool an_law_pool : Option Addr} {sl_law_pool : Array (Option Value)} {oc_law_pool kV_law_pool dc_law_pool pm_law_pool cd_law_pool ct_law_pool : Value}
    {f_law_take : Addr} {od_law_take an_law_take : Option Addr} {sl_law_take : Array (Option Value)} {oc_law_take kV_law_take dc_law_take pm_law_take cd_law_take ct_law_take : Value}
    {f_law_turned : Addr} {od_law_turned an_law_turned : Option Addr} {sl_law_turned : Array (Option Value)} {oc_law_turned kV_law_turned dc_law_turned pm_law_turned cd_law_turned ct_law_turned : Value}
    {f_law_row : Addr} {od_law_row an_law_row : Option Addr} {sl_law_row : Array (Option Value)} {oc_law_row kV_law_row dc_law_row pm_law_row cd_law_row ct_law_row : Value}
    {f_law_done : Addr} {od_law_done an_law_done : Option Addr} {sl_law_done : Array (Option Value)} {oc_law_done kV_law_done dc_law_done pm_law_done cd_law_done ct_law_done : Value}
    {f_law_step : Addr} {od_law_step an_law_step : Option Addr} {sl_law_step : Array (Option Value)} {oc_law_step kV_law_step dc_law_step pm_law_step cd_law_step ct_law_step : Value}
    {f_law_bent : Addr} {od_law_bent an_law_bent : Option Addr} {sl_law_bent : Array (Option Value)} {oc_law_bent kV_law_bent dc_law_bent pm_law_bent cd_law_bent ct_law_bent : Value}
    {f_law_formed : Addr} {od_law_formed an_law_formed : Option Addr} {sl_law_formed : Array (Option Value)} {oc_law_formed kV_law_formed dc_law_formed pm_law_formed cd_law_formed ct_law_formed : Value}
    {f_is_row_within : Addr} {od_is_row_within an_is_row_within : Option Addr} {sl_is_row_within : Array (Option Value)} {oc_is_row_within kV_is_row_within dc_is_row_within pm_is_row_within cd_is_row_within ct_is_row_within : Value}
    {f_is_long_row : Addr} {od_is_long_row an_is_long_row : Option Addr} {sl_is_long_row : Array (Option Value)} {oc_is_long_row kV_is_long_row dc_is_long_row pm_is_long_row cd_is_long_row ct_is_long_row : Value}
    {f_look_at_long_row : Addr} {od_look_at_long_row an_look_at_long_row : Option Addr} {sl_look_at_long_row : Array (Option Value)} {oc_look_at_long_row kV_look_at_long_row dc_look_at_long_row pm_look_at_long_row cd_look_at_long_row ct_look_at_long_row : Value}
    {f_part_of : Addr} {od_part_of an_part_of : Option Addr} {sl_part_of : Array (Option Value)} {oc_part_of kV_part_of dc_part_of pm_part_of cd_part_of ct_part_of : Value}
    {f_contrary_sign : Addr} {od_contrary_sign an_contrary_sign : Option Addr} {sl_contrary_sign : Array (Option Value)} {oc_contrary_sign kV_contrary_sign dc_contrary_sign pm_contrary_sign cd_contrary_sign ct_contrary_sign : Value}
    {f_turned : Addr} {od_turned an_turned : Option Addr} {sl_turned : Array (Option Value)} {oc_turned kV_turned dc_turned pm_turned cd_turned ct_turned : Value}
    {f_less_of : Addr} {od_less_of an_less_of : Option Addr} {sl_less_of : Array (Option Value)} {oc_less_of kV_less_of dc_less_of pm_less_of cd_less_of ct_less_of : Value}
    {f_more_of : Addr} {od_more_of an_more_of : Option Addr} {sl_more_of : Array (Option Value)} {oc_more_of kV_more_of dc_more_of pm_more_of cd_more_of ct_more_of : Value}
    {f_is_whole : Addr} {od_is_whole an_is_whole : Option Addr} {sl_is_whole : Array (Option Value)} {oc_is_whole kV_is_whole dc_is_whole pm_is_whole cd_is_whole ct_is_whole : Value}
    {f_is_formed : Addr} {od_is_formed an_is_formed : Option Addr} {sl_is_formed : Array (Option Value)} {oc_is_formed kV_is_formed dc_is_formed pm_is_formed cd_is_formed ct_is_formed : Value}
    {f_past_of : Addr} {od_past_of an_past_of : Option Addr} {sl_past_of : Array (Option Value)} {oc_past_of kV_past_of dc_past_of pm_past_of cd_past_of ct_past_of : Value}
    {f_done : Addr} {od_done an_done : Option Addr} {sl_done : Array (Option Value)} {oc_done kV_done dc_done pm_done cd_done ct_done : Value}
    {f_NoStep___init__ : Addr} {od_NoStep___init__ an_NoStep___init__ : Option Addr} {sl_NoStep___init__ : Array (Option Value)} {oc_NoStep___init__ kV_NoStep___init__ dc_NoStep___init__ pm_NoStep___init__ cd_NoStep___init__ ct_NoStep___init__ : Value}
    {f_led_on : Addr} {od_led_on an_led_on : Option Addr} {sl_led_on : Array (Option Value)} {oc_led_on kV_led_on dc_led_on pm_led_on cd_led_on ct_led_on : Value}
    {f_stepped : Addr} {od_stepped an_stepped : Option Addr} {sl_stepped : Array (Option Value)} {oc_stepped kV_stepped dc_stepped pm_stepped cd_stepped ct_stepped : Value}
    {f_law_told : Addr} {od_law_told an_law_told : Option Addr} {sl_law_told : Array (Option Value)} {oc_law_told kV_law_told dc_law_told pm_law_told cd_law_told ct_law_told : Value}
    {f_law_told_on : Addr} {od_law_told_on an_law_told_on : Option Addr} {sl_law_told_on : Array (Option Value)} {oc_law_told_on kV_law_told_on dc_law_told_on pm_law_told_on cd_law_told_on ct_law_told_on : Value}
    {f_law : Addr} {od_law an_law : Option Addr} {sl_law : Array (Option Value)} {oc_law kV_law dc_law pm_law cd_law ct_law : Value}
    (z_LookupError : PySem.W.nsIn K mainGlobals "LookupError" = some none)
    (z_ValueError : PySem.W.nsIn K mainGlobals "ValueError" = some none)
    (z_all : PySem.W.nsIn K mainGlobals "all" = some none)
    (z_bool : PySem.W.nsIn K mainGlobals "bool" = some none)
    (z_enumerate : PySem.W.nsIn K mainGlobals "enumerate" = some none)
    (z_int : PySem.W.nsIn K mainGlobals "int" = some none)
    (z_isinstance : PySem.W.nsIn K mainGlobals "isinstance" = some none)
    (z_len : PySem.W.nsIn K mainGlobals "len" = some none)
    (z_list : PySem.W.nsIn K mainGlobals "list" = some none)
    (z_max : PySem.W.nsIn K mainGlobals "max" = some none)
    (z_min : PySem.W.nsIn K mainGlobals "min" = some none)
    (z_range : PySem.W.nsIn K mainGlobals "range" = some none)
    (z_str : PySem.W.nsIn K mainGlobals "str" = some none)
    (z_tuple : PySem.W.nsIn K mainGlobals "tuple" = some none)
    (n_MOST_LONG : PySem.W.nsIn K mainGlobals "MOST_LONG" = some (some (.int 4000 t_MOST_LONG)))
    (n_SIGNS : PySem.W.nsIn K mainGlobals "SIGNS" = some (some (.str "aAbBcCdDeEfF" t_SIGNS)))
    (aC_NoRow : PySem.W.nsIn K mainGlobals "NoRow" = some (some (.ref C_NoRow)))
    (xC_NoRow : PySem.W.excIn K C_NoRow [.type "ValueError", .type "Exception", .type "BaseException", .type "object"] "ValueError.__new__" = true)
    (kC_NoRow : PySem.W.keepIn K (.ref C_NoRow) = true)
    (bC_NoRow : PySem.W.subIn K (.ref C_NoRow) (.type "BaseException") = some true)
    (tC_NoRow : PySem.W.typeIn K (.ref C_NoRow) = some (.type "type"))
    (iC_NoRow : PySem.W.isClsIn K C_NoRow = true)
    (sC_NoRow : PySem.W.subIn K (.ref C_NoRow) (.ref C_NoRow) = some true)
    (hg_NoRow : PySem.W.findIn K (.ref C_NoRow) "__getattribute__" = some (some (.builtin "BaseException.__getattribute__")))
    (hk_NoRow : PySem.W.findIn K (.ref C_NoRow) "__getattr__" = some none)
    (hd_NoRow : PySem.W.hasDictIn K C_NoRow = true)
    (ha_NoRow : PySem.W.findIn K (.ref C_NoRow) "__class__" = some (some (.builtin "object.__class__")))
    (hm_NoRow : PySem.W.mroIn K C_NoRow (.type "object") = some true)
    (aC_NoStep : PySem.W.nsIn K mainGlobals "NoStep" = some (some (.ref C_NoStep)))
    (xC_NoStep : PySem.W.excInitIn K C_NoStep [.type "LookupError", .type "Exception", .type "BaseException", .type "object"] "LookupError.__new__" = true)
    (kC_NoStep : PySem.W.keepIn K (.ref C_NoStep) = true)
    (bC_NoStep : PySem.W.subIn K (.ref C_NoStep) (.type "BaseException") = some true)
    (tC_NoStep : PySem.W.typeIn K (.ref C_NoStep) = some (.type "type"))
    (iC_NoStep : PySem.W.isClsIn K C_NoStep = true)
    (sC_NoStep : PySem.W.subIn K (.ref C_NoStep) (.ref C_NoStep) = some true)
    (hg_NoStep : PySem.W.findIn K (.ref C_NoStep) "__getattribute__" = some (some (.builtin "BaseException.__getattribute__")))
    (hk_NoStep : PySem.W.findIn K (.ref C_NoStep) "__getattr__" = some none)
    (hd_NoStep : PySem.W.hasDictIn K C_NoStep = true)
    (ha_NoStep : PySem.W.findIn K (.ref C_NoStep) "__class__" = some (some (.builtin "object.__class__")))
    (hm_NoStep : PySem.W.mroIn K C_NoStep (.type "object") = some true)
    (oC_NoStep : PySem.W.excOver K C_NoStep [.type "LookupError", .type "Exception", .type "BaseException", .type "object"] = true)
    (sa_NoStep : PySem.W.findIn K (.ref C_NoStep) "__setattr__" = some (some (.builtin "object.__setattr__")))
    (hn : PySem.W.specialIn K (.builtin "object.__class__") "__get__" = some (some (.builtin "getset_descriptor.__get__")))
    (ht : PySem.W.takesIn K (.builtin "object.__class__") = some true)
    (w_LookupError : PySem.W.findCls K (.type "LookupError") (.type "type") "__init__" = some (.val (.builtin "LookupError.__init__")))
    (y_NoStep_number : PySem.W.findIn K (.ref C_NoStep) "number" = some none)
    (f_n1 : PySem.W.subIn K (.ref C_NoStep) (.type "LookupError") = some true)
    (f_n2 : PySem.W.subIn K (.ref C_NoStep) (.type "KeyError") = some false)
    (f_n3 : PySem.W.subIn K (.ref C_NoStep) (.type "IndexError") = some false)
    (f_n4 : PySem.W.subIn K (.ref C_NoRow) (.type "ValueError") = some true)
    (f_n5 : PySem.W.subIn K (.ref C_NoRow) (.ref C_NoStep) = some false)
    (f_n6 : PySem.W.subIn K (.ref C_NoStep) (.ref C_NoRow) = some false)
    (a_law_pool : PySem.W.nsIn K mainGlobals "_law_pool" = some (some (.ref f_law_pool)))
    (l_law_pool : K.lookup f_law_pool = some ⟨oc_law_pool, od_law_pool, .func (PySem.W.fnOf "_law_pool" "_law_pool" (defArgs s_law_pool) (defBody s_law_pool) (defScope s_law_pool) .none kV_law_pool dc_law_pool pm_law_pool an_law_pool cd_law_pool ct_law_pool), sl_law_pool⟩)
    (c_law_pool : PySem.W.codeIn K cd_law_pool "_law_pool" = true)
    (k_law_pool : PySem.W.keepIn K (.ref f_law_pool) = true)
    (a_law_take : PySem.W.nsIn K mainGlobals "_law_take" = some (some (.ref f_law_take)))
    (l_law_take : K.lookup f_law_take = some ⟨oc_law_take, od_law_take, .func (PySem.W.fnOf "_law_take" "_law_take" (defArgs s_law_take) (defBody s_law_take) (defScope s_law_take) .none kV_law_take dc_law_take pm_law_take an_law_take cd_law_take ct_law_take), sl_law_take⟩)
    (c_law_take : PySem.W.codeIn K cd_law_take "_law_take" = true)
    (k_law_take : PySem.W.keepIn K (.ref f_law_take) = true)
    (a_law_turned : PySem.W.nsIn K mainGlobals "_law_turned" = some (some (.ref f_law_turned)))
    (l_law_turned : K.lookup f_law_turned = some ⟨oc_law_turned, od_law_turned, .func (PySem.W.fnOf "_law_turned" "_law_turned" (defArgs s_law_turned) (defBody s_law_turned) (defScope s_law_turned) .none kV_law_turned dc_law_turned pm_law_turned an_law_turned cd_law_turned ct_law_turned), sl_law_turned⟩)
    (c_law_turned : PySem.W.codeIn K cd_law_turned "_law_turned" = true)
    (k_law_turned : PySem.W.keepIn K (.ref f_law_turned) = true)
    (a_law_row : PySem.W.nsIn K mainGlobals "_law_row" = some (some (.ref f_law_row)))
    (l_law_row : K.lookup f_law_row = some ⟨oc_law_row, od_law_row, .func (PySem.W.fnOf "_law_row" "_law_row" (defArgs s_law_row) (defBody s_law_row) (defScope s_law_row) .none kV_law_row dc_law_row pm_law_row an_law_row cd_law_row ct_law_row), sl_law_row⟩)
    (c_law_row : PySem.W.codeIn K cd_law_row "_law_row" = true)
    (k_law_row : PySem.W.keepIn K (.ref f_law_row) = true)
    (a_law_done : PySem.W.nsIn K mainGlobals "_law_done" = some (some (.ref f_law_done)))
    (l_law_done : K.lookup f_law_done = some ⟨oc_law_done, od_law_done, .func (PySem.W.fnOf "_law_done" "_law_done" (defArgs s_law_done) (defBody s_law_done) (defScope s_law_done) .none kV_law_done dc_law_done pm_law_done an_law_done cd_law_done ct_law_done), sl_law_done⟩)
    (c_law_done : PySem.W.codeIn K cd_law_done "_law_done" = true)
    (k_law_done : PySem.W.keepIn K (.ref f_law_done) = true)
    (a_law_step : PySem.W.nsIn K mainGlobals "_law_step" = some (some (.ref f_law_step)))
    (l_law_step : K.lookup f_law_step = some ⟨oc_law_step, od_law_step, .func (PySem.W.fnOf "_law_step" "_law_step" (defArgs s_law_step) (defBody s_law_step) (defScope s_law_step) .none kV_law_step dc_law_step pm_law_step an_law_step cd_law_step ct_law_step), sl_law_step⟩)
    (c_law_step : PySem.W.codeIn K cd_law_step "_law_step" = true)
    (k_law_step : PySem.W.keepIn K (.ref f_law_step) = true)
    (a_law_bent : PySem.W.nsIn K mainGlobals "_law_bent" = some (some (.ref f_law_bent)))
    (l_law_bent : K.lookup f_law_bent = some ⟨oc_law_bent, od_law_bent, .func (PySem.W.fnOf "_law_bent" "_law_bent" (defArgs s_law_bent) (defBody s_law_bent) (defScope s_law_bent) .none kV_law_bent dc_law_bent pm_law_bent an_law_bent cd_law_bent ct_law_bent), sl_law_bent⟩)
    (c_law_bent : PySem.W.codeIn K cd_law_bent "_law_bent" = true)
    (k_law_bent : PySem.W.keepIn K (.ref f_law_bent) = true)
    (a_law_formed : PySem.W.nsIn K mainGlobals "_law_formed" = some (some (.ref f_law_formed)))
    (l_law_formed : K.lookup f_law_formed = some ⟨oc_law_formed, od_law_formed, .func (PySem.W.fnOf "_law_formed" "_law_formed" (defArgs s_law_formed) (defBody s_law_formed) (defScope s_law_formed) .none kV_law_formed dc_law_formed pm_law_formed an_law_formed cd_law_formed ct_law_formed), sl_law_formed⟩)
    (c_law_formed : PySem.W.codeIn K cd_law_formed "_law_formed" = true)
    (k_law_formed : PySem.W.keepIn K (.ref f_law_formed) = true)
    (a_is_row_within : PySem.W.nsIn K mainGlobals "is_row_within" = some (some (.ref f_is_row_within)))
    (l_is_row_within : K.lookup f_is_row_within = some ⟨oc_is_row_within, od_is_row_within, .func (PySem.W.fnOf "is_row_within" "is_row_within" (defArgs s_is_row_within) (defBody s_is_row_within) (defScope s_is_row_within) .none kV_is_row_within dc_is_row_within pm_is_row_within an_is_row_within cd_is_row_within ct_is_row_within), sl_is_row_within⟩)
    (c_is_row_within : PySem.W.codeIn K cd_is_row_within "is_row_within" = true)
    (k_is_row_within : PySem.W.keepIn K (.ref f_is_row_within) = true)
    (a_is_long_row : PySem.W.nsIn K mainGlobals "is_long_row" = some (some (.ref f_is_long_row)))
    (l_is_long_row : K.lookup f_is_long_row = some ⟨oc_is_long_row, od_is_long_row, .func (PySem.W.fnOf "is_long_row" "is_long_row" (defArgs s_is_long_row) (defBody s_is_long_row) (defScope s_is_long_row) .none kV_is_long_row dc_is_long_row pm_is_long_row an_is_long_row cd_is_long_row ct_is_long_row), sl_is_long_row⟩)
    (c_is_long_row : PySem.W.codeIn K cd_is_long_row "is_long_row" = true)
    (k_is_long_row : PySem.W.keepIn K (.ref f_is_long_row) = true)
    (a_look_at_long_row : PySem.W.nsIn K mainGlobals "look_at_long_row" = some (some (.ref f_look_at_long_row)))
    (l_look_at_long_row : K.lookup f_look_at_long_row = some ⟨oc_look_at_long_row, od_look_at_long_row, .func (PySem.W.fnOf "look_at_long_row" "look_at_long_row" (defArgs s_look_at_long_row) (defBody s_look_at_long_row) (defScope s_look_at_long_row) .none kV_look_at_long_row dc_look_at_long_row pm_look_at_long_row an_look_at_long_row cd_look_at_long_row ct_look_at_long_row), sl_look_at_long_row⟩)
    (c_look_at_long_row : PySem.W.codeIn K cd_look_at_long_row "look_at_long_row" = true)
    (k_look_at_long_row : PySem.W.keepIn K (.ref f_look_at_long_row) = true)
    (a_part_of : PySem.W.nsIn K mainGlobals "part_of" = some (some (.ref f_part_of)))
    (l_part_of : K.lookup f_part_of = some ⟨oc_part_of, od_part_of, .func (PySem.W.fnOf "part_of" "part_of" (defArgs s_part_of) (defBody s_part_of) (defScope s_part_of) .none kV_part_of dc_part_of pm_part_of an_part_of cd_part_of ct_part_of), sl_part_of⟩)
    (c_part_of : PySem.W.codeIn K cd_part_of "part_of" = true)
    (k_part_of : PySem.W.keepIn K (.ref f_part_of) = true)
    (a_contrary_sign : PySem.W.nsIn K mainGlobals "contrary_sign" = some (some (.ref f_contrary_sign)))
    (l_contrary_sign : K.lookup f_contrary_sign = some ⟨oc_contrary_sign, od_contrary_sign, .func (PySem.W.fnOf "contrary_sign" "contrary_sign" (defArgs s_contrary_sign) (defBody s_contrary_sign) (defScope s_contrary_sign) .none kV_contrary_sign dc_contrary_sign pm_contrary_sign an_contrary_sign cd_contrary_sign ct_contrary_sign), sl_contrary_sign⟩)
    (c_contrary_sign : PySem.W.codeIn K cd_contrary_sign "contrary_sign" = true)
    (k_contrary_sign : PySem.W.keepIn K (.ref f_contrary_sign) = true)
    (a_turned : PySem.W.nsIn K mainGlobals "turned" = some (some (.ref f_turned)))
    (l_turned : K.lookup f_turned = some ⟨oc_turned, od_turned, .func (PySem.W.fnOf "turned" "turned" (defArgs s_turned) (defBody s_turned) (defScope s_turned) .none kV_turned dc_turned pm_turned an_turned cd_turned ct_turned), sl_turned⟩)
    (c_turned : PySem.W.codeIn K cd_turned "turned" = true)
    (k_turned : PySem.W.keepIn K (.ref f_turned) = true)
    (a_less_of : PySem.W.nsIn K mainGlobals "less_of" = some (some (.ref f_less_of)))
    (l_less_of : K.lookup f_less_of = some ⟨oc_less_of, od_less_of, .func (PySem.W.fnOf "less_of" "less_of" (defArgs s_less_of) (defBody s_less_of) (defScope s_less_of) .none kV_less_of dc_less_of pm_less_of an_less_of cd_less_of ct_less_of), sl_less_of⟩)
    (c_less_of : PySem.W.codeIn K cd_less_of "less_of" = true)
    (k_less_of : PySem.W.keepIn K (.ref f_less_of) = true)
    (a_more_of : PySem.W.nsIn K mainGlobals "more_of" = some (some (.ref f_more_of)))
    (l_more_of : K.lookup f_more_of = some ⟨oc_more_of, od_more_of, .func (PySem.W.fnOf "more_of" "more_of" (defArgs s_more_of) (defBody s_more_of) (defScope s_more_of) .none kV_more_of dc_more_of pm_more_of an_more_of cd_more_of ct_more_of), sl_more_of⟩)
    (c_more_of : PySem.W.codeIn K cd_more_of "more_of" = true)
    (k_more_of : PySem.W.keepIn K (.ref f_more_of) = true)
    (a_is_whole : PySem.W.nsIn K mainGlobals "is_whole" = some (some (.ref f_is_whole)))
    (l_is_whole : K.lookup f_is_whole = some ⟨oc_is_whole, od_is_whole, .func (PySem.W.fnOf "is_whole" "is_whole" (defArgs s_is_whole) (defBody s_is_whole) (defScope s_is_whole) .none kV_is_whole dc_is_whole pm_is_whole an_is_whole cd_is_whole ct_is_whole), sl_is_whole⟩)
    (c_is_whole : PySem.W.codeIn K cd_is_whole "is_whole" = true)
    (k_is_whole : PySem.W.keepIn K (.ref f_is_whole) = true)
    (a_is_formed : PySem.W.nsIn K mainGlobals "is_formed" = some (some (.ref f_is_formed)))
    (l_is_formed : K.lookup f_is_formed = some ⟨oc_is_formed, od_is_formed, .func (PySem.W.fnOf "is_formed" "is_formed" (defArgs s_is_formed) (defBody s_is_formed) (defScope s_is_formed) .none kV_is_formed dc_is_formed pm_is_formed an_is_formed cd_is_formed ct_is_formed), sl_is_formed⟩)
    (c_is_formed : PySem.W.codeIn K cd_is_formed "is_formed" = true)
    (k_is_formed : PySem.W.keepIn K (.ref f_is_formed) = true)
    (a_past_of : PySem.W.nsIn K mainGlobals "past_of" = some (some (.ref f_past_of)))
    (l_past_of : K.lookup f_past_of = some ⟨oc_past_of, od_past_of, .func (PySem.W.fnOf "past_of" "past_of" (defArgs s_past_of) (defBody s_past_of) (defScope s_past_of) .none kV_past_of dc_past_of pm_past_of an_past_of cd_past_of ct_past_of), sl_past_of⟩)
    (c_past_of : PySem.W.codeIn K cd_past_of "past_of" = true)
    (k_past_of : PySem.W.keepIn K (.ref f_past_of) = true)
    (a_done : PySem.W.nsIn K mainGlobals "done" = some (some (.ref f_done)))
    (l_done : K.lookup f_done = some ⟨oc_done, od_done, .func (PySem.W.fnOf "done" "done" (defArgs s_done) (defBody s_done) (defScope s_done) .none kV_done dc_done pm_done an_done cd_done ct_done), sl_done⟩)
    (c_done : PySem.W.codeIn K cd_done "done" = true)
    (k_done : PySem.W.keepIn K (.ref f_done) = true)
    (a_NoStep___init__ : PySem.W.findIn K (.ref C_NoStep) "__init__" = some (some (.ref f_NoStep___init__)))
    (l_NoStep___init__ : K.lookup f_NoStep___init__ = some ⟨oc_NoStep___init__, od_NoStep___init__, .func (PySem.W.fnOf "__init__" "NoStep.__init__" (defArgs s_NoStep___init__) (defBody s_NoStep___init__) (defScope s_NoStep___init__) .none kV_NoStep___init__ dc_NoStep___init__ pm_NoStep___init__ an_NoStep___init__ cd_NoStep___init__ ct_NoStep___init__), sl_NoStep___init__⟩)
    (c_NoStep___init__ : PySem.W.codeIn K cd_NoStep___init__ "NoStep.__init__" = true)
    (k_NoStep___init__ : PySem.W.keepIn K (.ref f_NoStep___init__) = true)
    (u_NoStep___init__ : PySem.W.typeIn K (.ref f_NoStep___init__) = some (.type "function"))
    (fn_NoStep___init__ : PySem.W.isFn K (.ref f_NoStep___init__) = true)
    (a_led_on : PySem.W.nsIn K mainGlobals "led_on" = some (some (.ref f_led_on)))
    (l_led_on : K.lookup f_led_on = some ⟨oc_led_on, od_led_on, .func (PySem.W.fnOf "led_on" "led_on" (defArgs s_led_on) (defBody s_led_on) (defScope s_led_on) .none kV_led_on dc_led_on pm_led_on an_led_on cd_led_on ct_led_on), sl_led_on⟩)
    (c_led_on : PySem.W.codeIn K cd_led_on "led_on" = true)
    (k_led_on : PySem.W.keepIn K (.ref f_led_on) = true)
    (a_stepped : PySem.W.nsIn K mainGlobals "stepped" = some (some (.ref f_stepped)))
    (l_stepped : K.lookup f_stepped = some ⟨oc_stepped, od_stepped, .func (PySem.W.fnOf "stepped" "stepped" (defArgs s_stepped) (defBody s_stepped) (defScope s_stepped) .none kV_stepped dc_stepped pm_stepped an_stepped cd_stepped ct_stepped), sl_stepped⟩)
    (c_stepped : PySem.W.codeIn K cd_stepped "stepped" = true)
    (k_stepped : PySem.W.keepIn K (.ref f_stepped) = true)
    (a_law_told : PySem.W.nsIn K mainGlobals "_law_told" = some (some (.ref f_law_told)))
    (l_law_told : K.lookup f_law_told = some ⟨oc_law_told, od_law_told, .func (PySem.W.fnOf "_law_told" "_law_told" (defArgs s_law_told) (defBody s_law_told) (defScope s_law_told) .none kV_law_told dc_law_told pm_law_told an_law_told cd_law_told ct_law_told), sl_law_told⟩)
    (c_law_told : PySem.W.codeIn K cd_law_told "_law_told" = true)
    (k_law_told : PySem.W.keepIn K (.ref f_law_told) = true)
    (a_law_told_on : PySem.W.nsIn K mainGlobals "_law_told_on" = some (some (.ref f_law_told_on)))
    (l_law_told_on : K.lookup f_law_told_on = some ⟨oc_law_told_on, od_law_told_on, .func (PySem.W.fnOf "_law_told_on" "_law_told_on" (defArgs s_law_told_on) (defBody s_law_told_on) (defScope s_law_told_on) .none kV_law_told_on dc_law_told_on pm_law_told_on an_law_told_on cd_law_told_on ct_law_told_on), sl_law_told_on⟩)
    (c_law_told_on : PySem.W.codeIn K cd_law_told_on "_law_told_on" = true)
    (k_law_told_on : PySem.W.keepIn K (.ref f_law_told_on) = true)
    (a_law : PySem.W.nsIn K mainGlobals "law" = some (some (.ref f_law)))
    (l_law : K.lookup f_law = some ⟨oc_law, od_law, .func (PySem.W.fnOf "law" "law" (defArgs s_law) (defBody s_law) (defScope s_law) .none kV_law dc_law pm_law an_law cd_law ct_law), sl_law⟩)
    (c_law : PySem.W.codeIn K cd_law "law" = true)
    (k_law : PySem.W.keepIn K (.ref f_law) = true)
    (ad_NUMBERS : PySem.W.nsIn K mainGlobals "NUMBERS" = some (some (.ref D_NUMBERS)))
    (ld_NUMBERS : K.lookup D_NUMBERS = some ⟨.type "dict", none, .dict es_NUMBERS nn_NUMBERS, #[]⟩)
    (kl_NUMBERS : PySem.W.KeysLit w.params es_NUMBERS.toList)
    (sm_NUMBERS : (D_NUMBERS == sysModules) = false)
    (e_NUMBERS_less : PySem.W.nsIn K D_NUMBERS "less" = some (some (.int 2 te_NUMBERS_less)))
    (e_NUMBERS_more : PySem.W.nsIn K D_NUMBERS "more" = some (some (.int 2 te_NUMBERS_more)))
    (e_NUMBERS_past : PySem.W.nsIn K D_NUMBERS "past" = some (some (.int 3 te_NUMBERS_past)))
    (ad_STEPS : PySem.W.nsIn K mainGlobals "STEPS" = some (some (.ref D_STEPS)))
    (ld_STEPS : K.lookup D_STEPS = some ⟨.type "dict", none, .dict es_STEPS nn_STEPS, #[]⟩)
    (kl_STEPS : PySem.W.KeysLit w.params es_STEPS.toList)
    (sm_STEPS : (D_STEPS == sysModules) = false)
    (e_STEPS_less : PySem.W.nsIn K D_STEPS "less" = some (some (.ref f_less_of)))
    (e_STEPS_more : PySem.W.nsIn K D_STEPS "more" = some (some (.ref f_more_of)))
    (e_STEPS_past : PySem.W.nsIn K D_STEPS "past" = some (some (.ref f_past_of)))
    (f_z0 : PySem.W.nsIn K D_NUMBERS "Less" = some none)
    (f_z1 : PySem.W.nsIn K D_NUMBERS "lesser" = some none)
    (f_z2 : PySem.W.nsIn K D_NUMBERS "" = some none)
    (f_z3 : PySem.W.nsIn K D_NUMBERS "pass" = some none)
    (f_z4 : PySem.W.nsIn K D_NUMBERS "1" = some none) :
    ∃ fd : FuncData, (∀ (s : Shared) (v : Value), BindsTo s fd ⟨[v], []⟩ [("_law_script", v)]) ∧ ∀ base : Heap, K.In base → base.Ns mainGlobals mg → FnOk l.prog w K mg base CX0 8 fa fd ["_law_script"] (sp_law K) := by
  have e := hfa.symm.trans (PySem.W.mg_of X G a_law)
  cases e
  have T : Txt K mg w D_NUMBERS D_STEPS C_NoRow C_NoStep := ⟨PySem.W.mg_none_of X G z_LookupError, PySem.W.mg_none_of X G z_ValueError, PySem.W.mg_none_of X G z_all, PySem.W.mg_none_of X G z_bool, PySem.W.mg_none_of X G z_enumerate, PySem.W.mg_none_of X G z_int, PySem.W.mg_none_of X G z_isinstance, PySem.W.mg_none_of X G z_len, PySem.W.mg_none_of X G z_list, PySem.W.mg_none_of X G z_max, PySem.W.mg_none_of X G z_min, PySem.W.mg_none_of X G z_range, PySem.W.mg_none_of X G z_str, PySem.W.mg_none_of X G z_tuple, ⟨_, PySem.W.mg_of X G n_MOST_LONG, ⟨_, rfl⟩⟩, ⟨_, PySem.W.mg_of X G n_SIGNS, ⟨_, rfl⟩⟩, w_LookupError, y_NoStep_number, ⟨PySem.W.mg_of X G aC_NoRow, xC_NoRow, kC_NoRow, bC_NoRow, tC_NoRow, iC_NoRow, sC_NoRow, ⟨hg_NoRow, hk_NoRow, bC_NoRow, hd_NoRow, ha_NoRow, hn, ht, hm_NoRow⟩⟩, ⟨PySem.W.mg_of X G aC_NoStep, ⟨PySem.XB0.XB.of PySem.F.excBase_LookupError, PySem.F.store_LookupError, xC_NoStep, oC_NoStep, hd_NoStep, sa_NoStep, bC_NoStep, tC_NoStep, kC_NoStep⟩, iC_NoStep, sC_NoStep, ⟨hg_NoStep, hk_NoStep, bC_NoStep, hd_NoStep, ha_NoStep, hn, ht, hm_NoStep⟩, ⟨hg_NoStep, hk_NoStep, bC_NoStep, hd_NoStep⟩⟩, ⟨PySem.W.mg_of X G ad_NUMBERS, ⟨es_NUMBERS, nn_NUMBERS, ⟨ld_NUMBERS, kl_NUMBERS, sm_NUMBERS⟩⟩⟩, ⟨_, e_NUMBERS_less⟩, ⟨_, e_NUMBERS_more⟩, ⟨_, e_NUMBERS_past⟩, ⟨PySem.W.mg_of X G ad_STEPS, ⟨es_STEPS, nn_STEPS, ⟨ld_STEPS, kl_STEPS, sm_STEPS⟩⟩⟩, ⟨_, PySem.W.mg_of X G a_less_of, e_STEPS_less⟩, ⟨_, PySem.W.mg_of X G a_more_of, e_STEPS_more⟩, ⟨_, PySem.W.mg_of X G a_past_of, e_STEPS_past⟩, f_n1, f_n2, f_n3, f_z0, f_z1, f_z2, f_z3, f_z4, f_n4, f_n5, f_n6⟩
  have F_law_pool := fun_mk (st := s_law_pool) l_law_pool c_law_pool k_law_pool
  have b_law_pool := F_law_pool.binds (ps := ["_law_script", "_law_k"]) fun _ _ _ _ _ _ us hl => match us, hl with | [_, _], _ => rfl
  have F_law_take := fun_mk (st := s_law_take) l_law_take c_law_take k_law_take
  have b_law_take := F_law_take.binds (ps := ["_law_pool_here", "_law_many"]) fun _ _ _ _ _ _ us hl => match us, hl with | [_, _], _ => rfl
  have F_law_turned := fun_mk (st := s_law_turned) l_law_turned c_law_turned k_law_turned
  have b_law_turned := F_law_turned.binds (ps := ["_law_text"]) fun _ _ _ _ _ _ us hl => match us, hl with | [_], _ => rfl
  have F_law_row := fun_mk (st := s_law_row) l_law_row c_law_row k_law_row
  have b_law_row := F_law_row.binds (ps := ["_law_pool_here", "_law_most", "_law_deeds"]) fun _ _ _ _ _ _ us hl => match us, hl with | [_, _, _], _ => rfl
  have F_law_done := fun_mk (st := s_law_done) l_law_done c_law_done k_law_done
  have b_law_done := F_law_done.binds (ps := ["_law_text", "_law_step_here"]) fun _ _ _ _ _ _ us hl => match us, hl with | [_, _], _ => rfl
  have F_law_step := fun_mk (st := s_law_step) l_law_step c_law_step k_law_step
  have b_law_step := F_law_step.binds (ps := ["_law_pool_here", "_law_text"]) fun _ _ _ _ _ _ us hl => match us, hl with | [_, _], _ => rfl
  have F_law_bent := fun_mk (st := s_law_bent) l_law_bent c_law_bent k_law_bent
  have b_law_bent := F_law_bent.binds (ps := ["_law_pool_here", "_law_step_here"]) fun _ _ _ _ _ _ us hl => match us, hl with | [_, _], _ => rfl
  have F_law_formed := fun_mk (st := s_law_formed) l_law_formed c_law_formed k_law_formed
  have b_law_formed := F_law_formed.binds (ps := ["_law_step_here"]) fun _ _ _ _ _ _ us hl => match us, hl with | [_], _ => rfl
  have F_is_row_within := fun_mk (st := s_is_row_within) l_is_row_within c_is_row_within k_is_row_within
  have b_is_row_within := F_is_row_within.binds (ps := ["thing", "most"]) fun _ _ _ _ _ _ us hl => match us, hl with | [_, _], _ => rfl
  have F_is_long_row := fun_mk (st := s_is_long_row) l_is_long_row c_is_long_row k_is_long_row
  have b_is_long_row := F_is_long_row.binds (ps := ["thing"]) fun _ _ _ _ _ _ us hl => match us, hl with | [_], _ => rfl
  have F_look_at_long_row := fun_mk (st := s_look_at_long_row) l_look_at_long_row c_look_at_long_row k_look_at_long_row
  have b_look_at_long_row := F_look_at_long_row.binds (ps := ["thing"]) fun _ _ _ _ _ _ us hl => match us, hl with | [_], _ => rfl
  have F_part_of := fun_mk (st := s_part_of) l_part_of c_part_of k_part_of
  have b_part_of := F_part_of.binds (ps := ["text", "at", "many"]) fun _ _ _ _ _ _ us hl => match us, hl with | [_, _, _], _ => rfl
  have F_contrary_sign := fun_mk (st := s_contrary_sign) l_contrary_sign c_contrary_sign k_contrary_sign
  have b_contrary_sign := F_contrary_sign.binds (ps := ["sign"]) fun _ _ _ _ _ _ us hl => match us, hl with | [_], _ => rfl
  have F_turned := fun_mk (st := s_turned) l_turned c_turned k_turned
  have b_turned := F_turned.binds (ps := ["text"]) fun _ _ _ _ _ _ us hl => match us, hl with | [_], _ => rfl
  have F_less_of := fun_mk (st := s_less_of) l_less_of c_less_of k_less_of
  have b_less_of := F_less_of.binds (ps := ["text", "at", "many"]) fun _ _ _ _ _ _ us hl => match us, hl with | [_, _, _], _ => rfl
  have F_more_of := fun_mk (st := s_more_of) l_more_of c_more_of k_more_of
  have b_more_of := F_more_of.binds (ps := ["text", "at", "many"]) fun _ _ _ _ _ _ us hl => match us, hl with | [_, _, _], _ => rfl
  have F_is_whole := fun_mk (st := s_is_whole) l_is_whole c_is_whole k_is_whole
  have b_is_whole := F_is_whole.binds (ps := ["thing"]) fun _ _ _ _ _ _ us hl => match us, hl with | [_], _ => rfl
  have F_is_formed := fun_mk (st := s_is_formed) l_is_formed c_is_formed k_is_formed
  have b_is_formed := F_is_formed.binds (ps := ["step"]) fun _ _ _ _ _ _ us hl => match us, hl with | [_], _ => rfl
  have F_past_of := fun_mk (st := s_past_of) l_past_of c_past_of k_past_of
  have b_past_of := F_past_of.binds (ps := ["text", "at", "many", "more"]) fun _ _ _ _ _ _ us hl => match us, hl with | [_, _, _, _], _ => rfl
  have F_done := fun_mk (st := s_done) l_done c_done k_done
  have b_done := F_done.binds (ps := ["text", "step"]) fun _ _ _ _ _ _ us hl => match us, hl with | [_, _], _ => rfl
  have F_NoStep___init__ := fun_mk (st := s_NoStep___init__) l_NoStep___init__ c_NoStep___init__ k_NoStep___init__
  have b_NoStep___init__ := F_NoStep___init__.binds (ps := ["self", "number"]) fun _ _ _ _ _ _ us hl => match us, hl with | [_, _], _ => rfl
  have F_led_on := fun_mk (st := s_led_on) l_led_on c_led_on k_led_on
  have b_led_on := F_led_on.binds (ps := ["row", "steps"]) fun _ _ _ _ _ _ us hl => match us, hl with | [_, _], _ => rfl
  have F_stepped := fun_mk (st := s_stepped) l_stepped c_stepped k_stepped
  have b_stepped := F_stepped.binds (ps := ["row", "step"]) fun _ _ _ _ _ _ us hl => match us, hl with | [_, _], _ => rfl
  have F_law_told := fun_mk (st := s_law_told) l_law_told c_law_told k_law_told
  have b_law_told := F_law_told.binds (ps := ["_law_row_here", "_law_step_here"]) fun _ _ _ _ _ _ us hl => match us, hl with | [_, _], _ => rfl
  have F_law_told_on := fun_mk (st := s_law_told_on) l_law_told_on c_law_told_on k_law_told_on
  have b_law_told_on := F_law_told_on.binds (ps := ["_law_row_here", "_law_steps"]) fun _ _ _ _ _ _ us hl => match us, hl with | [_, _], _ => rfl
  have F_law := fun_mk (st := s_law) l_law c_law k_law
  refine ⟨PySem.W.fnOf "law" "law" (defArgs s_law) (defBody s_law) (defScope s_law) .none kV_law dc_law pm_law an_law cd_law ct_law, fun s v => .of_eq rfl, fun base _ _ => ?_⟩
  have N_law_pool : KN l.prog w K mg base CX0 1 ["_law_script", "_law_k"] (sp_law_pool K) "_law_pool" [] := ⟨_, _, [], PySem.W.mg_of X G a_law_pool, k_law_pool, .nil, b_law_pool, ok_law_pool F_law_pool T⟩
  have N_law_take : KN l.prog w K mg base CX0 1 ["_law_pool_here", "_law_many"] (sp_law_take) "_law_take" [] := ⟨_, _, [], PySem.W.mg_of X G a_law_take, k_law_take, .nil, b_law_take, ok_law_take F_law_take T⟩
  have N_law_turned : KN l.prog w K mg base CX0 1 ["_law_text"] (sp_law_turned) "_law_turned" [] := ⟨_, _, [], PySem.W.mg_of X G a_law_turned, k_law_turned, .nil, b_law_turned, ok_law_turned F_law_turned T⟩
  have N_law_row : KN l.prog w K mg base CX0 2 ["_law_pool_here", "_law_most", "_law_deeds"] (sp_law_row) "_law_row" [] := ⟨_, _, [], PySem.W.mg_of X G a_law_row, k_law_row, .nil, b_law_row, ok_law_row F_law_row T N_law_take N_law_turned⟩
  have N_law_done : KN l.prog w K mg base CX0 2 ["_law_text", "_law_step_here"] (sp_law_done K) "_law_done" [] := ⟨_, _, [], PySem.W.mg_of X G a_law_done, k_law_done, .nil, b_law_done, ok_law_done F_law_done T N_law_turned⟩
  have N_law_step : KN l.prog w K mg base CX0 3 ["_law_pool_here", "_law_text"] (sp_law_step K) "_law_step" [] := ⟨_, _, [], PySem.W.mg_of X G a_law_step, k_law_step, .nil, b_law_step, ok_law_step F_law_step T N_law_take N_law_done⟩
  have N_law_bent : KN l.prog w K mg base CX0 2 ["_law_pool_here", "_law_step_here"] (sp_law_bent K) "_law_bent" [] := ⟨_, _, [], PySem.W.mg_of X G a_law_bent, k_law_bent, .nil, b_law_bent, ok_law_bent F_law_bent T N_law_take⟩
  have N_law_formed : KN l.prog w K mg base CX0 1 ["_law_step_here"] (sp_law_formed K) "_law_formed" [] := ⟨_, _, [], PySem.W.mg_of X G a_law_formed, k_law_formed, .nil, b_law_formed, ok_law_formed F_law_formed T⟩
  have N_is_row_within : KN l.prog w K mg base CX0 1 ["thing", "most"] (sp_is_row_within) "is_row_within" [] := ⟨_, _, [], PySem.W.mg_of X G a_is_row_within, k_is_row_within, .nil, b_is_row_within, ok_is_row_within F_is_row_within T⟩
  have N_is_long_row : KN l.prog w K mg base CX0 2 ["thing"] (sp_is_long_row) "is_long_row" [] := ⟨_, _, [], PySem.W.mg_of X G a_is_long_row, k_is_long_row, .nil, b_is_long_row, ok_is_long_row F_is_long_row T N_is_row_within⟩
  have N_look_at_long_row : KN l.prog w K mg base (L2.CX l.prog w) 3 ["thing"] (sp_look_at_long_row C_NoRow) "look_at_long_row" [] := ⟨_, _, [], PySem.W.mg_of X G a_look_at_long_row, k_look_at_long_row, .nil, b_look_at_long_row, ok_look_at_long_row F_look_at_long_row T N_is_long_row⟩
  have N_part_of : KN l.prog w K mg base CX0 1 ["text", "at", "many"] (sp_part_of) "part_of" [] := ⟨_, _, [], PySem.W.mg_of X G a_part_of, k_part_of, .nil, b_part_of, ok_part_of F_part_of T⟩
  have N_contrary_sign : KN l.prog w K mg base CX0 1 ["sign"] (sp_contrary_sign) "contrary_sign" [] := ⟨_, _, [], PySem.W.mg_of X G a_contrary_sign, k_contrary_sign, .nil, b_contrary_sign, ok_contrary_sign F_contrary_sign T⟩
  have N_turned : KN l.prog w K mg base CX0 2 ["text"] (sp_turned) "turned" [] := ⟨_, _, [], PySem.W.mg_of X G a_turned, k_turned, .nil, b_turned, ok_turned F_turned T N_contrary_sign⟩
  have N_less_of : KN l.prog w K mg base CX0 3 ["text", "at", "many"] (sp_less_of) "less_of" [] := ⟨_, _, [], PySem.W.mg_of X G a_less_of, k_less_of, .nil, b_less_of, ok_less_of F_less_of T N_part_of N_turned⟩
  have N_more_of : KN l.prog w K mg base CX0 3 ["text", "at", "many"] (sp_more_of) "more_of" [] := ⟨_, _, [], PySem.W.mg_of X G a_more_of, k_more_of, .nil, b_more_of, ok_more_of F_more_of T N_part_of N_turned⟩
  have N_is_whole : KN l.prog w K mg base CX0 1 ["thing"] (sp_is_whole) "is_whole" [] := ⟨_, _, [], PySem.W.mg_of X G a_is_whole, k_is_whole, .nil, b_is_whole, ok_is_whole F_is_whole T⟩
  have N_is_formed : KN l.prog w K mg base CX0 2 ["step"] (sp_is_formed K) "is_formed" [] := ⟨_, _, [], PySem.W.mg_of X G a_is_formed, k_is_formed, .nil, b_is_formed, ok_is_formed F_is_formed T N_is_whole⟩
  have N_past_of : KN l.prog w K mg base CX0 3 ["text", "at", "many", "more"] (sp_past_of) "past_of" [] := ⟨_, _, [], PySem.W.mg_of X G a_past_of, k_past_of, .nil, b_past_of, ok_past_of F_past_of T N_part_of N_turned⟩
  have N_done : KN l.prog w K mg base CX0 4 ["text", "step"] (sp_done K) "done" [] := ⟨_, _, [], PySem.W.mg_of X G a_done, k_done, .nil, b_done, ok_done F_done T N_is_formed N_past_of N_less_of N_more_of⟩
  have N_NoStep___init__ : KM l.prog w K mg base CX0 1 ["self", "number"] (sp_NoStep___init__ C_NoStep) C_NoStep "__init__" [] := ⟨_, _, [], a_NoStep___init__, u_NoStep___init__, fn_NoStep___init__, k_NoStep___init__, .nil, b_NoStep___init__, ok_NoStep___init__ F_NoStep___init__ T⟩
  have N_led_on : KN l.prog w K mg base (L2.CX l.prog w) 5 ["row", "steps"] (sp_led_on K C_NoStep C_NoRow) "led_on" [] := ⟨_, _, [], PySem.W.mg_of X G a_led_on, k_led_on, .nil, b_led_on, ok_led_on F_led_on T N_look_at_long_row N_done N_NoStep___init__⟩
  have N_stepped : KN l.prog w K mg base (L2.CX l.prog w) 6 ["row", "step"] (sp_stepped K C_NoStep C_NoRow) "stepped" [] := ⟨_, _, [], PySem.W.mg_of X G a_stepped, k_stepped, .nil, b_stepped, ok_stepped F_stepped T N_led_on⟩
  have N_law_told : KN l.prog w K mg base CX0 7 ["_law_row_here", "_law_step_here"] (sp_law_told K C_NoStep C_NoRow) "_law_told" [] := ⟨_, _, [], PySem.W.mg_of X G a_law_told, k_law_told, .nil, b_law_told, ok_law_told F_law_told T N_stepped⟩
  have N_law_told_on : KN l.prog w K mg base CX0 6 ["_law_row_here", "_law_steps"] (sp_law_told_on K C_NoStep C_NoRow) "_law_told_on" [] := ⟨_, _, [], PySem.W.mg_of X G a_law_told_on, k_law_told_on, .nil, b_law_told_on, ok_law_told_on F_law_told_on T N_led_on⟩
  exact ok_law F_law T N_law_pool N_law_take N_law_row N_law_turned N_law_step N_law_bent N_law_formed N_law_done N_law_told N_law_told_on N_is_long_row
theorem walk {l : PySem.W.OpenLaw} {q : Program} {loose : List Str} {XP : (Str → Option Value) → Heap → Prop} {YP : World → Heap → Prop} {d : DefRec} {K : Params → PySem.W.Frag} (hn : l.most = some 63) (hdf : d.params.defaults = [])
    (hY : ∀ (w : World) (h : Heap), YP w h → (K w.params).In h)
    (F : ∀ (w : World) (mg : Str → Option Value) (fa : Addr) (h : Heap), (K w.params).In h → h.Ns mainGlobals mg → mg d.name = some (.ref fa) →
      ∃ fd : FuncData, (∀ (s : Shared) (u : Value), BindsTo s fd ⟨[u], []⟩ [("_law_script", u)]) ∧ ∀ base : Heap, (K w.params).In base → base.Ns mainGlobals mg → FnOk l.prog w (K w.params) mg base CX0 8 fa fd ["_law_script"] (sp_law (K w.params))) :
    PySem.W.WalkO q loose XP YP l.row.toRowW d [] (fun f vs => PySem.call f vs) :=
  L2.walk_of (n := 63) (k := 8) (x := "_law_script") (CX := fun _ => CX0) (sp := fun w => sp_law (K w.params)) hn (by decide) hdf ⟨rfl, by decide, by decide⟩ hY F (fun _ _ a ns hl _ hS => ⟨a, ns, rfl, hS, hl, fun _ => rfl⟩) fun _ _ _ _ _ z => z
end Toy

open PySem PySem.W PyProof.Rows in
set_option maxRecDepth 100000 in
set_option maxHeartbeats 0 in
theorem PySem.Challenge.cw_undotrees_k24_no_steps_holds : PySem.Challenge.rw_undotrees_k24_no_steps.Holds := by
  w_on; o_law; k_head; (case hw => w_witness2)
  k_fill
  refine Toy.walk (l := PySem.Challenge.rw_undotrees_k24_no_steps) rfl rfl (fun w h Y => PySem.W.kIn_of Y) ?F
  case F =>
    intro w mg fa h KX G hmg
    refine' Toy.all_mk KX G hmg ?z_LookupError ?z_ValueError ?z_all ?z_bool ?z_enumerate ?z_int ?z_isinstance ?z_len ?z_list ?z_max ?z_min ?z_range ?z_str ?z_tuple ?n_MOST_LONG ?n_SIGNS ?aC_NoRow ?xC_NoRow ?kC_NoRow ?bC_NoRow ?tC_NoRow ?iC_NoRow ?sC_NoRow ?hg_NoRow ?hk_NoRow ?hd_NoRow ?ha_NoRow ?hm_NoRow ?aC_NoStep ?xC_NoStep ?kC_NoStep ?bC_NoStep ?tC_NoStep ?iC_NoStep ?sC_NoStep ?hg_NoStep ?hk_NoStep ?hd_NoStep ?ha_NoStep ?hm_NoStep ?oC_NoStep ?sa_NoStep ?hn ?ht ?w_LookupError ?y_NoStep_number ?f_n1 ?f_n2 ?f_n3 ?f_n4 ?f_n5 ?f_n6 ?a_law_pool ?l_law_pool ?c_law_pool ?k_law_pool ?a_law_take ?l_law_take ?c_law_take ?k_law_take ?a_law_turned ?l_law_turned ?c_law_turned ?k_law_turned ?a_law_row ?l_law_row ?c_law_row ?k_law_row ?a_law_done ?l_law_done ?c_law_done ?k_law_done ?a_law_step ?l_law_step ?c_law_step ?k_law_step ?a_law_bent ?l_law_bent ?c_law_bent ?k_law_bent ?a_law_formed ?l_law_formed ?c_law_formed ?k_law_formed ?a_is_row_within ?l_is_row_within ?c_is_row_within ?k_is_row_within ?a_is_long_row ?l_is_long_row ?c_is_long_row ?k_is_long_row ?a_look_at_long_row ?l_look_at_long_row ?c_look_at_long_row ?k_look_at_long_row ?a_part_of ?l_part_of ?c_part_of ?k_part_of ?a_contrary_sign ?l_contrary_sign ?c_contrary_sign ?k_contrary_sign ?a_turned ?l_turned ?c_turned ?k_turned ?a_less_of ?l_less_of ?c_less_of ?k_less_of ?a_more_of ?l_more_of ?c_more_of ?k_more_of ?a_is_whole ?l_is_whole ?c_is_whole ?k_is_whole ?a_is_formed ?l_is_formed ?c_is_formed ?k_is_formed ?a_past_of ?l_past_of ?c_past_of ?k_past_of ?a_done ?l_done ?c_done ?k_done ?a_NoStep___init__ ?l_NoStep___init__ ?c_NoStep___init__ ?k_NoStep___init__ ?u_NoStep___init__ ?fn_NoStep___init__ ?a_led_on ?l_led_on ?c_led_on ?k_led_on ?a_stepped ?l_stepped ?c_stepped ?k_stepped ?a_law_told ?l_law_told ?c_law_told ?k_law_told ?a_law_told_on ?l_law_told_on ?c_law_told_on ?k_law_told_on ?a_law ?l_law ?c_law ?k_law ?ad_NUMBERS ?ld_NUMBERS ?kl_NUMBERS ?sm_NUMBERS ?e_NUMBERS_less ?e_NUMBERS_more ?e_NUMBERS_past ?ad_STEPS ?ld_STEPS ?kl_STEPS ?sm_STEPS ?e_STEPS_less ?e_STEPS_more ?e_STEPS_past ?f_z0 ?f_z1 ?f_z2 ?f_z3 ?f_z4
    (case z_LookupError => k_is)
    (case z_ValueError => k_is)
    (case z_all => k_is)
    (case z_bool => k_is)
    (case z_enumerate => k_is)
    (case z_int => k_is)
    (case z_isinstance => k_is)
    (case z_len => k_is)
    (case z_list => k_is)
    (case z_max => k_is)
    (case z_min => k_is)
    (case z_range => k_is)
    (case z_str => k_is)
    (case z_tuple => k_is)
    (case n_MOST_LONG => k_is)
    (case n_SIGNS => k_is)
    (case aC_NoRow => k_is)
    (case xC_NoRow => k_exc)
    (case kC_NoRow => k_is)
    (case bC_NoRow => k_is)
    (case tC_NoRow => k_is)
    (case iC_NoRow => k_is)
    (case sC_NoRow => first | rfl | k_is)
    (case hg_NoRow => k_is)
    (case hk_NoRow => k_is)
    (case hd_NoRow => k_is)
    (case ha_NoRow => k_is)
    (case hm_NoRow => k_is)
    (case aC_NoStep => k_is)
    (case xC_NoStep => kx_is)
    (case kC_NoStep => k_is)
    (case bC_NoStep => k_is)
    (case tC_NoStep => k_is)
    (case iC_NoStep => k_is)
    (case sC_NoStep => first | rfl | k_is)
    (case hg_NoStep => k_is)
    (case hk_NoStep => k_is)
    (case hd_NoStep => k_is)
    (case ha_NoStep => k_is)
    (case hm_NoStep => k_is)
    (case oC_NoStep => kx_is)
    (case sa_NoStep => k_is)
    (case hn => k_is)
    (case ht => k_is)
    (case w_LookupError => k_is)
    (case y_NoStep_number => k_is)
    (case f_n1 => k_is)
    (case f_n2 => k_is)
    (case f_n3 => k_is)
    (case f_n4 => k_is)
    (case f_n5 => k_is)
    (case f_n6 => k_is)
    (case a_law_pool => k_is)
    (case l_law_pool => k_is)
    (case c_law_pool => k_is)
    (case k_law_pool => k_is)
    (case a_law_take => k_is)
    (case l_law_take => k_is)
    (case c_law_take => k_is)
    (case k_law_take => k_is)
    (case a_law_turned => k_is)
    (case l_law_turned => k_is)
    (case c_law_turned => k_is)
    (case k_law_turned => k_is)
    (case a_law_row => k_is)
    (case l_law_row => k_is)
    (case c_law_row => k_is)
    (case k_law_row => k_is)
    (case a_law_done => k_is)
    (case l_law_done => k_is)
    (case c_law_done => k_is)
    (case k_law_done => k_is)
    (case a_law_step => k_is)
    (case l_law_step => k_is)
    (case c_law_step => k_is)
    (case k_law_step => k_is)
    (case a_law_bent => k_is)
    (case l_law_bent => k_is)
    (case c_law_bent => k_is)
    (case k_law_bent => k_is)
    (case a_law_formed => k_is)
    (case l_law_formed => k_is)
    (case c_law_formed => k_is)
    (case k_law_formed => k_is)
    (case a_is_row_within => k_is)
    (case l_is_row_within => k_is)
    (case c_is_row_within => k_is)
    (case k_is_row_within => k_is)
    (case a_is_long_row => k_is)
    (case l_is_long_row => k_is)
    (case c_is_long_row => k_is)
    (case k_is_long_row => k_is)
    (case a_look_at_long_row => k_is)
    (case l_look_at_long_row => k_is)
    (case c_look_at_long_row => k_is)
    (case k_look_at_long_row => k_is)
    (case a_part_of => k_is)
    (case l_part_of => k_is)
    (case c_part_of => k_is)
    (case k_part_of => k_is)
    (case a_contrary_sign => k_is)
    (case l_contrary_sign => k_is)
    (case c_contrary_sign => k_is)
    (case k_contrary_sign => k_is)
    (case a_turned => k_is)
    (case l_turned => k_is)
    (case c_turned => k_is)
    (case k_turned => k_is)
    (case a_less_of => k_is)
    (case l_less_of => k_is)
    (case c_less_of => k_is)
    (case k_less_of => k_is)
    (case a_more_of => k_is)
    (case l_more_of => k_is)
    (case c_more_of => k_is)
    (case k_more_of => k_is)
    (case a_is_whole => k_is)
    (case l_is_whole => k_is)
    (case c_is_whole => k_is)
    (case k_is_whole => k_is)
    (case a_is_formed => k_is)
    (case l_is_formed => k_is)
    (case c_is_formed => k_is)
    (case k_is_formed => k_is)
    (case a_past_of => k_is)
    (case l_past_of => k_is)
    (case c_past_of => k_is)
    (case k_past_of => k_is)
    (case a_done => k_is)
    (case l_done => k_is)
    (case c_done => k_is)
    (case k_done => k_is)
    (case a_NoStep___init__ => k_is)
    (case l_NoStep___init__ => k_is)
    (case c_NoStep___init__ => k_is)
    (case k_NoStep___init__ => k_is)
    (case u_NoStep___init__ => k_is)
    (case fn_NoStep___init__ => k_is)
    (case a_led_on => k_is)
    (case l_led_on => k_is)
    (case c_led_on => k_is)
    (case k_led_on => k_is)
    (case a_stepped => k_is)
    (case l_stepped => k_is)
    (case c_stepped => k_is)
    (case k_stepped => k_is)
    (case a_law_told => k_is)
    (case l_law_told => k_is)
    (case c_law_told => k_is)
    (case k_law_told => k_is)
    (case a_law_told_on => k_is)
    (case l_law_told_on => k_is)
    (case c_law_told_on => k_is)
    (case k_law_told_on => k_is)
    (case a_law => k_is)
    (case l_law => k_is)
    (case c_law => k_is)
    (case k_law => k_is)
    (case ad_NUMBERS => k_is)
    (case ld_NUMBERS => k_is)
    (case kl_NUMBERS => (repeat' (first | exact trivial | exact ⟨_, _, rfl, rfl⟩ | refine And.intro ?_ ?_)))
    (case sm_NUMBERS => first | rfl | decide)
    (case e_NUMBERS_less => k_is)
    (case e_NUMBERS_more => k_is)
    (case e_NUMBERS_past => k_is)
    (case ad_STEPS => k_is)
    (case ld_STEPS => k_is)
    (case kl_STEPS => (repeat' (first | exact trivial | exact ⟨_, _, rfl, rfl⟩ | refine And.intro ?_ ?_)))
    (case sm_STEPS => first | rfl | decide)
    (case e_STEPS_less => k_is)
    (case e_STEPS_more => k_is)
    (case e_STEPS_past => k_is)
    (case f_z0 => k_is)
    (case f_z1 => k_is)
    (case f_z2 => k_is)
    (case f_z3 => k_is)
    (case f_z4 => k_is)

