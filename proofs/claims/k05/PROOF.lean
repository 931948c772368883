import PyProof.Rows.All
import Wide.All
import OpenK.AllK
import Wide.FinOn
import HandS.ForMost
import HandS.ForExc
import HandS.Walk
import HandS.StrMore
import HandS.Replace
import HandS.IsInst
import HandS.Style
import HandS.Steps
import HandS.Evl
import HandS.Wide
import HandS.Defaults
import HandS.ExcIs
import HandS.TryMany
import HandS.ExcInit
import HandS.ExcField
import KE.KExcInit
import KE.KExcLine
import KE.KExcIs
import PyProof.ListStr
import KE.DataCmp
import KE.GoesZip
import KE.GoesMore
import KE.GoesEnum
import HandS.ExcValue
import HandS.DeepEq
import PyProof.NeKinds
import HandS.ExcOwn
import KE.KStateDown
import HandS.Base
import HandS.Call
import HandS.Exc
import HandS.Defaults
import HandS.Words
import HandS.Head2
import HandS.HeadEnd
import HandS.HeadHook1
import HandS.HeadHook2
import HandS.HeadHook3
import PySem.Challenge.RW_undotrees_k05_refusals_made
set_option Elab.async false
set_option linter.all false
set_option maxRecDepth 100000
set_option maxHeartbeats 4000000

/-! The head by one kernel run (HandS.Head0 .. Head2), its facts read by a Hook: defs, tables, and a list of tests of what is looked at. -/
namespace He
open PySem PySem.Spec PyProof.Rows L2
/-! ### a list, made plain -/
def frL {α : Type} : List Addr → (List Addr → α) → α
  | [], k => k []
  | a :: r, k => HandSHeadRun.frNat a fun a => frL r fun r => k (a :: r)
theorem frL_eq {α : Type} : ∀ (l : List Addr) (k : List Addr → α), frL l k = k l
  | [], _ => rfl
  | a :: r, k => by
    unfold frL
    rw [HandSHeadRun.frNat_eq, frL_eq r]
/-- what an object names (a code object's own constants are left out) -/
def refsB (o : Obj) : List Addr := match o.data with
  | .seq its _ => its.toList.flatMap refV
  | .dict es _ => es.toList.flatMap fun e => refV e.val
  | .func fd => refV fd.code ++ refV fd.defaults ++ refV fd.kwdefaults
  | .cls cd => cd.ns :: cd.mro.flatMap refV
  | _ => []
/-- what is new of these -/
def newsOf (seen : List Addr) : List Addr → List Addr
  | [] => []
  | a :: r => match seen.contains a with
    | true => newsOf seen r
    | false => a :: newsOf (a :: seen) r
/-- what the module's names reach: those new in the last step, all -/
def wide (g : Addr → Option Obj) : Nat → List Addr → List Addr → List Addr
  | 0, _, all => all
  | n + 1, last, all => frL (newsOf all (last.flatMap fun a => match g a with
    | some o => refsB o
    | none => [])) fun nw => wide g n nw (all ++ nw)
def asB (g : Addr → Option Obj) (n : Nat) : List Addr := wide g n [mainGlobals] [mainGlobals]
/-! ### the Hook -/
abbrev AlB : Type := AlT × Bool
abbrev Ex : Type := List (PySem.W.Frag → Bool)
def obsB (fn : List DefD) (ts : List Tab) (ex : Ex) (K : PySem.W.Frag) : AlB := (obsT [] fn ts K, ex.all fun f => f K)
def valB (fn : List DefD) (ts : List Tab) (w : World) : AlB := (valT fn ts w, true)
def obsBG (n : Nat) (fn : List DefD) (ts : List Tab) (ex : Ex) (g : Addr → Option Obj) : AlB := frL (asB g n) fun as => obsB fn ts ex (frG g as)
def SaysB (fn : List DefD) (ts : List Tab) (ex : Ex) (w : World) (K : PySem.W.Frag) : Prop := obsB fn ts ex K = valB fn ts w
/-- what is looked at, in parts (each its own equation) -/
abbrev Part : Type := List DefD × List Tab × Ex
def obsPG (n : Nat) (ps : List Part) (g : Addr → Option Obj) : List AlB := ps.map fun p => obsBG n p.1 p.2.1 p.2.2 g
def valP (ps : List Part) (w : World) : List AlB := ps.map fun p => valB p.1 p.2.1 w
def SaysP (ps : List Part) (w : World) (K : PySem.W.Frag) : Prop := ∀ p ∈ ps, SaysB p.1 p.2.1 p.2.2 w K
theorem map_eq {α β : Type} {f g : α → β} : ∀ {l : List α}, l.map f = l.map g → ∀ a ∈ l, f a = g a
  | _ :: _, e, a, h => by
    injection e with e1 e2
    rcases List.mem_cons.mp h with rfl | h
    · exact e1
    · exact map_eq e2 a h
theorem obsBG_is {n : Nat} {fn : List DefD} {ts : List Tab} {ex : Ex} {g : Addr → Option Obj} : obsBG n fn ts ex g = obsB fn ts ex (frG g (asB g n)) := frL_eq _ _
def hookP (n : Nat) (ps : List Part) : PySem.W.Hook where
  α := List AlB
  obs := fun s => obsPG n ps s.heap.get?
  val := fun w => valP ps w
  says := fun w h => ∃ K : PySem.W.Frag, K.In h ∧ SaysP ps w K
  of := fun w s e => ⟨_, frG_in (as := asB s.heap.get? n), fun p hp => by
    have e1 : obsBG n p.1 p.2.1 p.2.2 s.heap.get? = valB p.1 p.2.1 w := map_eq (l := ps) e p hp
    rw [obsBG_is] at e1
    exact e1⟩
  keeps := fun _ _ _ ⟨K, hK, c⟩ k => ⟨K, PySem.W.Frag.In.keeps hK k, c⟩
theorem obsPG_eq {n : Nat} {ps : List Part} {g : Addr → Option Obj} {s : Shared} (h : ∀ a, g a = s.heap.get? a) : obsPG n ps g = (hookP n ps).obs s := by
  have e : g = s.heap.get? := funext h
  rw [e] <;> rfl
/-- each part's equation -/
def RunParts (n : Nat) (w : World) (run : OsState → Option PySem.W.SharedT) : List Part → Prop
  | [] => True
  | p :: r => (∀ os, (run os).map (fun s => obsBG n p.1 p.2.1 p.2.2 (HandSHeadRun.getT s)) = some (valB p.1 p.2.1 w)) ∧ RunParts n w run r
theorem RunParts.all {n : Nat} {w : World} {run : OsState → Option PySem.W.SharedT} : ∀ {ps : List Part}, RunParts n w run ps → ∀ os s, run os = some s → obsPG n ps (HandSHeadRun.getT s) = valP ps w
  | [], _, _, _, _ => rfl
  | p :: r, h, os, s, e => by
    have h1 := h.1 os
    rw [e] at h1
    have h2 : obsBG n p.1 p.2.1 p.2.2 (HandSHeadRun.getT s) = valB p.1 p.2.1 w := Option.some.inj h1
    show obsBG n p.1 p.2.1 p.2.2 (HandSHeadRun.getT s) :: obsPG n r (HandSHeadRun.getT s) = valB p.1 p.2.1 w :: valP r w
    rw [h2, RunParts.all h.2 os s e]
/-- the run behind the boot -/
noncomputable abbrev runQ (r : PySem.W.OpenRow) (M : Nat) (w : World) (os : OsState) : Option PySem.W.SharedT := HandSHeadRun.endF (HandSHeadRun.stepQ (HandSHeadRun.denQ HandSHeadRun.tabQ) r.prog w) M r.prog w os
theorem run_of {r : PySem.W.OpenRow} {q : Program} {M n : Nat} {names : List Str} {ps : List Part} {w : World}
    (e1 : ∀ os, (runQ r M w os).map (fun s => (HandSHeadRun.looksF r.prog (PySem.W.boot_heap w.params) s.abs, HandSHeadRun.seenQ q names (importedModules r.prog.main.body) (fun s => PySem.W.xlAt q [] s && PySem.W.recOk r.toRowW.records s) s.abs)) = some (true, PySem.W.openGood q names))
    (e2 : RunParts n w (runQ r M w) ps) : HandSHeadRun.RunEq r q (hookP n ps) (fun s => obsPG n ps (HandSHeadRun.getT s)) M names w := by
  intro os
  obtain ⟨s, hs, z1⟩ := Option.map_eq_some_iff.mp (e1 os)
  have z2 := e2.all os s hs
  obtain ⟨z3, z4⟩ := Prod.mk.inj z1
  show (runQ r M w os).map _ = _
  rw [hs]
  show some _ = some _
  exact congrArg some (Prod.ext z3 (Prod.ext z4 z2))
section
variable {fn : List DefD} {ts : List Tab} {ex : Ex} {w : World} {K : PySem.W.Frag}
theorem SaysP.part {ps : List Part} (c : SaysP ps w K) (i : Nat) {p : Part} (h : ps[i]? = some p := by rfl) : SaysB p.1 p.2.1 p.2.2 w K := c p (List.mem_of_getElem? h)
theorem SaysB.t (c : SaysB fn ts ex w K) : SaysT [] fn ts w K := congrArg (fun z : AlB => z.1) c
theorem SaysB.fact (c : SaysB fn ts ex w K) (i : Nat) {f : PySem.W.Frag → Bool} (h : ex[i]? = some f := by rfl) : f K = true := by
  have c1 : (ex.all fun f => f K) = true := congrArg (fun z : AlB => z.2) c
  exact List.all_eq_true.mp c1 f (List.mem_of_getElem? h)
end
theorem funB {K : PySem.W.Frag} {x ql : Str} {st : Stmt} {f : Addr} {fd : FuncData} (F : FunD K x ql (defArgs st) (defBody st) (defScope st) [] [] f fd) : Fun K x ql st f fd := by
  obtain ⟨oc, od, dV, kV, doc, pm, an, cdv, ct, osl, rfl, lk, hcd, hD, _⟩ := F.ex
  rcases hD with ⟨_, rfl⟩ | ⟨e, _⟩
  · exact ⟨⟨oc, od, kV, doc, pm, an, cdv, ct, osl, rfl, lk, hcd⟩, F.kp⟩
  · exact absurd rfl e
/-! ### tests with a token left open -/
def intAt (K : PySem.W.Frag) (a : Addr) (x : Str) (i : Int) : Bool := match PySem.W.nsIn K a x with
  | some (some (.int j _)) => decide (j = i)
  | _ => false
theorem intAt_ok {K : PySem.W.Frag} {a : Addr} {x : Str} {i : Int} (h : intAt K a x i = true) : ∃ t, PySem.W.nsIn K a x = some (some (.int i t)) := by
  unfold intAt at h
  split at h
  · rename_i j t e
    have e2 : j = i := of_decide_eq_true h
    exact ⟨t, by rw [e, e2]⟩
  · cases h
def strAt (K : PySem.W.Frag) (a : Addr) (x z : Str) : Bool := match PySem.W.nsIn K a x with
  | some (some (.str y _)) => decide (y = z)
  | _ => false
theorem strAt_ok {K : PySem.W.Frag} {a : Addr} {x z : Str} (h : strAt K a x z = true) : ∃ t, PySem.W.nsIn K a x = some (some (.str z t)) := by
  unfold strAt at h
  split at h
  · rename_i j t e
    have e2 : j = z := of_decide_eq_true h
    exact ⟨t, by rw [e, e2]⟩
  · cases h
def initAt (K : PySem.W.Frag) (x y : String) : Bool := match PySem.W.findCls K (.type x) (.type "type") "__init__" with
  | some (.val (.builtin b)) => decide (b = y)
  | _ => false
theorem initAt_ok {K : PySem.W.Frag} {x y : String} (h : initAt K x y = true) : PySem.W.findCls K (.type x) (.type "type") "__init__" = some (.val (.builtin y)) := by
  unfold initAt at h
  split at h
  · rename_i b e
    have e2 : b = y := of_decide_eq_true h
    rw [e, e2]
  · cases h
end He

namespace Toy
open PySem L2

def top (i : Nat) : Stmt := PySem.Challenge.pw_undotrees_k05_refusals_made.main.body.getD i (.Pass ⟨0, 0, 0, 0⟩)
abbrev s_law_pool : Stmt := top 24
abbrev s_law_take : Stmt := top 25
abbrev s_NoSign___init__ : Stmt := inClass (top 4) 0
abbrev s_NoTree___init__ : Stmt := inClass (top 5) 0
abbrev s_NoGiven___init__ : Stmt := inClass (top 6) 0
abbrev s_NoPairs___init__ : Stmt := inClass (top 7) 0
abbrev s_NoMachine___init__ : Stmt := inClass (top 8) 0
abbrev s_NoDeed___init__ : Stmt := inClass (top 9) 0
abbrev s_NoMark___init__ : Stmt := inClass (top 10) 0
abbrev s_NoName___init__ : Stmt := inClass (top 11) 0
abbrev s_NoEnd___init__ : Stmt := inClass (top 12) 0
abbrev s_NoThing___init__ : Stmt := inClass (top 13) 0
abbrev s_NoNumber___init__ : Stmt := inClass (top 14) 0
abbrev s_NoStep___init__ : Stmt := inClass (top 15) 0
abbrev s_Bare___init__ : Stmt := inClass (top 16) 0
abbrev s_NoSeam___init__ : Stmt := inClass (top 17) 0
abbrev s_NoBack___init__ : Stmt := inClass (top 18) 0
abbrev s_Taken___init__ : Stmt := inClass (top 19) 0
abbrev s_NoFold___init__ : Stmt := inClass (top 20) 0
abbrev s_Full___init__ : Stmt := inClass (top 21) 0
abbrev s_TooMany___init__ : Stmt := inClass (top 22) 0
abbrev s_law_made : Stmt := top 26
abbrev s_law_kinds : Stmt := top 27
abbrev s_law_above : Stmt := top 28
abbrev s_law_above_due : Stmt := top 29
abbrev s_law_fields : Stmt := top 30
abbrev s_law : Stmt := top 31
def hd_d0 : He.DefD := ⟨("_law_pool", none), "_law_pool", "_law_pool", defArgs s_law_pool, defBody s_law_pool, defScope s_law_pool, [], []⟩
def hd_d1 : He.DefD := ⟨("_law_take", none), "_law_take", "_law_take", defArgs s_law_take, defBody s_law_take, defScope s_law_take, [], []⟩
def hd_d2 : He.DefD := ⟨("NoSign", some "__init__"), "__init__", "NoSign.__init__", defArgs s_NoSign___init__, defBody s_NoSign___init__, defScope s_NoSign___init__, [], []⟩
def hd_d3 : He.DefD := ⟨("NoTree", some "__init__"), "__init__", "NoTree.__init__", defArgs s_NoTree___init__, defBody s_NoTree___init__, defScope s_NoTree___init__, [], []⟩
def hd_d4 : He.DefD := ⟨("NoGiven", some "__init__"), "__init__", "NoGiven.__init__", defArgs s_NoGiven___init__, defBody s_NoGiven___init__, defScope s_NoGiven___init__, [], []⟩
def hd_d5 : He.DefD := ⟨("NoPairs", some "__init__"), "__init__", "NoPairs.__init__", defArgs s_NoPairs___init__, defBody s_NoPairs___init__, defScope s_NoPairs___init__, [], []⟩
def hd_d6 : He.DefD := ⟨("NoMachine", some "__init__"), "__init__", "NoMachine.__init__", defArgs s_NoMachine___init__, defBody s_NoMachine___init__, defScope s_NoMachine___init__, [], []⟩
def hd_d7 : He.DefD := ⟨("NoDeed", some "__init__"), "__init__", "NoDeed.__init__", defArgs s_NoDeed___init__, defBody s_NoDeed___init__, defScope s_NoDeed___init__, [], []⟩
def hd_d8 : He.DefD := ⟨("NoMark", some "__init__"), "__init__", "NoMark.__init__", defArgs s_NoMark___init__, defBody s_NoMark___init__, defScope s_NoMark___init__, [], []⟩
def hd_d9 : He.DefD := ⟨("NoName", some "__init__"), "__init__", "NoName.__init__", defArgs s_NoName___init__, defBody s_NoName___init__, defScope s_NoName___init__, [], []⟩
def hd_d10 : He.DefD := ⟨("NoEnd", some "__init__"), "__init__", "NoEnd.__init__", defArgs s_NoEnd___init__, defBody s_NoEnd___init__, defScope s_NoEnd___init__, [], []⟩
def hd_d11 : He.DefD := ⟨("NoThing", some "__init__"), "__init__", "NoThing.__init__", defArgs s_NoThing___init__, defBody s_NoThing___init__, defScope s_NoThing___init__, [], []⟩
def hd_d12 : He.DefD := ⟨("NoNumber", some "__init__"), "__init__", "NoNumber.__init__", defArgs s_NoNumber___init__, defBody s_NoNumber___init__, defScope s_NoNumber___init__, [], []⟩
def hd_d13 : He.DefD := ⟨("NoStep", some "__init__"), "__init__", "NoStep.__init__", defArgs s_NoStep___init__, defBody s_NoStep___init__, defScope s_NoStep___init__, [], []⟩
def hd_d14 : He.DefD := ⟨("Bare", some "__init__"), "__init__", "Bare.__init__", defArgs s_Bare___init__, defBody s_Bare___init__, defScope s_Bare___init__, [], []⟩
def hd_d15 : He.DefD := ⟨("NoSeam", some "__init__"), "__init__", "NoSeam.__init__", defArgs s_NoSeam___init__, defBody s_NoSeam___init__, defScope s_NoSeam___init__, [], []⟩
def hd_d16 : He.DefD := ⟨("NoBack", some "__init__"), "__init__", "NoBack.__init__", defArgs s_NoBack___init__, defBody s_NoBack___init__, defScope s_NoBack___init__, [], []⟩
def hd_d17 : He.DefD := ⟨("Taken", some "__init__"), "__init__", "Taken.__init__", defArgs s_Taken___init__, defBody s_Taken___init__, defScope s_Taken___init__, [], []⟩
def hd_d18 : He.DefD := ⟨("NoFold", some "__init__"), "__init__", "NoFold.__init__", defArgs s_NoFold___init__, defBody s_NoFold___init__, defScope s_NoFold___init__, [], []⟩
def hd_d19 : He.DefD := ⟨("Full", some "__init__"), "__init__", "Full.__init__", defArgs s_Full___init__, defBody s_Full___init__, defScope s_Full___init__, [], []⟩
def hd_d20 : He.DefD := ⟨("TooMany", some "__init__"), "__init__", "TooMany.__init__", defArgs s_TooMany___init__, defBody s_TooMany___init__, defScope s_TooMany___init__, [], []⟩
def hd_d21 : He.DefD := ⟨("_law_made", none), "_law_made", "_law_made", defArgs s_law_made, defBody s_law_made, defScope s_law_made, [], []⟩
def hd_d22 : He.DefD := ⟨("_law_kinds", none), "_law_kinds", "_law_kinds", defArgs s_law_kinds, defBody s_law_kinds, defScope s_law_kinds, [], []⟩
def hd_d23 : He.DefD := ⟨("_law_above", none), "_law_above", "_law_above", defArgs s_law_above, defBody s_law_above, defScope s_law_above, [], []⟩
def hd_d24 : He.DefD := ⟨("_law_above_due", none), "_law_above_due", "_law_above_due", defArgs s_law_above_due, defBody s_law_above_due, defScope s_law_above_due, [], []⟩
def hd_d25 : He.DefD := ⟨("_law_fields", none), "_law_fields", "_law_fields", defArgs s_law_fields, defBody s_law_fields, defScope s_law_fields, [], []⟩
def hd_d26 : He.DefD := ⟨("law", none), "law", "law", defArgs s_law, defBody s_law, defScope s_law, [], []⟩
def hd_tabs : List He.Tab := []
def HdEx0 (K : PySem.W.Frag) : Prop := PySem.W.nsIn K mainGlobals "ArithmeticError" = some none ∧ PySem.W.nsIn K mainGlobals "IndexError" = some none ∧ PySem.W.nsIn K mainGlobals "KeyError" = some none ∧ PySem.W.nsIn K mainGlobals "LookupError" = some none ∧ PySem.W.nsIn K mainGlobals "OverflowError" = some none ∧ PySem.W.nsIn K mainGlobals "RuntimeError" = some none ∧ PySem.W.nsIn K mainGlobals "ValueError" = some none ∧ PySem.W.nsIn K mainGlobals "int" = some none ∧ PySem.W.nsIn K mainGlobals "isinstance" = some none ∧ PySem.W.nsIn K mainGlobals "len" = some none ∧ PySem.W.nsIn K mainGlobals "max" = some none ∧ PySem.W.nsIn K mainGlobals "min" = some none
instance (K : PySem.W.Frag) : Decidable (HdEx0 K) := inferInstanceAs (Decidable (PySem.W.nsIn K mainGlobals "ArithmeticError" = some none ∧ PySem.W.nsIn K mainGlobals "IndexError" = some none ∧ PySem.W.nsIn K mainGlobals "KeyError" = some none ∧ PySem.W.nsIn K mainGlobals "LookupError" = some none ∧ PySem.W.nsIn K mainGlobals "OverflowError" = some none ∧ PySem.W.nsIn K mainGlobals "RuntimeError" = some none ∧ PySem.W.nsIn K mainGlobals "ValueError" = some none ∧ PySem.W.nsIn K mainGlobals "int" = some none ∧ PySem.W.nsIn K mainGlobals "isinstance" = some none ∧ PySem.W.nsIn K mainGlobals "len" = some none ∧ PySem.W.nsIn K mainGlobals "max" = some none ∧ PySem.W.nsIn K mainGlobals "min" = some none))
def HdEx1 (K : PySem.W.Frag) : Prop := PySem.W.nsIn K mainGlobals "range" = some none
instance (K : PySem.W.Frag) : Decidable (HdEx1 K) := inferInstanceAs (Decidable (PySem.W.nsIn K mainGlobals "range" = some none))
def HdEx2 (K : PySem.W.Frag) : Prop := PySem.W.nsIn K mainGlobals "Bare" = some (some (.ref (He.ga K "Bare"))) ∧ PySem.W.excInitIn K (He.ga K "Bare") [.type "LookupError", .type "Exception", .type "BaseException", .type "object"] "LookupError.__new__" = true ∧ PySem.W.keepIn K (.ref (He.ga K "Bare")) = true ∧ PySem.W.subIn K (.ref (He.ga K "Bare")) (.type "BaseException") = some true ∧ PySem.W.typeIn K (.ref (He.ga K "Bare")) = some (.type "type") ∧ PySem.W.isClsIn K (He.ga K "Bare") = true ∧ PySem.W.subIn K (.ref (He.ga K "Bare")) (.ref (He.ga K "Bare")) = some true ∧ PySem.W.findIn K (.ref (He.ga K "Bare")) "__getattribute__" = some (some (.builtin "BaseException.__getattribute__")) ∧ PySem.W.findIn K (.ref (He.ga K "Bare")) "__getattr__" = some none ∧ PySem.W.hasDictIn K (He.ga K "Bare") = true ∧ PySem.W.findIn K (.ref (He.ga K "Bare")) "__class__" = some (some (.builtin "object.__class__")) ∧ PySem.W.mroIn K (He.ga K "Bare") (.type "object") = some true
instance (K : PySem.W.Frag) : Decidable (HdEx2 K) := inferInstanceAs (Decidable (PySem.W.nsIn K mainGlobals "Bare" = some (some (.ref (He.ga K "Bare"))) ∧ PySem.W.excInitIn K (He.ga K "Bare") [.type "LookupError", .type "Exception", .type "BaseException", .type "object"] "LookupError.__new__" = true ∧ PySem.W.keepIn K (.ref (He.ga K "Bare")) = true ∧ PySem.W.subIn K (.ref (He.ga K "Bare")) (.type "BaseException") = some true ∧ PySem.W.typeIn K (.ref (He.ga K "Bare")) = some (.type "type") ∧ PySem.W.isClsIn K (He.ga K "Bare") = true ∧ PySem.W.subIn K (.ref (He.ga K "Bare")) (.ref (He.ga K "Bare")) = some true ∧ PySem.W.findIn K (.ref (He.ga K "Bare")) "__getattribute__" = some (some (.builtin "BaseException.__getattribute__")) ∧ PySem.W.findIn K (.ref (He.ga K "Bare")) "__getattr__" = some none ∧ PySem.W.hasDictIn K (He.ga K "Bare") = true ∧ PySem.W.findIn K (.ref (He.ga K "Bare")) "__class__" = some (some (.builtin "object.__class__")) ∧ PySem.W.mroIn K (He.ga K "Bare") (.type "object") = some true))
def HdEx3 (K : PySem.W.Frag) : Prop := PySem.W.excOver K (He.ga K "Bare") [.type "LookupError", .type "Exception", .type "BaseException", .type "object"] = true ∧ PySem.W.findIn K (.ref (He.ga K "Bare")) "__setattr__" = some (some (.builtin "object.__setattr__"))
instance (K : PySem.W.Frag) : Decidable (HdEx3 K) := inferInstanceAs (Decidable (PySem.W.excOver K (He.ga K "Bare") [.type "LookupError", .type "Exception", .type "BaseException", .type "object"] = true ∧ PySem.W.findIn K (.ref (He.ga K "Bare")) "__setattr__" = some (some (.builtin "object.__setattr__"))))
def HdEx4 (K : PySem.W.Frag) : Prop := PySem.W.nsIn K mainGlobals "Full" = some (some (.ref (He.ga K "Full"))) ∧ PySem.W.excInitIn K (He.ga K "Full") [.type "OverflowError", .type "ArithmeticError", .type "Exception", .type "BaseException", .type "object"] "OverflowError.__new__" = true ∧ PySem.W.keepIn K (.ref (He.ga K "Full")) = true ∧ PySem.W.subIn K (.ref (He.ga K "Full")) (.type "BaseException") = some true ∧ PySem.W.typeIn K (.ref (He.ga K "Full")) = some (.type "type") ∧ PySem.W.isClsIn K (He.ga K "Full") = true ∧ PySem.W.subIn K (.ref (He.ga K "Full")) (.ref (He.ga K "Full")) = some true ∧ PySem.W.findIn K (.ref (He.ga K "Full")) "__getattribute__" = some (some (.builtin "BaseException.__getattribute__")) ∧ PySem.W.findIn K (.ref (He.ga K "Full")) "__getattr__" = some none ∧ PySem.W.hasDictIn K (He.ga K "Full") = true ∧ PySem.W.findIn K (.ref (He.ga K "Full")) "__class__" = some (some (.builtin "object.__class__")) ∧ PySem.W.mroIn K (He.ga K "Full") (.type "object") = some true
instance (K : PySem.W.Frag) : Decidable (HdEx4 K) := inferInstanceAs (Decidable (PySem.W.nsIn K mainGlobals "Full" = some (some (.ref (He.ga K "Full"))) ∧ PySem.W.excInitIn K (He.ga K "Full") [.type "OverflowError", .type "ArithmeticError", .type "Exception", .type "BaseException", .type "object"] "OverflowError.__new__" = true ∧ PySem.W.keepIn K (.ref (He.ga K "Full")) = true ∧ PySem.W.subIn K (.ref (He.ga K "Full")) (.type "BaseException") = some true ∧ PySem.W.typeIn K (.ref (He.ga K "Full")) = some (.type "type") ∧ PySem.W.isClsIn K (He.ga K "Full") = true ∧ PySem.W.subIn K (.ref (He.ga K "Full")) (.ref (He.ga K "Full")) = some true ∧ PySem.W.findIn K (.ref (He.ga K "Full")) "__getattribute__" = some (some (.builtin "BaseException.__getattribute__")) ∧ PySem.W.findIn K (.ref (He.ga K "Full")) "__getattr__" = some none ∧ PySem.W.hasDictIn K (He.ga K "Full") = true ∧ PySem.W.findIn K (.ref (He.ga K "Full")) "__class__" = some (some (.builtin "object.__class__")) ∧ PySem.W.mroIn K (He.ga K "Full") (.type "object") = some true))
def HdEx5 (K : PySem.W.Frag) : Prop := PySem.W.excOver K (He.ga K "Full") [.type "OverflowError", .type "ArithmeticError", .type "Exception", .type "BaseException", .type "object"] = true ∧ PySem.W.findIn K (.ref (He.ga K "Full")) "__setattr__" = some (some (.builtin "object.__setattr__"))
instance (K : PySem.W.Frag) : Decidable (HdEx5 K) := inferInstanceAs (Decidable (PySem.W.excOver K (He.ga K "Full") [.type "OverflowError", .type "ArithmeticError", .type "Exception", .type "BaseException", .type "object"] = true ∧ PySem.W.findIn K (.ref (He.ga K "Full")) "__setattr__" = some (some (.builtin "object.__setattr__"))))
def HdEx6 (K : PySem.W.Frag) : Prop := PySem.W.nsIn K mainGlobals "NoBack" = some (some (.ref (He.ga K "NoBack"))) ∧ PySem.W.excInitIn K (He.ga K "NoBack") [.type "ArithmeticError", .type "Exception", .type "BaseException", .type "object"] "ArithmeticError.__new__" = true ∧ PySem.W.keepIn K (.ref (He.ga K "NoBack")) = true ∧ PySem.W.subIn K (.ref (He.ga K "NoBack")) (.type "BaseException") = some true ∧ PySem.W.typeIn K (.ref (He.ga K "NoBack")) = some (.type "type") ∧ PySem.W.isClsIn K (He.ga K "NoBack") = true ∧ PySem.W.subIn K (.ref (He.ga K "NoBack")) (.ref (He.ga K "NoBack")) = some true ∧ PySem.W.findIn K (.ref (He.ga K "NoBack")) "__getattribute__" = some (some (.builtin "BaseException.__getattribute__")) ∧ PySem.W.findIn K (.ref (He.ga K "NoBack")) "__getattr__" = some none ∧ PySem.W.hasDictIn K (He.ga K "NoBack") = true ∧ PySem.W.findIn K (.ref (He.ga K "NoBack")) "__class__" = some (some (.builtin "object.__class__")) ∧ PySem.W.mroIn K (He.ga K "NoBack") (.type "object") = some true
instance (K : PySem.W.Frag) : Decidable (HdEx6 K) := inferInstanceAs (Decidable (PySem.W.nsIn K mainGlobals "NoBack" = some (some (.ref (He.ga K "NoBack"))) ∧ PySem.W.excInitIn K (He.ga K "NoBack") [.type "ArithmeticError", .type "Exception", .type "BaseException", .type "object"] "ArithmeticError.__new__" = true ∧ PySem.W.keepIn K (.ref (He.ga K "NoBack")) = true ∧ PySem.W.subIn K (.ref (He.ga K "NoBack")) (.type "BaseException") = some true ∧ PySem.W.typeIn K (.ref (He.ga K "NoBack")) = some (.type "type") ∧ PySem.W.isClsIn K (He.ga K "NoBack") = true ∧ PySem.W.subIn K (.ref (He.ga K "NoBack")) (.ref (He.ga K "NoBack")) = some true ∧ PySem.W.findIn K (.ref (He.ga K "NoBack")) "__getattribute__" = some (some (.builtin "BaseException.__getattribute__")) ∧ PySem.W.findIn K (.ref (He.ga K "NoBack")) "__getattr__" = some none ∧ PySem.W.hasDictIn K (He.ga K "NoBack") = true ∧ PySem.W.findIn K (.ref (He.ga K "NoBack")) "__class__" = some (some (.builtin "object.__class__")) ∧ PySem.W.mroIn K (He.ga K "NoBack") (.type "object") = some true))
def HdEx7 (K : PySem.W.Frag) : Prop := PySem.W.excOver K (He.ga K "NoBack") [.type "ArithmeticError", .type "Exception", .type "BaseException", .type "object"] = true ∧ PySem.W.findIn K (.ref (He.ga K "NoBack")) "__setattr__" = some (some (.builtin "object.__setattr__"))
instance (K : PySem.W.Frag) : Decidable (HdEx7 K) := inferInstanceAs (Decidable (PySem.W.excOver K (He.ga K "NoBack") [.type "ArithmeticError", .type "Exception", .type "BaseException", .type "object"] = true ∧ PySem.W.findIn K (.ref (He.ga K "NoBack")) "__setattr__" = some (some (.builtin "object.__setattr__"))))
def HdEx8 (K : PySem.W.Frag) : Prop := PySem.W.nsIn K mainGlobals "NoDeed" = some (some (.ref (He.ga K "NoDeed"))) ∧ PySem.W.excInitIn K (He.ga K "NoDeed") [.type "KeyError", .type "LookupError", .type "Exception", .type "BaseException", .type "object"] "LookupError.__new__" = true ∧ PySem.W.keepIn K (.ref (He.ga K "NoDeed")) = true ∧ PySem.W.subIn K (.ref (He.ga K "NoDeed")) (.type "BaseException") = some true ∧ PySem.W.typeIn K (.ref (He.ga K "NoDeed")) = some (.type "type") ∧ PySem.W.isClsIn K (He.ga K "NoDeed") = true ∧ PySem.W.subIn K (.ref (He.ga K "NoDeed")) (.ref (He.ga K "NoDeed")) = some true ∧ PySem.W.findIn K (.ref (He.ga K "NoDeed")) "__getattribute__" = some (some (.builtin "BaseException.__getattribute__")) ∧ PySem.W.findIn K (.ref (He.ga K "NoDeed")) "__getattr__" = some none ∧ PySem.W.hasDictIn K (He.ga K "NoDeed") = true ∧ PySem.W.findIn K (.ref (He.ga K "NoDeed")) "__class__" = some (some (.builtin "object.__class__")) ∧ PySem.W.mroIn K (He.ga K "NoDeed") (.type "object") = some true
instance (K : PySem.W.Frag) : Decidable (HdEx8 K) := inferInstanceAs (Decidable (PySem.W.nsIn K mainGlobals "NoDeed" = some (some (.ref (He.ga K "NoDeed"))) ∧ PySem.W.excInitIn K (He.ga K "NoDeed") [.type "KeyError", .type "LookupError", .type "Exception", .type "BaseException", .type "object"] "LookupError.__new__" = true ∧ PySem.W.keepIn K (.ref (He.ga K "NoDeed")) = true ∧ PySem.W.subIn K (.ref (He.ga K "NoDeed")) (.type "BaseException") = some true ∧ PySem.W.typeIn K (.ref (He.ga K "NoDeed")) = some (.type "type") ∧ PySem.W.isClsIn K (He.ga K "NoDeed") = true ∧ PySem.W.subIn K (.ref (He.ga K "NoDeed")) (.ref (He.ga K "NoDeed")) = some true ∧ PySem.W.findIn K (.ref (He.ga K "NoDeed")) "__getattribute__" = some (some (.builtin "BaseException.__getattribute__")) ∧ PySem.W.findIn K (.ref (He.ga K "NoDeed")) "__getattr__" = some none ∧ PySem.W.hasDictIn K (He.ga K "NoDeed") = true ∧ PySem.W.findIn K (.ref (He.ga K "NoDeed")) "__class__" = some (some (.builtin "object.__class__")) ∧ PySem.W.mroIn K (He.ga K "NoDeed") (.type "object") = some true))
def HdEx9 (K : PySem.W.Frag) : Prop := PySem.W.excOver K (He.ga K "NoDeed") [.type "KeyError", .type "LookupError", .type "Exception", .type "BaseException", .type "object"] = true ∧ PySem.W.findIn K (.ref (He.ga K "NoDeed")) "__setattr__" = some (some (.builtin "object.__setattr__"))
instance (K : PySem.W.Frag) : Decidable (HdEx9 K) := inferInstanceAs (Decidable (PySem.W.excOver K (He.ga K "NoDeed") [.type "KeyError", .type "LookupError", .type "Exception", .type "BaseException", .type "object"] = true ∧ PySem.W.findIn K (.ref (He.ga K "NoDeed")) "__setattr__" = some (some (.builtin "object.__setattr__"))))
def HdEx10 (K : PySem.W.Frag) : Prop := PySem.W.nsIn K mainGlobals "NoEnd" = some (some (.ref (He.ga K "NoEnd"))) ∧ PySem.W.excInitIn K (He.ga K "NoEnd") [.type "KeyError", .type "LookupError", .type "Exception", .type "BaseException", .type "object"] "LookupError.__new__" = true ∧ PySem.W.keepIn K (.ref (He.ga K "NoEnd")) = true ∧ PySem.W.subIn K (.ref (He.ga K "NoEnd")) (.type "BaseException") = some true ∧ PySem.W.typeIn K (.ref (He.ga K "NoEnd")) = some (.type "type") ∧ PySem.W.isClsIn K (He.ga K "NoEnd") = true ∧ PySem.W.subIn K (.ref (He.ga K "NoEnd")) (.ref (He.ga K "NoEnd")) = some true ∧ PySem.W.findIn K (.ref (He.ga K "NoEnd")) "__getattribute__" = some (some (.builtin "BaseException.__getattribute__")) ∧ PySem.W.findIn K (.ref (He.ga K "NoEnd")) "__getattr__" = some none ∧ PySem.W.hasDictIn K (He.ga K "NoEnd") = true ∧ PySem.W.findIn K (.ref (He.ga K "NoEnd")) "__class__" = some (some (.builtin "object.__class__")) ∧ PySem.W.mroIn K (He.ga K "NoEnd") (.type "object") = some true
instance (K : PySem.W.Frag) : Decidable (HdEx10 K) := inferInstanceAs (Decidable (PySem.W.nsIn K mainGlobals "NoEnd" = some (some (.ref (He.ga K "NoEnd"))) ∧ PySem.W.excInitIn K (He.ga K "NoEnd") [.type "KeyError", .type "LookupError", .type "Exception", .type "BaseException", .type "object"] "LookupError.__new__" = true ∧ PySem.W.keepIn K (.ref (He.ga K "NoEnd")) = true ∧ PySem.W.subIn K (.ref (He.ga K "NoEnd")) (.type "BaseException") = some true ∧ PySem.W.typeIn K (.ref (He.ga K "NoEnd")) = some (.type "type") ∧ PySem.W.isClsIn K (He.ga K "NoEnd") = true ∧ PySem.W.subIn K (.ref (He.ga K "NoEnd")) (.ref (He.ga K "NoEnd")) = some true ∧ PySem.W.findIn K (.ref (He.ga K "NoEnd")) "__getattribute__" = some (some (.builtin "BaseException.__getattribute__")) ∧ PySem.W.findIn K (.ref (He.ga K "NoEnd")) "__getattr__" = some none ∧ PySem.W.hasDictIn K (He.ga K "NoEnd") = true ∧ PySem.W.findIn K (.ref (He.ga K "NoEnd")) "__class__" = some (some (.builtin "object.__class__")) ∧ PySem.W.mroIn K (He.ga K "NoEnd") (.type "object") = some true))
def HdEx11 (K : PySem.W.Frag) : Prop := PySem.W.excOver K (He.ga K "NoEnd") [.type "KeyError", .type "LookupError", .type "Exception", .type "BaseException", .type "object"] = true ∧ PySem.W.findIn K (.ref (He.ga K "NoEnd")) "__setattr__" = some (some (.builtin "object.__setattr__"))
instance (K : PySem.W.Frag) : Decidable (HdEx11 K) := inferInstanceAs (Decidable (PySem.W.excOver K (He.ga K "NoEnd") [.type "KeyError", .type "LookupError", .type "Exception", .type "BaseException", .type "object"] = true ∧ PySem.W.findIn K (.ref (He.ga K "NoEnd")) "__setattr__" = some (some (.builtin "object.__setattr__"))))
def HdEx12 (K : PySem.W.Frag) : Prop := PySem.W.nsIn K mainGlobals "NoFold" = some (some (.ref (He.ga K "NoFold"))) ∧ PySem.W.excInitIn K (He.ga K "NoFold") [.type "RuntimeError", .type "Exception", .type "BaseException", .type "object"] "RuntimeError.__new__" = true ∧ PySem.W.keepIn K (.ref (He.ga K "NoFold")) = true ∧ PySem.W.subIn K (.ref (He.ga K "NoFold")) (.type "BaseException") = some true ∧ PySem.W.typeIn K (.ref (He.ga K "NoFold")) = some (.type "type") ∧ PySem.W.isClsIn K (He.ga K "NoFold") = true ∧ PySem.W.subIn K (.ref (He.ga K "NoFold")) (.ref (He.ga K "NoFold")) = some true ∧ PySem.W.findIn K (.ref (He.ga K "NoFold")) "__getattribute__" = some (some (.builtin "BaseException.__getattribute__")) ∧ PySem.W.findIn K (.ref (He.ga K "NoFold")) "__getattr__" = some none ∧ PySem.W.hasDictIn K (He.ga K "NoFold") = true ∧ PySem.W.findIn K (.ref (He.ga K "NoFold")) "__class__" = some (some (.builtin "object.__class__")) ∧ PySem.W.mroIn K (He.ga K "NoFold") (.type "object") = some true
instance (K : PySem.W.Frag) : Decidable (HdEx12 K) := inferInstanceAs (Decidable (PySem.W.nsIn K mainGlobals "NoFold" = some (some (.ref (He.ga K "NoFold"))) ∧ PySem.W.excInitIn K (He.ga K "NoFold") [.type "RuntimeError", .type "Exception", .type "BaseException", .type "object"] "RuntimeError.__new__" = true ∧ PySem.W.keepIn K (.ref (He.ga K "NoFold")) = true ∧ PySem.W.subIn K (.ref (He.ga K "NoFold")) (.type "BaseException") = some true ∧ PySem.W.typeIn K (.ref (He.ga K "NoFold")) = some (.type "type") ∧ PySem.W.isClsIn K (He.ga K "NoFold") = true ∧ PySem.W.subIn K (.ref (He.ga K "NoFold")) (.ref (He.ga K "NoFold")) = some true ∧ PySem.W.findIn K (.ref (He.ga K "NoFold")) "__getattribute__" = some (some (.builtin "BaseException.__getattribute__")) ∧ PySem.W.findIn K (.ref (He.ga K "NoFold")) "__getattr__" = some none ∧ PySem.W.hasDictIn K (He.ga K "NoFold") = true ∧ PySem.W.findIn K (.ref (He.ga K "NoFold")) "__class__" = some (some (.builtin "object.__class__")) ∧ PySem.W.mroIn K (He.ga K "NoFold") (.type "object") = some true))
def HdEx13 (K : PySem.W.Frag) : Prop := PySem.W.excOver K (He.ga K "NoFold") [.type "RuntimeError", .type "Exception", .type "BaseException", .type "object"] = true ∧ PySem.W.findIn K (.ref (He.ga K "NoFold")) "__setattr__" = some (some (.builtin "object.__setattr__"))
instance (K : PySem.W.Frag) : Decidable (HdEx13 K) := inferInstanceAs (Decidable (PySem.W.excOver K (He.ga K "NoFold") [.type "RuntimeError", .type "Exception", .type "BaseException", .type "object"] = true ∧ PySem.W.findIn K (.ref (He.ga K "NoFold")) "__setattr__" = some (some (.builtin "object.__setattr__"))))
def HdEx14 (K : PySem.W.Frag) : Prop := PySem.W.nsIn K mainGlobals "NoGiven" = some (some (.ref (He.ga K "NoGiven"))) ∧ PySem.W.excInitIn K (He.ga K "NoGiven") [.type "ValueError", .type "Exception", .type "BaseException", .type "object"] "ValueError.__new__" = true ∧ PySem.W.keepIn K (.ref (He.ga K "NoGiven")) = true ∧ PySem.W.subIn K (.ref (He.ga K "NoGiven")) (.type "BaseException") = some true ∧ PySem.W.typeIn K (.ref (He.ga K "NoGiven")) = some (.type "type") ∧ PySem.W.isClsIn K (He.ga K "NoGiven") = true ∧ PySem.W.subIn K (.ref (He.ga K "NoGiven")) (.ref (He.ga K "NoGiven")) = some true ∧ PySem.W.findIn K (.ref (He.ga K "NoGiven")) "__getattribute__" = some (some (.builtin "BaseException.__getattribute__")) ∧ PySem.W.findIn K (.ref (He.ga K "NoGiven")) "__getattr__" = some none ∧ PySem.W.hasDictIn K (He.ga K "NoGiven") = true ∧ PySem.W.findIn K (.ref (He.ga K "NoGiven")) "__class__" = some (some (.builtin "object.__class__")) ∧ PySem.W.mroIn K (He.ga K "NoGiven") (.type "object") = some true
instance (K : PySem.W.Frag) : Decidable (HdEx14 K) := inferInstanceAs (Decidable (PySem.W.nsIn K mainGlobals "NoGiven" = some (some (.ref (He.ga K "NoGiven"))) ∧ PySem.W.excInitIn K (He.ga K "NoGiven") [.type "ValueError", .type "Exception", .type "BaseException", .type "object"] "ValueError.__new__" = true ∧ PySem.W.keepIn K (.ref (He.ga K "NoGiven")) = true ∧ PySem.W.subIn K (.ref (He.ga K "NoGiven")) (.type "BaseException") = some true ∧ PySem.W.typeIn K (.ref (He.ga K "NoGiven")) = some (.type "type") ∧ PySem.W.isClsIn K (He.ga K "NoGiven") = true ∧ PySem.W.subIn K (.ref (He.ga K "NoGiven")) (.ref (He.ga K "NoGiven")) = some true ∧ PySem.W.findIn K (.ref (He.ga K "NoGiven")) "__getattribute__" = some (some (.builtin "BaseException.__getattribute__")) ∧ PySem.W.findIn K (.ref (He.ga K "NoGiven")) "__getattr__" = some none ∧ PySem.W.hasDictIn K (He.ga K "NoGiven") = true ∧ PySem.W.findIn K (.ref (He.ga K "NoGiven")) "__class__" = some (some (.builtin "object.__class__")) ∧ PySem.W.mroIn K (He.ga K "NoGiven") (.type "object") = some true))
def HdEx15 (K : PySem.W.Frag) : Prop := PySem.W.excOver K (He.ga K "NoGiven") [.type "ValueError", .type "Exception", .type "BaseException", .type "object"] = true ∧ PySem.W.findIn K (.ref (He.ga K "NoGiven")) "__setattr__" = some (some (.builtin "object.__setattr__"))
instance (K : PySem.W.Frag) : Decidable (HdEx15 K) := inferInstanceAs (Decidable (PySem.W.excOver K (He.ga K "NoGiven") [.type "ValueError", .type "Exception", .type "BaseException", .type "object"] = true ∧ PySem.W.findIn K (.ref (He.ga K "NoGiven")) "__setattr__" = some (some (.builtin "object.__setattr__"))))
def HdEx16 (K : PySem.W.Frag) : Prop := PySem.W.nsIn K mainGlobals "NoMachine" = some (some (.ref (He.ga K "NoMachine"))) ∧ PySem.W.excInitIn K (He.ga K "NoMachine") [.type "ValueError", .type "Exception", .type "BaseException", .type "object"] "ValueError.__new__" = true ∧ PySem.W.keepIn K (.ref (He.ga K "NoMachine")) = true ∧ PySem.W.subIn K (.ref (He.ga K "NoMachine")) (.type "BaseException") = some true ∧ PySem.W.typeIn K (.ref (He.ga K "NoMachine")) = some (.type "type") ∧ PySem.W.isClsIn K (He.ga K "NoMachine") = true ∧ PySem.W.subIn K (.ref (He.ga K "NoMachine")) (.ref (He.ga K "NoMachine")) = some true ∧ PySem.W.findIn K (.ref (He.ga K "NoMachine")) "__getattribute__" = some (some (.builtin "BaseException.__getattribute__")) ∧ PySem.W.findIn K (.ref (He.ga K "NoMachine")) "__getattr__" = some none ∧ PySem.W.hasDictIn K (He.ga K "NoMachine") = true ∧ PySem.W.findIn K (.ref (He.ga K "NoMachine")) "__class__" = some (some (.builtin "object.__class__")) ∧ PySem.W.mroIn K (He.ga K "NoMachine") (.type "object") = some true
instance (K : PySem.W.Frag) : Decidable (HdEx16 K) := inferInstanceAs (Decidable (PySem.W.nsIn K mainGlobals "NoMachine" = some (some (.ref (He.ga K "NoMachine"))) ∧ PySem.W.excInitIn K (He.ga K "NoMachine") [.type "ValueError", .type "Exception", .type "BaseException", .type "object"] "ValueError.__new__" = true ∧ PySem.W.keepIn K (.ref (He.ga K "NoMachine")) = true ∧ PySem.W.subIn K (.ref (He.ga K "NoMachine")) (.type "BaseException") = some true ∧ PySem.W.typeIn K (.ref (He.ga K "NoMachine")) = some (.type "type") ∧ PySem.W.isClsIn K (He.ga K "NoMachine") = true ∧ PySem.W.subIn K (.ref (He.ga K "NoMachine")) (.ref (He.ga K "NoMachine")) = some true ∧ PySem.W.findIn K (.ref (He.ga K "NoMachine")) "__getattribute__" = some (some (.builtin "BaseException.__getattribute__")) ∧ PySem.W.findIn K (.ref (He.ga K "NoMachine")) "__getattr__" = some none ∧ PySem.W.hasDictIn K (He.ga K "NoMachine") = true ∧ PySem.W.findIn K (.ref (He.ga K "NoMachine")) "__class__" = some (some (.builtin "object.__class__")) ∧ PySem.W.mroIn K (He.ga K "NoMachine") (.type "object") = some true))
def HdEx17 (K : PySem.W.Frag) : Prop := PySem.W.excOver K (He.ga K "NoMachine") [.type "ValueError", .type "Exception", .type "BaseException", .type "object"] = true ∧ PySem.W.findIn K (.ref (He.ga K "NoMachine")) "__setattr__" = some (some (.builtin "object.__setattr__"))
instance (K : PySem.W.Frag) : Decidable (HdEx17 K) := inferInstanceAs (Decidable (PySem.W.excOver K (He.ga K "NoMachine") [.type "ValueError", .type "Exception", .type "BaseException", .type "object"] = true ∧ PySem.W.findIn K (.ref (He.ga K "NoMachine")) "__setattr__" = some (some (.builtin "object.__setattr__"))))
def HdEx18 (K : PySem.W.Frag) : Prop := PySem.W.nsIn K mainGlobals "NoMark" = some (some (.ref (He.ga K "NoMark"))) ∧ PySem.W.excInitIn K (He.ga K "NoMark") [.type "KeyError", .type "LookupError", .type "Exception", .type "BaseException", .type "object"] "LookupError.__new__" = true ∧ PySem.W.keepIn K (.ref (He.ga K "NoMark")) = true ∧ PySem.W.subIn K (.ref (He.ga K "NoMark")) (.type "BaseException") = some true ∧ PySem.W.typeIn K (.ref (He.ga K "NoMark")) = some (.type "type") ∧ PySem.W.isClsIn K (He.ga K "NoMark") = true ∧ PySem.W.subIn K (.ref (He.ga K "NoMark")) (.ref (He.ga K "NoMark")) = some true ∧ PySem.W.findIn K (.ref (He.ga K "NoMark")) "__getattribute__" = some (some (.builtin "BaseException.__getattribute__")) ∧ PySem.W.findIn K (.ref (He.ga K "NoMark")) "__getattr__" = some none ∧ PySem.W.hasDictIn K (He.ga K "NoMark") = true ∧ PySem.W.findIn K (.ref (He.ga K "NoMark")) "__class__" = some (some (.builtin "object.__class__")) ∧ PySem.W.mroIn K (He.ga K "NoMark") (.type "object") = some true
instance (K : PySem.W.Frag) : Decidable (HdEx18 K) := inferInstanceAs (Decidable (PySem.W.nsIn K mainGlobals "NoMark" = some (some (.ref (He.ga K "NoMark"))) ∧ PySem.W.excInitIn K (He.ga K "NoMark") [.type "KeyError", .type "LookupError", .type "Exception", .type "BaseException", .type "object"] "LookupError.__new__" = true ∧ PySem.W.keepIn K (.ref (He.ga K "NoMark")) = true ∧ PySem.W.subIn K (.ref (He.ga K "NoMark")) (.type "BaseException") = some true ∧ PySem.W.typeIn K (.ref (He.ga K "NoMark")) = some (.type "type") ∧ PySem.W.isClsIn K (He.ga K "NoMark") = true ∧ PySem.W.subIn K (.ref (He.ga K "NoMark")) (.ref (He.ga K "NoMark")) = some true ∧ PySem.W.findIn K (.ref (He.ga K "NoMark")) "__getattribute__" = some (some (.builtin "BaseException.__getattribute__")) ∧ PySem.W.findIn K (.ref (He.ga K "NoMark")) "__getattr__" = some none ∧ PySem.W.hasDictIn K (He.ga K "NoMark") = true ∧ PySem.W.findIn K (.ref (He.ga K "NoMark")) "__class__" = some (some (.builtin "object.__class__")) ∧ PySem.W.mroIn K (He.ga K "NoMark") (.type "object") = some true))
def HdEx19 (K : PySem.W.Frag) : Prop := PySem.W.excOver K (He.ga K "NoMark") [.type "KeyError", .type "LookupError", .type "Exception", .type "BaseException", .type "object"] = true ∧ PySem.W.findIn K (.ref (He.ga K "NoMark")) "__setattr__" = some (some (.builtin "object.__setattr__"))
instance (K : PySem.W.Frag) : Decidable (HdEx19 K) := inferInstanceAs (Decidable (PySem.W.excOver K (He.ga K "NoMark") [.type "KeyError", .type "LookupError", .type "Exception", .type "BaseException", .type "object"] = true ∧ PySem.W.findIn K (.ref (He.ga K "NoMark")) "__setattr__" = some (some (.builtin "object.__setattr__"))))
def HdEx20 (K : PySem.W.Frag) : Prop := PySem.W.nsIn K mainGlobals "NoName" = some (some (.ref (He.ga K "NoName"))) ∧ PySem.W.excInitIn K (He.ga K "NoName") [.type "KeyError", .type "LookupError", .type "Exception", .type "BaseException", .type "object"] "LookupError.__new__" = true ∧ PySem.W.keepIn K (.ref (He.ga K "NoName")) = true ∧ PySem.W.subIn K (.ref (He.ga K "NoName")) (.type "BaseException") = some true ∧ PySem.W.typeIn K (.ref (He.ga K "NoName")) = some (.type "type") ∧ PySem.W.isClsIn K (He.ga K "NoName") = true ∧ PySem.W.subIn K (.ref (He.ga K "NoName")) (.ref (He.ga K "NoName")) = some true ∧ PySem.W.findIn K (.ref (He.ga K "NoName")) "__getattribute__" = some (some (.builtin "BaseException.__getattribute__")) ∧ PySem.W.findIn K (.ref (He.ga K "NoName")) "__getattr__" = some none ∧ PySem.W.hasDictIn K (He.ga K "NoName") = true ∧ PySem.W.findIn K (.ref (He.ga K "NoName")) "__class__" = some (some (.builtin "object.__class__")) ∧ PySem.W.mroIn K (He.ga K "NoName") (.type "object") = some true
instance (K : PySem.W.Frag) : Decidable (HdEx20 K) := inferInstanceAs (Decidable (PySem.W.nsIn K mainGlobals "NoName" = some (some (.ref (He.ga K "NoName"))) ∧ PySem.W.excInitIn K (He.ga K "NoName") [.type "KeyError", .type "LookupError", .type "Exception", .type "BaseException", .type "object"] "LookupError.__new__" = true ∧ PySem.W.keepIn K (.ref (He.ga K "NoName")) = true ∧ PySem.W.subIn K (.ref (He.ga K "NoName")) (.type "BaseException") = some true ∧ PySem.W.typeIn K (.ref (He.ga K "NoName")) = some (.type "type") ∧ PySem.W.isClsIn K (He.ga K "NoName") = true ∧ PySem.W.subIn K (.ref (He.ga K "NoName")) (.ref (He.ga K "NoName")) = some true ∧ PySem.W.findIn K (.ref (He.ga K "NoName")) "__getattribute__" = some (some (.builtin "BaseException.__getattribute__")) ∧ PySem.W.findIn K (.ref (He.ga K "NoName")) "__getattr__" = some none ∧ PySem.W.hasDictIn K (He.ga K "NoName") = true ∧ PySem.W.findIn K (.ref (He.ga K "NoName")) "__class__" = some (some (.builtin "object.__class__")) ∧ PySem.W.mroIn K (He.ga K "NoName") (.type "object") = some true))
def HdEx21 (K : PySem.W.Frag) : Prop := PySem.W.excOver K (He.ga K "NoName") [.type "KeyError", .type "LookupError", .type "Exception", .type "BaseException", .type "object"] = true ∧ PySem.W.findIn K (.ref (He.ga K "NoName")) "__setattr__" = some (some (.builtin "object.__setattr__"))
instance (K : PySem.W.Frag) : Decidable (HdEx21 K) := inferInstanceAs (Decidable (PySem.W.excOver K (He.ga K "NoName") [.type "KeyError", .type "LookupError", .type "Exception", .type "BaseException", .type "object"] = true ∧ PySem.W.findIn K (.ref (He.ga K "NoName")) "__setattr__" = some (some (.builtin "object.__setattr__"))))
def HdEx22 (K : PySem.W.Frag) : Prop := PySem.W.nsIn K mainGlobals "NoNumber" = some (some (.ref (He.ga K "NoNumber"))) ∧ PySem.W.excInitIn K (He.ga K "NoNumber") [.type "LookupError", .type "Exception", .type "BaseException", .type "object"] "LookupError.__new__" = true ∧ PySem.W.keepIn K (.ref (He.ga K "NoNumber")) = true ∧ PySem.W.subIn K (.ref (He.ga K "NoNumber")) (.type "BaseException") = some true ∧ PySem.W.typeIn K (.ref (He.ga K "NoNumber")) = some (.type "type") ∧ PySem.W.isClsIn K (He.ga K "NoNumber") = true ∧ PySem.W.subIn K (.ref (He.ga K "NoNumber")) (.ref (He.ga K "NoNumber")) = some true ∧ PySem.W.findIn K (.ref (He.ga K "NoNumber")) "__getattribute__" = some (some (.builtin "BaseException.__getattribute__")) ∧ PySem.W.findIn K (.ref (He.ga K "NoNumber")) "__getattr__" = some none ∧ PySem.W.hasDictIn K (He.ga K "NoNumber") = true ∧ PySem.W.findIn K (.ref (He.ga K "NoNumber")) "__class__" = some (some (.builtin "object.__class__")) ∧ PySem.W.mroIn K (He.ga K "NoNumber") (.type "object") = some true
instance (K : PySem.W.Frag) : Decidable (HdEx22 K) := inferInstanceAs (Decidable (PySem.W.nsIn K mainGlobals "NoNumber" = some (some (.ref (He.ga K "NoNumber"))) ∧ PySem.W.excInitIn K (He.ga K "NoNumber") [.type "LookupError", .type "Exception", .type "BaseException", .type "object"] "LookupError.__new__" = true ∧ PySem.W.keepIn K (.ref (He.ga K "NoNumber")) = true ∧ PySem.W.subIn K (.ref (He.ga K "NoNumber")) (.type "BaseException") = some true ∧ PySem.W.typeIn K (.ref (He.ga K "NoNumber")) = some (.type "type") ∧ PySem.W.isClsIn K (He.ga K "NoNumber") = true ∧ PySem.W.subIn K (.ref (He.ga K "NoNumber")) (.ref (He.ga K "NoNumber")) = some true ∧ PySem.W.findIn K (.ref (He.ga K "NoNumber")) "__getattribute__" = some (some (.builtin "BaseException.__getattribute__")) ∧ PySem.W.findIn K (.ref (He.ga K "NoNumber")) "__getattr__" = some none ∧ PySem.W.hasDictIn K (He.ga K "NoNumber") = true ∧ PySem.W.findIn K (.ref (He.ga K "NoNumber")) "__class__" = some (some (.builtin "object.__class__")) ∧ PySem.W.mroIn K (He.ga K "NoNumber") (.type "object") = some true))
def HdEx23 (K : PySem.W.Frag) : Prop := PySem.W.excOver K (He.ga K "NoNumber") [.type "LookupError", .type "Exception", .type "BaseException", .type "object"] = true ∧ PySem.W.findIn K (.ref (He.ga K "NoNumber")) "__setattr__" = some (some (.builtin "object.__setattr__"))
instance (K : PySem.W.Frag) : Decidable (HdEx23 K) := inferInstanceAs (Decidable (PySem.W.excOver K (He.ga K "NoNumber") [.type "LookupError", .type "Exception", .type "BaseException", .type "object"] = true ∧ PySem.W.findIn K (.ref (He.ga K "NoNumber")) "__setattr__" = some (some (.builtin "object.__setattr__"))))
def HdEx24 (K : PySem.W.Frag) : Prop := PySem.W.nsIn K mainGlobals "NoPairs" = some (some (.ref (He.ga K "NoPairs"))) ∧ PySem.W.excInitIn K (He.ga K "NoPairs") [.type "ValueError", .type "Exception", .type "BaseException", .type "object"] "ValueError.__new__" = true ∧ PySem.W.keepIn K (.ref (He.ga K "NoPairs")) = true ∧ PySem.W.subIn K (.ref (He.ga K "NoPairs")) (.type "BaseException") = some true ∧ PySem.W.typeIn K (.ref (He.ga K "NoPairs")) = some (.type "type") ∧ PySem.W.isClsIn K (He.ga K "NoPairs") = true ∧ PySem.W.subIn K (.ref (He.ga K "NoPairs")) (.ref (He.ga K "NoPairs")) = some true ∧ PySem.W.findIn K (.ref (He.ga K "NoPairs")) "__getattribute__" = some (some (.builtin "BaseException.__getattribute__")) ∧ PySem.W.findIn K (.ref (He.ga K "NoPairs")) "__getattr__" = some none ∧ PySem.W.hasDictIn K (He.ga K "NoPairs") = true ∧ PySem.W.findIn K (.ref (He.ga K "NoPairs")) "__class__" = some (some (.builtin "object.__class__")) ∧ PySem.W.mroIn K (He.ga K "NoPairs") (.type "object") = some true
instance (K : PySem.W.Frag) : Decidable (HdEx24 K) := inferInstanceAs (Decidable (PySem.W.nsIn K mainGlobals "NoPairs" = some (some (.ref (He.ga K "NoPairs"))) ∧ PySem.W.excInitIn K (He.ga K "NoPairs") [.type "ValueError", .type "Exception", .type "BaseException", .type "object"] "ValueError.__new__" = true ∧ PySem.W.keepIn K (.ref (He.ga K "NoPairs")) = true ∧ PySem.W.subIn K (.ref (He.ga K "NoPairs")) (.type "BaseException") = some true ∧ PySem.W.typeIn K (.ref (He.ga K "NoPairs")) = some (.type "type") ∧ PySem.W.isClsIn K (He.ga K "NoPairs") = true ∧ PySem.W.subIn K (.ref (He.ga K "NoPairs")) (.ref (He.ga K "NoPairs")) = some true ∧ PySem.W.findIn K (.ref (He.ga K "NoPairs")) "__getattribute__" = some (some (.builtin "BaseException.__getattribute__")) ∧ PySem.W.findIn K (.ref (He.ga K "NoPairs")) "__getattr__" = some none ∧ PySem.W.hasDictIn K (He.ga K "NoPairs") = true ∧ PySem.W.findIn K (.ref (He.ga K "NoPairs")) "__class__" = some (some (.builtin "object.__class__")) ∧ PySem.W.mroIn K (He.ga K "NoPairs") (.type "object") = some true))
def HdEx25 (K : PySem.W.Frag) : Prop := PySem.W.excOver K (He.ga K "NoPairs") [.type "ValueError", .type "Exception", .type "BaseException", .type "object"] = true ∧ PySem.W.findIn K (.ref (He.ga K "NoPairs")) "__setattr__" = some (some (.builtin "object.__setattr__"))
instance (K : PySem.W.Frag) : Decidable (HdEx25 K) := inferInstanceAs (Decidable (PySem.W.excOver K (He.ga K "NoPairs") [.type "ValueError", .type "Exception", .type "BaseException", .type "object"] = true ∧ PySem.W.findIn K (.ref (He.ga K "NoPairs")) "__setattr__" = some (some (.builtin "object.__setattr__"))))
def HdEx26 (K : PySem.W.Frag) : Prop := PySem.W.nsIn K mainGlobals "NoRow" = some (some (.ref (He.ga K "NoRow"))) ∧ PySem.W.excIn K (He.ga K "NoRow") [.type "ValueError", .type "Exception", .type "BaseException", .type "object"] "ValueError.__new__" = true ∧ PySem.W.keepIn K (.ref (He.ga K "NoRow")) = true ∧ PySem.W.subIn K (.ref (He.ga K "NoRow")) (.type "BaseException") = some true ∧ PySem.W.typeIn K (.ref (He.ga K "NoRow")) = some (.type "type") ∧ PySem.W.isClsIn K (He.ga K "NoRow") = true ∧ PySem.W.subIn K (.ref (He.ga K "NoRow")) (.ref (He.ga K "NoRow")) = some true ∧ PySem.W.findIn K (.ref (He.ga K "NoRow")) "__getattribute__" = some (some (.builtin "BaseException.__getattribute__")) ∧ PySem.W.findIn K (.ref (He.ga K "NoRow")) "__getattr__" = some none ∧ PySem.W.hasDictIn K (He.ga K "NoRow") = true ∧ PySem.W.findIn K (.ref (He.ga K "NoRow")) "__class__" = some (some (.builtin "object.__class__")) ∧ PySem.W.mroIn K (He.ga K "NoRow") (.type "object") = some true
instance (K : PySem.W.Frag) : Decidable (HdEx26 K) := inferInstanceAs (Decidable (PySem.W.nsIn K mainGlobals "NoRow" = some (some (.ref (He.ga K "NoRow"))) ∧ PySem.W.excIn K (He.ga K "NoRow") [.type "ValueError", .type "Exception", .type "BaseException", .type "object"] "ValueError.__new__" = true ∧ PySem.W.keepIn K (.ref (He.ga K "NoRow")) = true ∧ PySem.W.subIn K (.ref (He.ga K "NoRow")) (.type "BaseException") = some true ∧ PySem.W.typeIn K (.ref (He.ga K "NoRow")) = some (.type "type") ∧ PySem.W.isClsIn K (He.ga K "NoRow") = true ∧ PySem.W.subIn K (.ref (He.ga K "NoRow")) (.ref (He.ga K "NoRow")) = some true ∧ PySem.W.findIn K (.ref (He.ga K "NoRow")) "__getattribute__" = some (some (.builtin "BaseException.__getattribute__")) ∧ PySem.W.findIn K (.ref (He.ga K "NoRow")) "__getattr__" = some none ∧ PySem.W.hasDictIn K (He.ga K "NoRow") = true ∧ PySem.W.findIn K (.ref (He.ga K "NoRow")) "__class__" = some (some (.builtin "object.__class__")) ∧ PySem.W.mroIn K (He.ga K "NoRow") (.type "object") = some true))
def HdEx27 (K : PySem.W.Frag) : Prop := PySem.W.nsIn K mainGlobals "NoSeam" = some (some (.ref (He.ga K "NoSeam"))) ∧ PySem.W.excInitIn K (He.ga K "NoSeam") [.type "LookupError", .type "Exception", .type "BaseException", .type "object"] "LookupError.__new__" = true ∧ PySem.W.keepIn K (.ref (He.ga K "NoSeam")) = true ∧ PySem.W.subIn K (.ref (He.ga K "NoSeam")) (.type "BaseException") = some true ∧ PySem.W.typeIn K (.ref (He.ga K "NoSeam")) = some (.type "type") ∧ PySem.W.isClsIn K (He.ga K "NoSeam") = true ∧ PySem.W.subIn K (.ref (He.ga K "NoSeam")) (.ref (He.ga K "NoSeam")) = some true ∧ PySem.W.findIn K (.ref (He.ga K "NoSeam")) "__getattribute__" = some (some (.builtin "BaseException.__getattribute__")) ∧ PySem.W.findIn K (.ref (He.ga K "NoSeam")) "__getattr__" = some none ∧ PySem.W.hasDictIn K (He.ga K "NoSeam") = true ∧ PySem.W.findIn K (.ref (He.ga K "NoSeam")) "__class__" = some (some (.builtin "object.__class__")) ∧ PySem.W.mroIn K (He.ga K "NoSeam") (.type "object") = some true
instance (K : PySem.W.Frag) : Decidable (HdEx27 K) := inferInstanceAs (Decidable (PySem.W.nsIn K mainGlobals "NoSeam" = some (some (.ref (He.ga K "NoSeam"))) ∧ PySem.W.excInitIn K (He.ga K "NoSeam") [.type "LookupError", .type "Exception", .type "BaseException", .type "object"] "LookupError.__new__" = true ∧ PySem.W.keepIn K (.ref (He.ga K "NoSeam")) = true ∧ PySem.W.subIn K (.ref (He.ga K "NoSeam")) (.type "BaseException") = some true ∧ PySem.W.typeIn K (.ref (He.ga K "NoSeam")) = some (.type "type") ∧ PySem.W.isClsIn K (He.ga K "NoSeam") = true ∧ PySem.W.subIn K (.ref (He.ga K "NoSeam")) (.ref (He.ga K "NoSeam")) = some true ∧ PySem.W.findIn K (.ref (He.ga K "NoSeam")) "__getattribute__" = some (some (.builtin "BaseException.__getattribute__")) ∧ PySem.W.findIn K (.ref (He.ga K "NoSeam")) "__getattr__" = some none ∧ PySem.W.hasDictIn K (He.ga K "NoSeam") = true ∧ PySem.W.findIn K (.ref (He.ga K "NoSeam")) "__class__" = some (some (.builtin "object.__class__")) ∧ PySem.W.mroIn K (He.ga K "NoSeam") (.type "object") = some true))
def HdEx28 (K : PySem.W.Frag) : Prop := PySem.W.excOver K (He.ga K "NoSeam") [.type "LookupError", .type "Exception", .type "BaseException", .type "object"] = true ∧ PySem.W.findIn K (.ref (He.ga K "NoSeam")) "__setattr__" = some (some (.builtin "object.__setattr__"))
instance (K : PySem.W.Frag) : Decidable (HdEx28 K) := inferInstanceAs (Decidable (PySem.W.excOver K (He.ga K "NoSeam") [.type "LookupError", .type "Exception", .type "BaseException", .type "object"] = true ∧ PySem.W.findIn K (.ref (He.ga K "NoSeam")) "__setattr__" = some (some (.builtin "object.__setattr__"))))
def HdEx29 (K : PySem.W.Frag) : Prop := PySem.W.nsIn K mainGlobals "NoSign" = some (some (.ref (He.ga K "NoSign"))) ∧ PySem.W.excInitIn K (He.ga K "NoSign") [.type "ValueError", .type "Exception", .type "BaseException", .type "object"] "ValueError.__new__" = true ∧ PySem.W.keepIn K (.ref (He.ga K "NoSign")) = true ∧ PySem.W.subIn K (.ref (He.ga K "NoSign")) (.type "BaseException") = some true ∧ PySem.W.typeIn K (.ref (He.ga K "NoSign")) = some (.type "type") ∧ PySem.W.isClsIn K (He.ga K "NoSign") = true ∧ PySem.W.subIn K (.ref (He.ga K "NoSign")) (.ref (He.ga K "NoSign")) = some true ∧ PySem.W.findIn K (.ref (He.ga K "NoSign")) "__getattribute__" = some (some (.builtin "BaseException.__getattribute__")) ∧ PySem.W.findIn K (.ref (He.ga K "NoSign")) "__getattr__" = some none ∧ PySem.W.hasDictIn K (He.ga K "NoSign") = true ∧ PySem.W.findIn K (.ref (He.ga K "NoSign")) "__class__" = some (some (.builtin "object.__class__")) ∧ PySem.W.mroIn K (He.ga K "NoSign") (.type "object") = some true
instance (K : PySem.W.Frag) : Decidable (HdEx29 K) := inferInstanceAs (Decidable (PySem.W.nsIn K mainGlobals "NoSign" = some (some (.ref (He.ga K "NoSign"))) ∧ PySem.W.excInitIn K (He.ga K "NoSign") [.type "ValueError", .type "Exception", .type "BaseException", .type "object"] "ValueError.__new__" = true ∧ PySem.W.keepIn K (.ref (He.ga K "NoSign")) = true ∧ PySem.W.subIn K (.ref (He.ga K "NoSign")) (.type "BaseException") = some true ∧ PySem.W.typeIn K (.ref (He.ga K "NoSign")) = some (.type "type") ∧ PySem.W.isClsIn K (He.ga K "NoSign") = true ∧ PySem.W.subIn K (.ref (He.ga K "NoSign")) (.ref (He.ga K "NoSign")) = some true ∧ PySem.W.findIn K (.ref (He.ga K "NoSign")) "__getattribute__" = some (some (.builtin "BaseException.__getattribute__")) ∧ PySem.W.findIn K (.ref (He.ga K "NoSign")) "__getattr__" = some none ∧ PySem.W.hasDictIn K (He.ga K "NoSign") = true ∧ PySem.W.findIn K (.ref (He.ga K "NoSign")) "__class__" = some (some (.builtin "object.__class__")) ∧ PySem.W.mroIn K (He.ga K "NoSign") (.type "object") = some true))
def HdEx30 (K : PySem.W.Frag) : Prop := PySem.W.excOver K (He.ga K "NoSign") [.type "ValueError", .type "Exception", .type "BaseException", .type "object"] = true ∧ PySem.W.findIn K (.ref (He.ga K "NoSign")) "__setattr__" = some (some (.builtin "object.__setattr__"))
instance (K : PySem.W.Frag) : Decidable (HdEx30 K) := inferInstanceAs (Decidable (PySem.W.excOver K (He.ga K "NoSign") [.type "ValueError", .type "Exception", .type "BaseException", .type "object"] = true ∧ PySem.W.findIn K (.ref (He.ga K "NoSign")) "__setattr__" = some (some (.builtin "object.__setattr__"))))
def HdEx31 (K : PySem.W.Frag) : Prop := PySem.W.nsIn K mainGlobals "NoStep" = some (some (.ref (He.ga K "NoStep"))) ∧ PySem.W.excInitIn K (He.ga K "NoStep") [.type "LookupError", .type "Exception", .type "BaseException", .type "object"] "LookupError.__new__" = true ∧ PySem.W.keepIn K (.ref (He.ga K "NoStep")) = true ∧ PySem.W.subIn K (.ref (He.ga K "NoStep")) (.type "BaseException") = some true ∧ PySem.W.typeIn K (.ref (He.ga K "NoStep")) = some (.type "type") ∧ PySem.W.isClsIn K (He.ga K "NoStep") = true ∧ PySem.W.subIn K (.ref (He.ga K "NoStep")) (.ref (He.ga K "NoStep")) = some true ∧ PySem.W.findIn K (.ref (He.ga K "NoStep")) "__getattribute__" = some (some (.builtin "BaseException.__getattribute__")) ∧ PySem.W.findIn K (.ref (He.ga K "NoStep")) "__getattr__" = some none ∧ PySem.W.hasDictIn K (He.ga K "NoStep") = true ∧ PySem.W.findIn K (.ref (He.ga K "NoStep")) "__class__" = some (some (.builtin "object.__class__")) ∧ PySem.W.mroIn K (He.ga K "NoStep") (.type "object") = some true
instance (K : PySem.W.Frag) : Decidable (HdEx31 K) := inferInstanceAs (Decidable (PySem.W.nsIn K mainGlobals "NoStep" = some (some (.ref (He.ga K "NoStep"))) ∧ PySem.W.excInitIn K (He.ga K "NoStep") [.type "LookupError", .type "Exception", .type "BaseException", .type "object"] "LookupError.__new__" = true ∧ PySem.W.keepIn K (.ref (He.ga K "NoStep")) = true ∧ PySem.W.subIn K (.ref (He.ga K "NoStep")) (.type "BaseException") = some true ∧ PySem.W.typeIn K (.ref (He.ga K "NoStep")) = some (.type "type") ∧ PySem.W.isClsIn K (He.ga K "NoStep") = true ∧ PySem.W.subIn K (.ref (He.ga K "NoStep")) (.ref (He.ga K "NoStep")) = some true ∧ PySem.W.findIn K (.ref (He.ga K "NoStep")) "__getattribute__" = some (some (.builtin "BaseException.__getattribute__")) ∧ PySem.W.findIn K (.ref (He.ga K "NoStep")) "__getattr__" = some none ∧ PySem.W.hasDictIn K (He.ga K "NoStep") = true ∧ PySem.W.findIn K (.ref (He.ga K "NoStep")) "__class__" = some (some (.builtin "object.__class__")) ∧ PySem.W.mroIn K (He.ga K "NoStep") (.type "object") = some true))
def HdEx32 (K : PySem.W.Frag) : Prop := PySem.W.excOver K (He.ga K "NoStep") [.type "LookupError", .type "Exception", .type "BaseException", .type "object"] = true ∧ PySem.W.findIn K (.ref (He.ga K "NoStep")) "__setattr__" = some (some (.builtin "object.__setattr__"))
instance (K : PySem.W.Frag) : Decidable (HdEx32 K) := inferInstanceAs (Decidable (PySem.W.excOver K (He.ga K "NoStep") [.type "LookupError", .type "Exception", .type "BaseException", .type "object"] = true ∧ PySem.W.findIn K (.ref (He.ga K "NoStep")) "__setattr__" = some (some (.builtin "object.__setattr__"))))
def HdEx33 (K : PySem.W.Frag) : Prop := PySem.W.nsIn K mainGlobals "NoText" = some (some (.ref (He.ga K "NoText"))) ∧ PySem.W.excIn K (He.ga K "NoText") [.type "ValueError", .type "Exception", .type "BaseException", .type "object"] "ValueError.__new__" = true ∧ PySem.W.keepIn K (.ref (He.ga K "NoText")) = true ∧ PySem.W.subIn K (.ref (He.ga K "NoText")) (.type "BaseException") = some true ∧ PySem.W.typeIn K (.ref (He.ga K "NoText")) = some (.type "type") ∧ PySem.W.isClsIn K (He.ga K "NoText") = true ∧ PySem.W.subIn K (.ref (He.ga K "NoText")) (.ref (He.ga K "NoText")) = some true ∧ PySem.W.findIn K (.ref (He.ga K "NoText")) "__getattribute__" = some (some (.builtin "BaseException.__getattribute__")) ∧ PySem.W.findIn K (.ref (He.ga K "NoText")) "__getattr__" = some none ∧ PySem.W.hasDictIn K (He.ga K "NoText") = true ∧ PySem.W.findIn K (.ref (He.ga K "NoText")) "__class__" = some (some (.builtin "object.__class__")) ∧ PySem.W.mroIn K (He.ga K "NoText") (.type "object") = some true
instance (K : PySem.W.Frag) : Decidable (HdEx33 K) := inferInstanceAs (Decidable (PySem.W.nsIn K mainGlobals "NoText" = some (some (.ref (He.ga K "NoText"))) ∧ PySem.W.excIn K (He.ga K "NoText") [.type "ValueError", .type "Exception", .type "BaseException", .type "object"] "ValueError.__new__" = true ∧ PySem.W.keepIn K (.ref (He.ga K "NoText")) = true ∧ PySem.W.subIn K (.ref (He.ga K "NoText")) (.type "BaseException") = some true ∧ PySem.W.typeIn K (.ref (He.ga K "NoText")) = some (.type "type") ∧ PySem.W.isClsIn K (He.ga K "NoText") = true ∧ PySem.W.subIn K (.ref (He.ga K "NoText")) (.ref (He.ga K "NoText")) = some true ∧ PySem.W.findIn K (.ref (He.ga K "NoText")) "__getattribute__" = some (some (.builtin "BaseException.__getattribute__")) ∧ PySem.W.findIn K (.ref (He.ga K "NoText")) "__getattr__" = some none ∧ PySem.W.hasDictIn K (He.ga K "NoText") = true ∧ PySem.W.findIn K (.ref (He.ga K "NoText")) "__class__" = some (some (.builtin "object.__class__")) ∧ PySem.W.mroIn K (He.ga K "NoText") (.type "object") = some true))
def HdEx34 (K : PySem.W.Frag) : Prop := PySem.W.nsIn K mainGlobals "NoThing" = some (some (.ref (He.ga K "NoThing"))) ∧ PySem.W.excInitIn K (He.ga K "NoThing") [.type "IndexError", .type "LookupError", .type "Exception", .type "BaseException", .type "object"] "IndexError.__new__" = true ∧ PySem.W.keepIn K (.ref (He.ga K "NoThing")) = true ∧ PySem.W.subIn K (.ref (He.ga K "NoThing")) (.type "BaseException") = some true ∧ PySem.W.typeIn K (.ref (He.ga K "NoThing")) = some (.type "type") ∧ PySem.W.isClsIn K (He.ga K "NoThing") = true ∧ PySem.W.subIn K (.ref (He.ga K "NoThing")) (.ref (He.ga K "NoThing")) = some true ∧ PySem.W.findIn K (.ref (He.ga K "NoThing")) "__getattribute__" = some (some (.builtin "BaseException.__getattribute__")) ∧ PySem.W.findIn K (.ref (He.ga K "NoThing")) "__getattr__" = some none ∧ PySem.W.hasDictIn K (He.ga K "NoThing") = true ∧ PySem.W.findIn K (.ref (He.ga K "NoThing")) "__class__" = some (some (.builtin "object.__class__")) ∧ PySem.W.mroIn K (He.ga K "NoThing") (.type "object") = some true
instance (K : PySem.W.Frag) : Decidable (HdEx34 K) := inferInstanceAs (Decidable (PySem.W.nsIn K mainGlobals "NoThing" = some (some (.ref (He.ga K "NoThing"))) ∧ PySem.W.excInitIn K (He.ga K "NoThing") [.type "IndexError", .type "LookupError", .type "Exception", .type "BaseException", .type "object"] "IndexError.__new__" = true ∧ PySem.W.keepIn K (.ref (He.ga K "NoThing")) = true ∧ PySem.W.subIn K (.ref (He.ga K "NoThing")) (.type "BaseException") = some true ∧ PySem.W.typeIn K (.ref (He.ga K "NoThing")) = some (.type "type") ∧ PySem.W.isClsIn K (He.ga K "NoThing") = true ∧ PySem.W.subIn K (.ref (He.ga K "NoThing")) (.ref (He.ga K "NoThing")) = some true ∧ PySem.W.findIn K (.ref (He.ga K "NoThing")) "__getattribute__" = some (some (.builtin "BaseException.__getattribute__")) ∧ PySem.W.findIn K (.ref (He.ga K "NoThing")) "__getattr__" = some none ∧ PySem.W.hasDictIn K (He.ga K "NoThing") = true ∧ PySem.W.findIn K (.ref (He.ga K "NoThing")) "__class__" = some (some (.builtin "object.__class__")) ∧ PySem.W.mroIn K (He.ga K "NoThing") (.type "object") = some true))
def HdEx35 (K : PySem.W.Frag) : Prop := PySem.W.excOver K (He.ga K "NoThing") [.type "IndexError", .type "LookupError", .type "Exception", .type "BaseException", .type "object"] = true ∧ PySem.W.findIn K (.ref (He.ga K "NoThing")) "__setattr__" = some (some (.builtin "object.__setattr__"))
instance (K : PySem.W.Frag) : Decidable (HdEx35 K) := inferInstanceAs (Decidable (PySem.W.excOver K (He.ga K "NoThing") [.type "IndexError", .type "LookupError", .type "Exception", .type "BaseException", .type "object"] = true ∧ PySem.W.findIn K (.ref (He.ga K "NoThing")) "__setattr__" = some (some (.builtin "object.__setattr__"))))
def HdEx36 (K : PySem.W.Frag) : Prop := PySem.W.nsIn K mainGlobals "NoTree" = some (some (.ref (He.ga K "NoTree"))) ∧ PySem.W.excInitIn K (He.ga K "NoTree") [.type "ValueError", .type "Exception", .type "BaseException", .type "object"] "ValueError.__new__" = true ∧ PySem.W.keepIn K (.ref (He.ga K "NoTree")) = true ∧ PySem.W.subIn K (.ref (He.ga K "NoTree")) (.type "BaseException") = some true ∧ PySem.W.typeIn K (.ref (He.ga K "NoTree")) = some (.type "type") ∧ PySem.W.isClsIn K (He.ga K "NoTree") = true ∧ PySem.W.subIn K (.ref (He.ga K "NoTree")) (.ref (He.ga K "NoTree")) = some true ∧ PySem.W.findIn K (.ref (He.ga K "NoTree")) "__getattribute__" = some (some (.builtin "BaseException.__getattribute__")) ∧ PySem.W.findIn K (.ref (He.ga K "NoTree")) "__getattr__" = some none ∧ PySem.W.hasDictIn K (He.ga K "NoTree") = true ∧ PySem.W.findIn K (.ref (He.ga K "NoTree")) "__class__" = some (some (.builtin "object.__class__")) ∧ PySem.W.mroIn K (He.ga K "NoTree") (.type "object") = some true
instance (K : PySem.W.Frag) : Decidable (HdEx36 K) := inferInstanceAs (Decidable (PySem.W.nsIn K mainGlobals "NoTree" = some (some (.ref (He.ga K "NoTree"))) ∧ PySem.W.excInitIn K (He.ga K "NoTree") [.type "ValueError", .type "Exception", .type "BaseException", .type "object"] "ValueError.__new__" = true ∧ PySem.W.keepIn K (.ref (He.ga K "NoTree")) = true ∧ PySem.W.subIn K (.ref (He.ga K "NoTree")) (.type "BaseException") = some true ∧ PySem.W.typeIn K (.ref (He.ga K "NoTree")) = some (.type "type") ∧ PySem.W.isClsIn K (He.ga K "NoTree") = true ∧ PySem.W.subIn K (.ref (He.ga K "NoTree")) (.ref (He.ga K "NoTree")) = some true ∧ PySem.W.findIn K (.ref (He.ga K "NoTree")) "__getattribute__" = some (some (.builtin "BaseException.__getattribute__")) ∧ PySem.W.findIn K (.ref (He.ga K "NoTree")) "__getattr__" = some none ∧ PySem.W.hasDictIn K (He.ga K "NoTree") = true ∧ PySem.W.findIn K (.ref (He.ga K "NoTree")) "__class__" = some (some (.builtin "object.__class__")) ∧ PySem.W.mroIn K (He.ga K "NoTree") (.type "object") = some true))
def HdEx37 (K : PySem.W.Frag) : Prop := PySem.W.excOver K (He.ga K "NoTree") [.type "ValueError", .type "Exception", .type "BaseException", .type "object"] = true ∧ PySem.W.findIn K (.ref (He.ga K "NoTree")) "__setattr__" = some (some (.builtin "object.__setattr__"))
instance (K : PySem.W.Frag) : Decidable (HdEx37 K) := inferInstanceAs (Decidable (PySem.W.excOver K (He.ga K "NoTree") [.type "ValueError", .type "Exception", .type "BaseException", .type "object"] = true ∧ PySem.W.findIn K (.ref (He.ga K "NoTree")) "__setattr__" = some (some (.builtin "object.__setattr__"))))
def HdEx38 (K : PySem.W.Frag) : Prop := PySem.W.nsIn K mainGlobals "NoWords" = some (some (.ref (He.ga K "NoWords"))) ∧ PySem.W.excIn K (He.ga K "NoWords") [.type "ValueError", .type "Exception", .type "BaseException", .type "object"] "ValueError.__new__" = true ∧ PySem.W.keepIn K (.ref (He.ga K "NoWords")) = true ∧ PySem.W.subIn K (.ref (He.ga K "NoWords")) (.type "BaseException") = some true ∧ PySem.W.typeIn K (.ref (He.ga K "NoWords")) = some (.type "type") ∧ PySem.W.isClsIn K (He.ga K "NoWords") = true ∧ PySem.W.subIn K (.ref (He.ga K "NoWords")) (.ref (He.ga K "NoWords")) = some true ∧ PySem.W.findIn K (.ref (He.ga K "NoWords")) "__getattribute__" = some (some (.builtin "BaseException.__getattribute__")) ∧ PySem.W.findIn K (.ref (He.ga K "NoWords")) "__getattr__" = some none ∧ PySem.W.hasDictIn K (He.ga K "NoWords") = true ∧ PySem.W.findIn K (.ref (He.ga K "NoWords")) "__class__" = some (some (.builtin "object.__class__")) ∧ PySem.W.mroIn K (He.ga K "NoWords") (.type "object") = some true
instance (K : PySem.W.Frag) : Decidable (HdEx38 K) := inferInstanceAs (Decidable (PySem.W.nsIn K mainGlobals "NoWords" = some (some (.ref (He.ga K "NoWords"))) ∧ PySem.W.excIn K (He.ga K "NoWords") [.type "ValueError", .type "Exception", .type "BaseException", .type "object"] "ValueError.__new__" = true ∧ PySem.W.keepIn K (.ref (He.ga K "NoWords")) = true ∧ PySem.W.subIn K (.ref (He.ga K "NoWords")) (.type "BaseException") = some true ∧ PySem.W.typeIn K (.ref (He.ga K "NoWords")) = some (.type "type") ∧ PySem.W.isClsIn K (He.ga K "NoWords") = true ∧ PySem.W.subIn K (.ref (He.ga K "NoWords")) (.ref (He.ga K "NoWords")) = some true ∧ PySem.W.findIn K (.ref (He.ga K "NoWords")) "__getattribute__" = some (some (.builtin "BaseException.__getattribute__")) ∧ PySem.W.findIn K (.ref (He.ga K "NoWords")) "__getattr__" = some none ∧ PySem.W.hasDictIn K (He.ga K "NoWords") = true ∧ PySem.W.findIn K (.ref (He.ga K "NoWords")) "__class__" = some (some (.builtin "object.__class__")) ∧ PySem.W.mroIn K (He.ga K "NoWords") (.type "object") = some true))
def HdEx39 (K : PySem.W.Frag) : Prop := PySem.W.nsIn K mainGlobals "Taken" = some (some (.ref (He.ga K "Taken"))) ∧ PySem.W.excInitIn K (He.ga K "Taken") [.type "RuntimeError", .type "Exception", .type "BaseException", .type "object"] "RuntimeError.__new__" = true ∧ PySem.W.keepIn K (.ref (He.ga K "Taken")) = true ∧ PySem.W.subIn K (.ref (He.ga K "Taken")) (.type "BaseException") = some true ∧ PySem.W.typeIn K (.ref (He.ga K "Taken")) = some (.type "type") ∧ PySem.W.isClsIn K (He.ga K "Taken") = true ∧ PySem.W.subIn K (.ref (He.ga K "Taken")) (.ref (He.ga K "Taken")) = some true ∧ PySem.W.findIn K (.ref (He.ga K "Taken")) "__getattribute__" = some (some (.builtin "BaseException.__getattribute__")) ∧ PySem.W.findIn K (.ref (He.ga K "Taken")) "__getattr__" = some none ∧ PySem.W.hasDictIn K (He.ga K "Taken") = true ∧ PySem.W.findIn K (.ref (He.ga K "Taken")) "__class__" = some (some (.builtin "object.__class__")) ∧ PySem.W.mroIn K (He.ga K "Taken") (.type "object") = some true
instance (K : PySem.W.Frag) : Decidable (HdEx39 K) := inferInstanceAs (Decidable (PySem.W.nsIn K mainGlobals "Taken" = some (some (.ref (He.ga K "Taken"))) ∧ PySem.W.excInitIn K (He.ga K "Taken") [.type "RuntimeError", .type "Exception", .type "BaseException", .type "object"] "RuntimeError.__new__" = true ∧ PySem.W.keepIn K (.ref (He.ga K "Taken")) = true ∧ PySem.W.subIn K (.ref (He.ga K "Taken")) (.type "BaseException") = some true ∧ PySem.W.typeIn K (.ref (He.ga K "Taken")) = some (.type "type") ∧ PySem.W.isClsIn K (He.ga K "Taken") = true ∧ PySem.W.subIn K (.ref (He.ga K "Taken")) (.ref (He.ga K "Taken")) = some true ∧ PySem.W.findIn K (.ref (He.ga K "Taken")) "__getattribute__" = some (some (.builtin "BaseException.__getattribute__")) ∧ PySem.W.findIn K (.ref (He.ga K "Taken")) "__getattr__" = some none ∧ PySem.W.hasDictIn K (He.ga K "Taken") = true ∧ PySem.W.findIn K (.ref (He.ga K "Taken")) "__class__" = some (some (.builtin "object.__class__")) ∧ PySem.W.mroIn K (He.ga K "Taken") (.type "object") = some true))
def HdEx40 (K : PySem.W.Frag) : Prop := PySem.W.excOver K (He.ga K "Taken") [.type "RuntimeError", .type "Exception", .type "BaseException", .type "object"] = true ∧ PySem.W.findIn K (.ref (He.ga K "Taken")) "__setattr__" = some (some (.builtin "object.__setattr__"))
instance (K : PySem.W.Frag) : Decidable (HdEx40 K) := inferInstanceAs (Decidable (PySem.W.excOver K (He.ga K "Taken") [.type "RuntimeError", .type "Exception", .type "BaseException", .type "object"] = true ∧ PySem.W.findIn K (.ref (He.ga K "Taken")) "__setattr__" = some (some (.builtin "object.__setattr__"))))
def HdEx41 (K : PySem.W.Frag) : Prop := PySem.W.nsIn K mainGlobals "TooMany" = some (some (.ref (He.ga K "TooMany"))) ∧ PySem.W.excInitIn K (He.ga K "TooMany") [.type "OverflowError", .type "ArithmeticError", .type "Exception", .type "BaseException", .type "object"] "OverflowError.__new__" = true ∧ PySem.W.keepIn K (.ref (He.ga K "TooMany")) = true ∧ PySem.W.subIn K (.ref (He.ga K "TooMany")) (.type "BaseException") = some true ∧ PySem.W.typeIn K (.ref (He.ga K "TooMany")) = some (.type "type") ∧ PySem.W.isClsIn K (He.ga K "TooMany") = true ∧ PySem.W.subIn K (.ref (He.ga K "TooMany")) (.ref (He.ga K "TooMany")) = some true ∧ PySem.W.findIn K (.ref (He.ga K "TooMany")) "__getattribute__" = some (some (.builtin "BaseException.__getattribute__")) ∧ PySem.W.findIn K (.ref (He.ga K "TooMany")) "__getattr__" = some none ∧ PySem.W.hasDictIn K (He.ga K "TooMany") = true ∧ PySem.W.findIn K (.ref (He.ga K "TooMany")) "__class__" = some (some (.builtin "object.__class__")) ∧ PySem.W.mroIn K (He.ga K "TooMany") (.type "object") = some true
instance (K : PySem.W.Frag) : Decidable (HdEx41 K) := inferInstanceAs (Decidable (PySem.W.nsIn K mainGlobals "TooMany" = some (some (.ref (He.ga K "TooMany"))) ∧ PySem.W.excInitIn K (He.ga K "TooMany") [.type "OverflowError", .type "ArithmeticError", .type "Exception", .type "BaseException", .type "object"] "OverflowError.__new__" = true ∧ PySem.W.keepIn K (.ref (He.ga K "TooMany")) = true ∧ PySem.W.subIn K (.ref (He.ga K "TooMany")) (.type "BaseException") = some true ∧ PySem.W.typeIn K (.ref (He.ga K "TooMany")) = some (.type "type") ∧ PySem.W.isClsIn K (He.ga K "TooMany") = true ∧ PySem.W.subIn K (.ref (He.ga K "TooMany")) (.ref (He.ga K "TooMany")) = some true ∧ PySem.W.findIn K (.ref (He.ga K "TooMany")) "__getattribute__" = some (some (.builtin "BaseException.__getattribute__")) ∧ PySem.W.findIn K (.ref (He.ga K "TooMany")) "__getattr__" = some none ∧ PySem.W.hasDictIn K (He.ga K "TooMany") = true ∧ PySem.W.findIn K (.ref (He.ga K "TooMany")) "__class__" = some (some (.builtin "object.__class__")) ∧ PySem.W.mroIn K (He.ga K "TooMany") (.type "object") = some true))
def HdEx42 (K : PySem.W.Frag) : Prop := PySem.W.excOver K (He.ga K "TooMany") [.type "OverflowError", .type "ArithmeticError", .type "Exception", .type "BaseException", .type "object"] = true ∧ PySem.W.findIn K (.ref (He.ga K "TooMany")) "__setattr__" = some (some (.builtin "object.__setattr__"))
instance (K : PySem.W.Frag) : Decidable (HdEx42 K) := inferInstanceAs (Decidable (PySem.W.excOver K (He.ga K "TooMany") [.type "OverflowError", .type "ArithmeticError", .type "Exception", .type "BaseException", .type "object"] = true ∧ PySem.W.findIn K (.ref (He.ga K "TooMany")) "__setattr__" = some (some (.builtin "object.__setattr__"))))
def HdEx43 (K : PySem.W.Frag) : Prop := PySem.W.specialIn K (.builtin "object.__class__") "__get__" = some (some (.builtin "getset_descriptor.__get__")) ∧ PySem.W.takesIn K (.builtin "object.__class__") = some true
instance (K : PySem.W.Frag) : Decidable (HdEx43 K) := inferInstanceAs (Decidable (PySem.W.specialIn K (.builtin "object.__class__") "__get__" = some (some (.builtin "getset_descriptor.__get__")) ∧ PySem.W.takesIn K (.builtin "object.__class__") = some true))
def HdEx44 (K : PySem.W.Frag) : Prop := PySem.W.findIn K (.ref (He.ga K "Bare")) "deed" = some none ∧ PySem.W.findIn K (.ref (He.ga K "Bare")) "thing" = some none ∧ PySem.W.findIn K (.ref (He.ga K "Full")) "size" = some none ∧ PySem.W.findIn K (.ref (He.ga K "NoBack")) "many" = some none ∧ PySem.W.findIn K (.ref (He.ga K "NoDeed")) "deed" = some none ∧ PySem.W.findIn K (.ref (He.ga K "NoEnd")) "place" = some none ∧ PySem.W.findIn K (.ref (He.ga K "NoFold")) "one" = some none ∧ PySem.W.findIn K (.ref (He.ga K "NoFold")) "other" = some none ∧ PySem.W.findIn K (.ref (He.ga K "NoGiven")) "number" = some none ∧ PySem.W.findIn K (.ref (He.ga K "NoMachine")) "number" = some none ∧ PySem.W.findIn K (.ref (He.ga K "NoMark")) "name" = some none ∧ PySem.W.findIn K (.ref (He.ga K "NoName")) "name" = some none
instance (K : PySem.W.Frag) : Decidable (HdEx44 K) := inferInstanceAs (Decidable (PySem.W.findIn K (.ref (He.ga K "Bare")) "deed" = some none ∧ PySem.W.findIn K (.ref (He.ga K "Bare")) "thing" = some none ∧ PySem.W.findIn K (.ref (He.ga K "Full")) "size" = some none ∧ PySem.W.findIn K (.ref (He.ga K "NoBack")) "many" = some none ∧ PySem.W.findIn K (.ref (He.ga K "NoDeed")) "deed" = some none ∧ PySem.W.findIn K (.ref (He.ga K "NoEnd")) "place" = some none ∧ PySem.W.findIn K (.ref (He.ga K "NoFold")) "one" = some none ∧ PySem.W.findIn K (.ref (He.ga K "NoFold")) "other" = some none ∧ PySem.W.findIn K (.ref (He.ga K "NoGiven")) "number" = some none ∧ PySem.W.findIn K (.ref (He.ga K "NoMachine")) "number" = some none ∧ PySem.W.findIn K (.ref (He.ga K "NoMark")) "name" = some none ∧ PySem.W.findIn K (.ref (He.ga K "NoName")) "name" = some none))
def HdEx45 (K : PySem.W.Frag) : Prop := PySem.W.findIn K (.ref (He.ga K "NoNumber")) "number" = some none ∧ PySem.W.findIn K (.ref (He.ga K "NoPairs")) "number" = some none ∧ PySem.W.findIn K (.ref (He.ga K "NoSeam")) "seam" = some none ∧ PySem.W.findIn K (.ref (He.ga K "NoSign")) "place" = some none ∧ PySem.W.findIn K (.ref (He.ga K "NoStep")) "number" = some none ∧ PySem.W.findIn K (.ref (He.ga K "NoThing")) "thing" = some none ∧ PySem.W.findIn K (.ref (He.ga K "NoTree")) "place" = some none ∧ PySem.W.findIn K (.ref (He.ga K "Taken")) "deed" = some none ∧ PySem.W.findIn K (.ref (He.ga K "Taken")) "thing" = some none ∧ PySem.W.findIn K (.ref (He.ga K "TooMany")) "many" = some none
instance (K : PySem.W.Frag) : Decidable (HdEx45 K) := inferInstanceAs (Decidable (PySem.W.findIn K (.ref (He.ga K "NoNumber")) "number" = some none ∧ PySem.W.findIn K (.ref (He.ga K "NoPairs")) "number" = some none ∧ PySem.W.findIn K (.ref (He.ga K "NoSeam")) "seam" = some none ∧ PySem.W.findIn K (.ref (He.ga K "NoSign")) "place" = some none ∧ PySem.W.findIn K (.ref (He.ga K "NoStep")) "number" = some none ∧ PySem.W.findIn K (.ref (He.ga K "NoThing")) "thing" = some none ∧ PySem.W.findIn K (.ref (He.ga K "NoTree")) "place" = some none ∧ PySem.W.findIn K (.ref (He.ga K "Taken")) "deed" = some none ∧ PySem.W.findIn K (.ref (He.ga K "Taken")) "thing" = some none ∧ PySem.W.findIn K (.ref (He.ga K "TooMany")) "many" = some none))
def HdEx46 (K : PySem.W.Frag) : Prop := ((([(He.ga K "NoRow"), (He.ga K "NoText"), (He.ga K "NoWords"), (He.ga K "NoSign"), (He.ga K "NoTree"), (He.ga K "NoGiven"), (He.ga K "NoPairs"), (He.ga K "NoMachine"), (He.ga K "NoDeed"), (He.ga K "NoMark"), (He.ga K "NoName"), (He.ga K "NoEnd"), (He.ga K "NoThing"), (He.ga K "NoNumber"), (He.ga K "NoStep"), (He.ga K "Bare"), (He.ga K "NoSeam"), (He.ga K "NoBack"), (He.ga K "Taken"), (He.ga K "NoFold"), (He.ga K "Full"), (He.ga K "TooMany")] : List Addr).map (fun a => ([(He.ga K "NoRow"), (He.ga K "NoText"), (He.ga K "NoWords"), (He.ga K "NoSign"), (He.ga K "NoTree"), (He.ga K "NoGiven"), (He.ga K "NoPairs"), (He.ga K "NoMachine"), (He.ga K "NoDeed"), (He.ga K "NoMark"), (He.ga K "NoName"), (He.ga K "NoEnd"), (He.ga K "NoThing"), (He.ga K "NoNumber"), (He.ga K "NoStep"), (He.ga K "Bare"), (He.ga K "NoSeam"), (He.ga K "NoBack"), (He.ga K "Taken"), (He.ga K "NoFold"), (He.ga K "Full"), (He.ga K "TooMany")] : List Addr).map fun b => PySem.W.subIn K (.ref a) (.ref b))) = (List.range 22).map fun i => (List.range 22).map fun j => some (decide (i = j))) ∧ ((([(He.ga K "NoRow"), (He.ga K "NoText"), (He.ga K "NoWords"), (He.ga K "NoSign"), (He.ga K "NoTree"), (He.ga K "NoGiven"), (He.ga K "NoPairs"), (He.ga K "NoMachine"), (He.ga K "NoDeed"), (He.ga K "NoMark"), (He.ga K "NoName"), (He.ga K "NoEnd"), (He.ga K "NoThing"), (He.ga K "NoNumber"), (He.ga K "NoStep"), (He.ga K "Bare"), (He.ga K "NoSeam"), (He.ga K "NoBack"), (He.ga K "Taken"), (He.ga K "NoFold"), (He.ga K "Full"), (He.ga K "TooMany")] : List Addr).map (fun a => ["ValueError", "KeyError", "IndexError", "LookupError", "ArithmeticError", "OverflowError", "RuntimeError"].map fun t => PySem.W.subIn K (.ref a) (.type t))) = (List.range 22).map fun i => [decide (i < 8), decide (8 ≤ i ∧ i < 12), decide (i = 12), decide (8 ≤ i ∧ i < 17), decide (i = 17 ∨ i = 20 ∨ i = 21), decide (19 < i), decide (i = 18 ∨ i = 19)].map some)
instance (K : PySem.W.Frag) : Decidable (HdEx46 K) := inferInstanceAs (Decidable (((([(He.ga K "NoRow"), (He.ga K "NoText"), (He.ga K "NoWords"), (He.ga K "NoSign"), (He.ga K "NoTree"), (He.ga K "NoGiven"), (He.ga K "NoPairs"), (He.ga K "NoMachine"), (He.ga K "NoDeed"), (He.ga K "NoMark"), (He.ga K "NoName"), (He.ga K "NoEnd"), (He.ga K "NoThing"), (He.ga K "NoNumber"), (He.ga K "NoStep"), (He.ga K "Bare"), (He.ga K "NoSeam"), (He.ga K "NoBack"), (He.ga K "Taken"), (He.ga K "NoFold"), (He.ga K "Full"), (He.ga K "TooMany")] : List Addr).map (fun a => ([(He.ga K "NoRow"), (He.ga K "NoText"), (He.ga K "NoWords"), (He.ga K "NoSign"), (He.ga K "NoTree"), (He.ga K "NoGiven"), (He.ga K "NoPairs"), (He.ga K "NoMachine"), (He.ga K "NoDeed"), (He.ga K "NoMark"), (He.ga K "NoName"), (He.ga K "NoEnd"), (He.ga K "NoThing"), (He.ga K "NoNumber"), (He.ga K "NoStep"), (He.ga K "Bare"), (He.ga K "NoSeam"), (He.ga K "NoBack"), (He.ga K "Taken"), (He.ga K "NoFold"), (He.ga K "Full"), (He.ga K "TooMany")] : List Addr).map fun b => PySem.W.subIn K (.ref a) (.ref b))) = (List.range 22).map fun i => (List.range 22).map fun j => some (decide (i = j))) ∧ ((([(He.ga K "NoRow"), (He.ga K "NoText"), (He.ga K "NoWords"), (He.ga K "NoSign"), (He.ga K "NoTree"), (He.ga K "NoGiven"), (He.ga K "NoPairs"), (He.ga K "NoMachine"), (He.ga K "NoDeed"), (He.ga K "NoMark"), (He.ga K "NoName"), (He.ga K "NoEnd"), (He.ga K "NoThing"), (He.ga K "NoNumber"), (He.ga K "NoStep"), (He.ga K "Bare"), (He.ga K "NoSeam"), (He.ga K "NoBack"), (He.ga K "Taken"), (He.ga K "NoFold"), (He.ga K "Full"), (He.ga K "TooMany")] : List Addr).map (fun a => ["ValueError", "KeyError", "IndexError", "LookupError", "ArithmeticError", "OverflowError", "RuntimeError"].map fun t => PySem.W.subIn K (.ref a) (.type t))) = (List.range 22).map fun i => [decide (i < 8), decide (8 ≤ i ∧ i < 12), decide (i = 12), decide (8 ≤ i ∧ i < 17), decide (i = 17 ∨ i = 20 ∨ i = 21), decide (19 < i), decide (i = 18 ∨ i = 19)].map some)))
def HdEx47 (K : PySem.W.Frag) : Prop := PySem.W.nsIn K mainGlobals "_law_pool" = some (some (.ref (He.ga K "_law_pool"))) ∧ PySem.W.nsIn K mainGlobals "_law_take" = some (some (.ref (He.ga K "_law_take"))) ∧ PySem.W.findIn K (.ref (He.ga K "NoSign")) "__init__" = some (some (.ref (He.ma K (He.ga K "NoSign") "__init__"))) ∧ PySem.W.typeIn K (.ref (He.ma K (He.ga K "NoSign") "__init__")) = some (.type "function") ∧ PySem.W.isFn K (.ref (He.ma K (He.ga K "NoSign") "__init__")) = true ∧ PySem.W.findIn K (.ref (He.ga K "NoTree")) "__init__" = some (some (.ref (He.ma K (He.ga K "NoTree") "__init__"))) ∧ PySem.W.typeIn K (.ref (He.ma K (He.ga K "NoTree") "__init__")) = some (.type "function") ∧ PySem.W.isFn K (.ref (He.ma K (He.ga K "NoTree") "__init__")) = true ∧ PySem.W.findIn K (.ref (He.ga K "NoGiven")) "__init__" = some (some (.ref (He.ma K (He.ga K "NoGiven") "__init__"))) ∧ PySem.W.typeIn K (.ref (He.ma K (He.ga K "NoGiven") "__init__")) = some (.type "function") ∧ PySem.W.isFn K (.ref (He.ma K (He.ga K "NoGiven") "__init__")) = true ∧ PySem.W.findIn K (.ref (He.ga K "NoPairs")) "__init__" = some (some (.ref (He.ma K (He.ga K "NoPairs") "__init__")))
instance (K : PySem.W.Frag) : Decidable (HdEx47 K) := inferInstanceAs (Decidable (PySem.W.nsIn K mainGlobals "_law_pool" = some (some (.ref (He.ga K "_law_pool"))) ∧ PySem.W.nsIn K mainGlobals "_law_take" = some (some (.ref (He.ga K "_law_take"))) ∧ PySem.W.findIn K (.ref (He.ga K "NoSign")) "__init__" = some (some (.ref (He.ma K (He.ga K "NoSign") "__init__"))) ∧ PySem.W.typeIn K (.ref (He.ma K (He.ga K "NoSign") "__init__")) = some (.type "function") ∧ PySem.W.isFn K (.ref (He.ma K (He.ga K "NoSign") "__init__")) = true ∧ PySem.W.findIn K (.ref (He.ga K "NoTree")) "__init__" = some (some (.ref (He.ma K (He.ga K "NoTree") "__init__"))) ∧ PySem.W.typeIn K (.ref (He.ma K (He.ga K "NoTree") "__init__")) = some (.type "function") ∧ PySem.W.isFn K (.ref (He.ma K (He.ga K "NoTree") "__init__")) = true ∧ PySem.W.findIn K (.ref (He.ga K "NoGiven")) "__init__" = some (some (.ref (He.ma K (He.ga K "NoGiven") "__init__"))) ∧ PySem.W.typeIn K (.ref (He.ma K (He.ga K "NoGiven") "__init__")) = some (.type "function") ∧ PySem.W.isFn K (.ref (He.ma K (He.ga K "NoGiven") "__init__")) = true ∧ PySem.W.findIn K (.ref (He.ga K "NoPairs")) "__init__" = some (some (.ref (He.ma K (He.ga K "NoPairs") "__init__")))))
def HdEx48 (K : PySem.W.Frag) : Prop := PySem.W.typeIn K (.ref (He.ma K (He.ga K "NoPairs") "__init__")) = some (.type "function") ∧ PySem.W.isFn K (.ref (He.ma K (He.ga K "NoPairs") "__init__")) = true ∧ PySem.W.findIn K (.ref (He.ga K "NoMachine")) "__init__" = some (some (.ref (He.ma K (He.ga K "NoMachine") "__init__"))) ∧ PySem.W.typeIn K (.ref (He.ma K (He.ga K "NoMachine") "__init__")) = some (.type "function") ∧ PySem.W.isFn K (.ref (He.ma K (He.ga K "NoMachine") "__init__")) = true ∧ PySem.W.findIn K (.ref (He.ga K "NoDeed")) "__init__" = some (some (.ref (He.ma K (He.ga K "NoDeed") "__init__"))) ∧ PySem.W.typeIn K (.ref (He.ma K (He.ga K "NoDeed") "__init__")) = some (.type "function") ∧ PySem.W.isFn K (.ref (He.ma K (He.ga K "NoDeed") "__init__")) = true ∧ PySem.W.findIn K (.ref (He.ga K "NoMark")) "__init__" = some (some (.ref (He.ma K (He.ga K "NoMark") "__init__"))) ∧ PySem.W.typeIn K (.ref (He.ma K (He.ga K "NoMark") "__init__")) = some (.type "function") ∧ PySem.W.isFn K (.ref (He.ma K (He.ga K "NoMark") "__init__")) = true ∧ PySem.W.findIn K (.ref (He.ga K "NoName")) "__init__" = some (some (.ref (He.ma K (He.ga K "NoName") "__init__")))
instance (K : PySem.W.Frag) : Decidable (HdEx48 K) := inferInstanceAs (Decidable (PySem.W.typeIn K (.ref (He.ma K (He.ga K "NoPairs") "__init__")) = some (.type "function") ∧ PySem.W.isFn K (.ref (He.ma K (He.ga K "NoPairs") "__init__")) = true ∧ PySem.W.findIn K (.ref (He.ga K "NoMachine")) "__init__" = some (some (.ref (He.ma K (He.ga K "NoMachine") "__init__"))) ∧ PySem.W.typeIn K (.ref (He.ma K (He.ga K "NoMachine") "__init__")) = some (.type "function") ∧ PySem.W.isFn K (.ref (He.ma K (He.ga K "NoMachine") "__init__")) = true ∧ PySem.W.findIn K (.ref (He.ga K "NoDeed")) "__init__" = some (some (.ref (He.ma K (He.ga K "NoDeed") "__init__"))) ∧ PySem.W.typeIn K (.ref (He.ma K (He.ga K "NoDeed") "__init__")) = some (.type "function") ∧ PySem.W.isFn K (.ref (He.ma K (He.ga K "NoDeed") "__init__")) = true ∧ PySem.W.findIn K (.ref (He.ga K "NoMark")) "__init__" = some (some (.ref (He.ma K (He.ga K "NoMark") "__init__"))) ∧ PySem.W.typeIn K (.ref (He.ma K (He.ga K "NoMark") "__init__")) = some (.type "function") ∧ PySem.W.isFn K (.ref (He.ma K (He.ga K "NoMark") "__init__")) = true ∧ PySem.W.findIn K (.ref (He.ga K "NoName")) "__init__" = some (some (.ref (He.ma K (He.ga K "NoName") "__init__")))))
def HdEx49 (K : PySem.W.Frag) : Prop := PySem.W.typeIn K (.ref (He.ma K (He.ga K "NoName") "__init__")) = some (.type "function") ∧ PySem.W.isFn K (.ref (He.ma K (He.ga K "NoName") "__init__")) = true ∧ PySem.W.findIn K (.ref (He.ga K "NoEnd")) "__init__" = some (some (.ref (He.ma K (He.ga K "NoEnd") "__init__"))) ∧ PySem.W.typeIn K (.ref (He.ma K (He.ga K "NoEnd") "__init__")) = some (.type "function") ∧ PySem.W.isFn K (.ref (He.ma K (He.ga K "NoEnd") "__init__")) = true ∧ PySem.W.findIn K (.ref (He.ga K "NoThing")) "__init__" = some (some (.ref (He.ma K (He.ga K "NoThing") "__init__"))) ∧ PySem.W.typeIn K (.ref (He.ma K (He.ga K "NoThing") "__init__")) = some (.type "function") ∧ PySem.W.isFn K (.ref (He.ma K (He.ga K "NoThing") "__init__")) = true ∧ PySem.W.findIn K (.ref (He.ga K "NoNumber")) "__init__" = some (some (.ref (He.ma K (He.ga K "NoNumber") "__init__"))) ∧ PySem.W.typeIn K (.ref (He.ma K (He.ga K "NoNumber") "__init__")) = some (.type "function") ∧ PySem.W.isFn K (.ref (He.ma K (He.ga K "NoNumber") "__init__")) = true ∧ PySem.W.findIn K (.ref (He.ga K "NoStep")) "__init__" = some (some (.ref (He.ma K (He.ga K "NoStep") "__init__")))
instance (K : PySem.W.Frag) : Decidable (HdEx49 K) := inferInstanceAs (Decidable (PySem.W.typeIn K (.ref (He.ma K (He.ga K "NoName") "__init__")) = some (.type "function") ∧ PySem.W.isFn K (.ref (He.ma K (He.ga K "NoName") "__init__")) = true ∧ PySem.W.findIn K (.ref (He.ga K "NoEnd")) "__init__" = some (some (.ref (He.ma K (He.ga K "NoEnd") "__init__"))) ∧ PySem.W.typeIn K (.ref (He.ma K (He.ga K "NoEnd") "__init__")) = some (.type "function") ∧ PySem.W.isFn K (.ref (He.ma K (He.ga K "NoEnd") "__init__")) = true ∧ PySem.W.findIn K (.ref (He.ga K "NoThing")) "__init__" = some (some (.ref (He.ma K (He.ga K "NoThing") "__init__"))) ∧ PySem.W.typeIn K (.ref (He.ma K (He.ga K "NoThing") "__init__")) = some (.type "function") ∧ PySem.W.isFn K (.ref (He.ma K (He.ga K "NoThing") "__init__")) = true ∧ PySem.W.findIn K (.ref (He.ga K "NoNumber")) "__init__" = some (some (.ref (He.ma K (He.ga K "NoNumber") "__init__"))) ∧ PySem.W.typeIn K (.ref (He.ma K (He.ga K "NoNumber") "__init__")) = some (.type "function") ∧ PySem.W.isFn K (.ref (He.ma K (He.ga K "NoNumber") "__init__")) = true ∧ PySem.W.findIn K (.ref (He.ga K "NoStep")) "__init__" = some (some (.ref (He.ma K (He.ga K "NoStep") "__init__")))))
def HdEx50 (K : PySem.W.Frag) : Prop := PySem.W.typeIn K (.ref (He.ma K (He.ga K "NoStep") "__init__")) = some (.type "function") ∧ PySem.W.isFn K (.ref (He.ma K (He.ga K "NoStep") "__init__")) = true ∧ PySem.W.findIn K (.ref (He.ga K "Bare")) "__init__" = some (some (.ref (He.ma K (He.ga K "Bare") "__init__"))) ∧ PySem.W.typeIn K (.ref (He.ma K (He.ga K "Bare") "__init__")) = some (.type "function") ∧ PySem.W.isFn K (.ref (He.ma K (He.ga K "Bare") "__init__")) = true ∧ PySem.W.findIn K (.ref (He.ga K "NoSeam")) "__init__" = some (some (.ref (He.ma K (He.ga K "NoSeam") "__init__"))) ∧ PySem.W.typeIn K (.ref (He.ma K (He.ga K "NoSeam") "__init__")) = some (.type "function") ∧ PySem.W.isFn K (.ref (He.ma K (He.ga K "NoSeam") "__init__")) = true ∧ PySem.W.findIn K (.ref (He.ga K "NoBack")) "__init__" = some (some (.ref (He.ma K (He.ga K "NoBack") "__init__"))) ∧ PySem.W.typeIn K (.ref (He.ma K (He.ga K "NoBack") "__init__")) = some (.type "function") ∧ PySem.W.isFn K (.ref (He.ma K (He.ga K "NoBack") "__init__")) = true ∧ PySem.W.findIn K (.ref (He.ga K "Taken")) "__init__" = some (some (.ref (He.ma K (He.ga K "Taken") "__init__")))
instance (K : PySem.W.Frag) : Decidable (HdEx50 K) := inferInstanceAs (Decidable (PySem.W.typeIn K (.ref (He.ma K (He.ga K "NoStep") "__init__")) = some (.type "function") ∧ PySem.W.isFn K (.ref (He.ma K (He.ga K "NoStep") "__init__")) = true ∧ PySem.W.findIn K (.ref (He.ga K "Bare")) "__init__" = some (some (.ref (He.ma K (He.ga K "Bare") "__init__"))) ∧ PySem.W.typeIn K (.ref (He.ma K (He.ga K "Bare") "__init__")) = some (.type "function") ∧ PySem.W.isFn K (.ref (He.ma K (He.ga K "Bare") "__init__")) = true ∧ PySem.W.findIn K (.ref (He.ga K "NoSeam")) "__init__" = some (some (.ref (He.ma K (He.ga K "NoSeam") "__init__"))) ∧ PySem.W.typeIn K (.ref (He.ma K (He.ga K "NoSeam") "__init__")) = some (.type "function") ∧ PySem.W.isFn K (.ref (He.ma K (He.ga K "NoSeam") "__init__")) = true ∧ PySem.W.findIn K (.ref (He.ga K "NoBack")) "__init__" = some (some (.ref (He.ma K (He.ga K "NoBack") "__init__"))) ∧ PySem.W.typeIn K (.ref (He.ma K (He.ga K "NoBack") "__init__")) = some (.type "function") ∧ PySem.W.isFn K (.ref (He.ma K (He.ga K "NoBack") "__init__")) = true ∧ PySem.W.findIn K (.ref (He.ga K "Taken")) "__init__" = some (some (.ref (He.ma K (He.ga K "Taken") "__init__")))))
def HdEx51 (K : PySem.W.Frag) : Prop := PySem.W.typeIn K (.ref (He.ma K (He.ga K "Taken") "__init__")) = some (.type "function") ∧ PySem.W.isFn K (.ref (He.ma K (He.ga K "Taken") "__init__")) = true ∧ PySem.W.findIn K (.ref (He.ga K "NoFold")) "__init__" = some (some (.ref (He.ma K (He.ga K "NoFold") "__init__"))) ∧ PySem.W.typeIn K (.ref (He.ma K (He.ga K "NoFold") "__init__")) = some (.type "function") ∧ PySem.W.isFn K (.ref (He.ma K (He.ga K "NoFold") "__init__")) = true ∧ PySem.W.findIn K (.ref (He.ga K "Full")) "__init__" = some (some (.ref (He.ma K (He.ga K "Full") "__init__"))) ∧ PySem.W.typeIn K (.ref (He.ma K (He.ga K "Full") "__init__")) = some (.type "function") ∧ PySem.W.isFn K (.ref (He.ma K (He.ga K "Full") "__init__")) = true ∧ PySem.W.findIn K (.ref (He.ga K "TooMany")) "__init__" = some (some (.ref (He.ma K (He.ga K "TooMany") "__init__"))) ∧ PySem.W.typeIn K (.ref (He.ma K (He.ga K "TooMany") "__init__")) = some (.type "function") ∧ PySem.W.isFn K (.ref (He.ma K (He.ga K "TooMany") "__init__")) = true ∧ PySem.W.nsIn K mainGlobals "_law_made" = some (some (.ref (He.ga K "_law_made")))
instance (K : PySem.W.Frag) : Decidable (HdEx51 K) := inferInstanceAs (Decidable (PySem.W.typeIn K (.ref (He.ma K (He.ga K "Taken") "__init__")) = some (.type "function") ∧ PySem.W.isFn K (.ref (He.ma K (He.ga K "Taken") "__init__")) = true ∧ PySem.W.findIn K (.ref (He.ga K "NoFold")) "__init__" = some (some (.ref (He.ma K (He.ga K "NoFold") "__init__"))) ∧ PySem.W.typeIn K (.ref (He.ma K (He.ga K "NoFold") "__init__")) = some (.type "function") ∧ PySem.W.isFn K (.ref (He.ma K (He.ga K "NoFold") "__init__")) = true ∧ PySem.W.findIn K (.ref (He.ga K "Full")) "__init__" = some (some (.ref (He.ma K (He.ga K "Full") "__init__"))) ∧ PySem.W.typeIn K (.ref (He.ma K (He.ga K "Full") "__init__")) = some (.type "function") ∧ PySem.W.isFn K (.ref (He.ma K (He.ga K "Full") "__init__")) = true ∧ PySem.W.findIn K (.ref (He.ga K "TooMany")) "__init__" = some (some (.ref (He.ma K (He.ga K "TooMany") "__init__"))) ∧ PySem.W.typeIn K (.ref (He.ma K (He.ga K "TooMany") "__init__")) = some (.type "function") ∧ PySem.W.isFn K (.ref (He.ma K (He.ga K "TooMany") "__init__")) = true ∧ PySem.W.nsIn K mainGlobals "_law_made" = some (some (.ref (He.ga K "_law_made")))))
def HdEx52 (K : PySem.W.Frag) : Prop := PySem.W.nsIn K mainGlobals "_law_kinds" = some (some (.ref (He.ga K "_law_kinds"))) ∧ PySem.W.nsIn K mainGlobals "_law_above" = some (some (.ref (He.ga K "_law_above"))) ∧ PySem.W.nsIn K mainGlobals "_law_above_due" = some (some (.ref (He.ga K "_law_above_due"))) ∧ PySem.W.nsIn K mainGlobals "_law_fields" = some (some (.ref (He.ga K "_law_fields"))) ∧ PySem.W.nsIn K mainGlobals "law" = some (some (.ref (He.ga K "law")))
instance (K : PySem.W.Frag) : Decidable (HdEx52 K) := inferInstanceAs (Decidable (PySem.W.nsIn K mainGlobals "_law_kinds" = some (some (.ref (He.ga K "_law_kinds"))) ∧ PySem.W.nsIn K mainGlobals "_law_above" = some (some (.ref (He.ga K "_law_above"))) ∧ PySem.W.nsIn K mainGlobals "_law_above_due" = some (some (.ref (He.ga K "_law_above_due"))) ∧ PySem.W.nsIn K mainGlobals "_law_fields" = some (some (.ref (He.ga K "_law_fields"))) ∧ PySem.W.nsIn K mainGlobals "law" = some (some (.ref (He.ga K "law")))))
def hd_p0 : He.Part := ([hd_d0, hd_d1, hd_d2, hd_d3, hd_d4, hd_d5, hd_d6, hd_d7, hd_d8, hd_d9, hd_d10, hd_d11, hd_d12, hd_d13, hd_d14, hd_d15, hd_d16, hd_d17, hd_d18, hd_d19, hd_d20, hd_d21, hd_d22, hd_d23, hd_d24, hd_d25, hd_d26], [], [])
def hd_p1 : He.Part := ([], hd_tabs, [fun K => decide (HdEx0 K), fun K => decide (HdEx1 K), fun K => decide (HdEx2 K), fun K => decide (HdEx3 K), fun K => decide (HdEx4 K), fun K => decide (HdEx5 K), fun K => decide (HdEx6 K), fun K => decide (HdEx7 K), fun K => decide (HdEx8 K), fun K => decide (HdEx9 K), fun K => decide (HdEx10 K), fun K => decide (HdEx11 K), fun K => decide (HdEx12 K), fun K => decide (HdEx13 K), fun K => decide (HdEx14 K), fun K => decide (HdEx15 K), fun K => decide (HdEx16 K), fun K => decide (HdEx17 K), fun K => decide (HdEx18 K), fun K => decide (HdEx19 K), fun K => decide (HdEx20 K), fun K => decide (HdEx21 K), fun K => decide (HdEx22 K), fun K => decide (HdEx23 K), fun K => decide (HdEx24 K), fun K => decide (HdEx25 K), fun K => decide (HdEx26 K), fun K => decide (HdEx27 K), fun K => decide (HdEx28 K), fun K => decide (HdEx29 K), fun K => decide (HdEx30 K), fun K => decide (HdEx31 K), fun K => decide (HdEx32 K), fun K => decide (HdEx33 K), fun K => decide (HdEx34 K), fun K => decide (HdEx35 K), fun K => decide (HdEx36 K), fun K => decide (HdEx37 K), fun K => decide (HdEx38 K), fun K => decide (HdEx39 K)])
def hd_p2 : He.Part := ([], [], [fun K => decide (HdEx40 K), fun K => decide (HdEx41 K), fun K => decide (HdEx42 K), fun K => decide (HdEx43 K), fun K => decide (HdEx44 K), fun K => decide (HdEx45 K), fun K => decide (HdEx46 K), fun K => decide (HdEx47 K), fun K => decide (HdEx48 K), fun K => decide (HdEx49 K), fun K => decide (HdEx50 K), fun K => decide (HdEx51 K), fun K => decide (HdEx52 K), fun K => He.initAt K "ArithmeticError" "ArithmeticError.__init__", fun K => He.initAt K "IndexError" "IndexError.__init__", fun K => He.initAt K "KeyError" "KeyError.__init__", fun K => He.initAt K "LookupError" "LookupError.__init__", fun K => He.initAt K "OverflowError" "OverflowError.__init__", fun K => He.initAt K "RuntimeError" "RuntimeError.__init__", fun K => He.initAt K "ValueError" "ValueError.__init__"])
def hd_ps : List He.Part := [hd_p0, hd_p1, hd_p2]
abbrev hd_R : PySem.W.OpenRow := PySem.W.OpenLaw.row PySem.Challenge.rw_undotrees_k05_refusals_made
abbrev hd_q : Program := PySem.W.view hd_R.prog [31]
def hd_names : List PySem.Str := (["NoRow", "NoText", "NoWords", "NoSign", "NoTree", "NoGiven", "NoPairs", "NoMachine", "NoDeed", "NoMark", "NoName", "NoEnd", "NoThing", "NoNumber", "NoStep", "Bare", "NoSeam", "NoBack", "Taken", "NoFold", "Full", "TooMany", "_law_pool", "_law_take", "_law_made", "_law_kinds", "_law_above", "_law_above_due", "_law_fields"] : List PySem.Str)
abbrev hd_hk : PySem.W.Hook := He.hookP 5 hd_ps
def hd_ob (s : PySem.W.SharedT) : List He.AlB := He.obsPG 5 hd_ps (HandSHeadRun.getT s)
theorem hd_ob_eq (s : PySem.W.SharedT) : hd_ob s = hd_hk.obs s.abs := He.obsPG_eq (HandSHeadRun.getT_eq s)
theorem hd_seen0 (w : World) (os : OsState) : (He.runQ hd_R 40000 (w.withFollow "special-get-raises" false) os).map (fun s => (HandSHeadRun.looksF hd_R.prog (PySem.W.boot_heap (w.withFollow "special-get-raises" false).params) s.abs, HandSHeadRun.seenQ hd_q hd_names (importedModules hd_R.prog.main.body) (fun s => PySem.W.xlAt hd_q [] s && PySem.W.recOk hd_R.toRowW.records s) s.abs)) = some (true, PySem.W.openGood hd_q hd_names) := by kernel_rfl
theorem hd_part0_0 (w : World) (os : OsState) : (He.runQ hd_R 40000 (w.withFollow "special-get-raises" false) os).map (fun s => He.obsBG 5 hd_p0.1 hd_p0.2.1 hd_p0.2.2 (HandSHeadRun.getT s)) = some (He.valB hd_p0.1 hd_p0.2.1 (w.withFollow "special-get-raises" false)) := by kernel_rfl
theorem hd_part0_1 (w : World) (os : OsState) : (He.runQ hd_R 40000 (w.withFollow "special-get-raises" false) os).map (fun s => He.obsBG 5 hd_p1.1 hd_p1.2.1 hd_p1.2.2 (HandSHeadRun.getT s)) = some (He.valB hd_p1.1 hd_p1.2.1 (w.withFollow "special-get-raises" false)) := by kernel_rfl
theorem hd_part0_2 (w : World) (os : OsState) : (He.runQ hd_R 40000 (w.withFollow "special-get-raises" false) os).map (fun s => He.obsBG 5 hd_p2.1 hd_p2.2.1 hd_p2.2.2 (HandSHeadRun.getT s)) = some (He.valB hd_p2.1 hd_p2.2.1 (w.withFollow "special-get-raises" false)) := by kernel_rfl
theorem hd_run0 (w : World) : HandSHeadRun.RunEq hd_R hd_q hd_hk hd_ob 40000 hd_names (w.withFollow "special-get-raises" false) := He.run_of (hd_seen0 w) ⟨hd_part0_0 w, hd_part0_1 w, hd_part0_2 w, trivial⟩
theorem hd_seen1 (w : World) (os : OsState) : (He.runQ hd_R 40000 (w.withFollow "special-get-raises" true) os).map (fun s => (HandSHeadRun.looksF hd_R.prog (PySem.W.boot_heap (w.withFollow "special-get-raises" true).params) s.abs, HandSHeadRun.seenQ hd_q hd_names (importedModules hd_R.prog.main.body) (fun s => PySem.W.xlAt hd_q [] s && PySem.W.recOk hd_R.toRowW.records s) s.abs)) = some (true, PySem.W.openGood hd_q hd_names) := by kernel_rfl
theorem hd_part1_0 (w : World) (os : OsState) : (He.runQ hd_R 40000 (w.withFollow "special-get-raises" true) os).map (fun s => He.obsBG 5 hd_p0.1 hd_p0.2.1 hd_p0.2.2 (HandSHeadRun.getT s)) = some (He.valB hd_p0.1 hd_p0.2.1 (w.withFollow "special-get-raises" true)) := by kernel_rfl
theorem hd_part1_1 (w : World) (os : OsState) : (He.runQ hd_R 40000 (w.withFollow "special-get-raises" true) os).map (fun s => He.obsBG 5 hd_p1.1 hd_p1.2.1 hd_p1.2.2 (HandSHeadRun.getT s)) = some (He.valB hd_p1.1 hd_p1.2.1 (w.withFollow "special-get-raises" true)) := by kernel_rfl
theorem hd_part1_2 (w : World) (os : OsState) : (He.runQ hd_R 40000 (w.withFollow "special-get-raises" true) os).map (fun s => He.obsBG 5 hd_p2.1 hd_p2.2.1 hd_p2.2.2 (HandSHeadRun.getT s)) = some (He.valB hd_p2.1 hd_p2.2.1 (w.withFollow "special-get-raises" true)) := by kernel_rfl
theorem hd_run1 (w : World) : HandSHeadRun.RunEq hd_R hd_q hd_hk hd_ob 40000 hd_names (w.withFollow "special-get-raises" true) := He.run_of (hd_seen1 w) ⟨hd_part1_0 w, hd_part1_1 w, hd_part1_2 w, trivial⟩
theorem hd_run (w : World) : HandSHeadRun.RunEq hd_R hd_q hd_hk hd_ob 40000 hd_names w := PySem.W.byRow2 "special-get-raises" (P := fun w => HandSHeadRun.RunEq hd_R hd_q hd_hk hd_ob 40000 hd_names w) hd_run0 hd_run1 w

end Toy
namespace RowM
/-- the twelve signs, in their order -/
def sgns : List Nat := [97, 65, 98, 66, 99, 67, 100, 68, 101, 69, 102, 70]
def con (c : Nat) : Nat := if 97 ≤ c then c - 32 else c + 32
def ix (c : Nat) : Nat := sgns.idxOf c
def lo (c : Nat) : Nat := if 97 ≤ c then c else c + 32
def up (c : Nat) : Nat := if 97 ≤ c then c - 32 else c
abbrev Row (l : List Nat) : Prop := ∀ c ∈ l, c ∈ sgns
theorem con_mem {c : Nat} (h : c ∈ sgns) : con c ∈ sgns := by
  have : ∀ c ∈ sgns, con c ∈ sgns := by decide
  exact this c h
theorem con_con {c : Nat} (h : c ∈ sgns) : con (con c) = c := by
  have : ∀ c ∈ sgns, con (con c) = c := by decide
  exact this c h
theorem con_ne {c : Nat} (h : c ∈ sgns) : con c ≠ c := by
  have : ∀ c ∈ sgns, con c ≠ c := by decide
  exact this c h
theorem con_inj {a b : Nat} (ha : a ∈ sgns) (hb : b ∈ sgns) (h : con a = con b) : a = b := by
  rw [← con_con ha, h, con_con hb]
/-! ### stacks: the plain row, its last sign first -/
def push (st : List Nat) (c : Nat) : List Nat := match st with
  | [] => [c]
  | d :: r => if d = con c then r else c :: d :: r
theorem push_cons (d c : Nat) (r : List Nat) : push (d :: r) c = if d = con c then r else c :: d :: r := rfl
def act (w st : List Nat) : List Nat := w.foldl push st
def plain (w : List Nat) : List Nat := (act w []).reverse
def turn (w : List Nat) : List Nat := (w.reverse).map con
/-- no sign next to its contrary -/
def Red : List Nat → Prop
  | [] => True
  | [_] => True
  | a :: b :: r => b ≠ con a ∧ Red (b :: r)
theorem Red.tail {a : Nat} {r : List Nat} (h : Red (a :: r)) : Red r := by
  cases r with
  | nil => trivial
  | cons b r => exact h.2
theorem Row.tail {a : Nat} {r : List Nat} (h : Row (a :: r)) : Row r := fun c hc => h c (List.mem_cons_of_mem _ hc)
theorem Row.head {a : Nat} {r : List Nat} (h : Row (a :: r)) : a ∈ sgns := h a List.mem_cons_self
theorem push_row {st : List Nat} {c : Nat} (h : Row st) (hc : c ∈ sgns) : Row (push st c) := by
  cases st with
  | nil => intro d hd; simp [push] at hd; rw [hd]; exact hc
  | cons d r =>
    rw [push_cons]
    by_cases q : d = con c
    · rw [if_pos q]
      exact Row.tail h
    · rw [if_neg q]
      intro e he
      rcases List.mem_cons.mp he with rfl | he
      · exact hc
      · exact h e he
theorem push_red {st : List Nat} {c : Nat} (h : Red st) : Red (push st c) := by
  cases st with
  | nil => simp [push, Red]
  | cons d r =>
    rw [push_cons]
    by_cases q : d = con c
    · rw [if_pos q]
      exact h.tail
    · rw [if_neg q]
      exact ⟨q, h⟩
theorem push_push {st : List Nat} {c : Nat} (h : Red st) (hc : c ∈ sgns) : push (push st c) (con c) = st := by
  cases st with
  | nil => simp [push, con_con hc]
  | cons d r =>
    by_cases e : d = con c
    · simp only [push, if_pos e]
      cases r with
      | nil => simp [e]
      | cons b r =>
        have hb : b ≠ c := by
          intro q
          have := h.1
          rw [e, con_con hc] at this
          exact this q
        simp only [con_con hc, if_neg hb, e]
    · simp only [push, if_neg e, con_con hc, if_pos]
theorem push_push' {st : List Nat} {c : Nat} (h : Red st) (hc : c ∈ sgns) : push (push st (con c)) c = st := by
  have := push_push (c := con c) h (con_mem hc)
  rw [con_con hc] at this
  exact this
theorem act_append (u v st : List Nat) : act (u ++ v) st = act v (act u st) := by simp [act, List.foldl_append]
theorem act_cons (a : Nat) (w st : List Nat) : act (a :: w) st = act w (push st a) := rfl
theorem act_row : ∀ (w st : List Nat), Row w → Row st → Row (act w st)
  | [], _, _, h => h
  | a :: w, st, hw, h => act_row w (push st a) (Row.tail hw) (push_row h (Row.head hw))
theorem act_red : ∀ (w st : List Nat), Red st → Red (act w st)
  | [], _, h => h
  | a :: w, st, h => act_red w (push st a) (push_red h)
theorem turn_cons (a : Nat) (w : List Nat) : turn (a :: w) = turn w ++ [con a] := by simp [turn]
theorem turn_append (u v : List Nat) : turn (u ++ v) = turn v ++ turn u := by simp [turn]
theorem turn_row {w : List Nat} (h : Row w) : Row (turn w) := by
  intro c hc
  simp only [turn, List.mem_map, List.mem_reverse] at hc
  obtain ⟨d, hd, rfl⟩ := hc
  exact con_mem (h d hd)
theorem turn_turn {w : List Nat} (h : Row w) : turn (turn w) = w := by
  unfold turn
  rw [← List.map_reverse, List.reverse_reverse, List.map_map]
  conv => rhs; rw [← List.map_id w]
  exact List.map_congr_left fun c hc => con_con (h c hc)
theorem turn_length (w : List Nat) : (turn w).length = w.length := by simp [turn]
theorem act_turn : ∀ {w st : List Nat}, Row w → Red st → act (turn w) (act w st) = st
  | [], _, _, _ => rfl
  | a :: w, st, hw, h => by
    rw [turn_cons, act_append]
    have e : act (a :: w) st = act w (push st a) := rfl
    rw [e, act_turn (Row.tail hw) (push_red h)]
    exact push_push h (Row.head hw)
theorem act_turn' {w st : List Nat} (hw : Row w) (h : Red st) : act w (act (turn w) st) = st := by
  have := act_turn (turn_row hw) h
  rw [turn_turn hw] at this
  exact this
/-- an unplain pair goes -/
theorem act_pair {c : Nat} {u v st : List Nat} (hc : c ∈ sgns) (h : Red st) : act (u ++ c :: con c :: v) st = act (u ++ v) st := by
  rw [act_append, act_append]
  show act v (push (push (act u st) c) (con c)) = _
  rw [push_push (act_red _ _ h) hc]
theorem act_pair' {c : Nat} {u v st : List Nat} (hc : c ∈ sgns) (h : Red st) : act (u ++ con c :: c :: v) st = act (u ++ v) st := by
  have := act_pair (c := con c) (u := u) (v := v) (con_mem hc) h
  rw [con_con hc] at this
  exact this
theorem Red.snoc_iff : ∀ {l : List Nat} {a b : Nat}, Red (l ++ [a, b]) ↔ Red (l ++ [a]) ∧ b ≠ con a
  | [], a, b => by simp [Red]
  | [x], a, b => by simp [Red, and_assoc]
  | x :: y :: l, a, b => by
    have := Red.snoc_iff (l := y :: l) (a := a) (b := b)
    simp only [List.cons_append] at this ⊢
    simp only [Red]
    constructor
    · rintro ⟨h1, h2⟩
      exact ⟨⟨h1, (this.mp h2).1⟩, (this.mp h2).2⟩
    · rintro ⟨⟨h1, h2⟩, h3⟩
      exact ⟨h1, this.mpr ⟨h2, h3⟩⟩
/-- a plain row as a stack: the same read backwards -/
theorem red_reverse : ∀ {l : List Nat}, Row l → (Red l ↔ Red l.reverse)
  | [], _ => by simp [Red]
  | [a], _ => by simp [Red]
  | a :: b :: r, h => by
    have ih := red_reverse (l := b :: r) (Row.tail h)
    rw [List.reverse_cons, List.reverse_cons, List.append_assoc]
    show Red (a :: b :: r) ↔ Red (r.reverse ++ [b, a])
    rw [Red.snoc_iff]
    rw [List.reverse_cons] at ih
    rw [← ih]
    show (b ≠ con a ∧ Red (b :: r)) ↔ _
    constructor
    · rintro ⟨h1, h2⟩
      refine ⟨h2, fun e => h1 ?_⟩
      rw [e, con_con (Row.head (Row.tail h))]
    · rintro ⟨h1, h2⟩
      refine ⟨fun e => h2 ?_, h1⟩
      rw [e, con_con (Row.head h)]
theorem red_drop : ∀ {l m : List Nat}, Red (l ++ m) → Red m
  | [], _, h => h
  | _ :: l, m, h => red_drop (l := l) (Red.tail h)
theorem act_of_red : ∀ {p st : List Nat}, Red (p.reverse ++ st) → act p st = p.reverse ++ st
  | [], _, _ => by simp [act]
  | a :: p, st, h => by
    have e : (a :: p).reverse ++ st = p.reverse ++ (a :: st) := by simp
    rw [e] at h ⊢
    show act p (push st a) = _
    have hp : push st a = a :: st := by
      cases st with
      | nil => rfl
      | cons d r =>
        have hr : Red (a :: d :: r) := red_drop h
        rw [push_cons, if_neg hr.1]
    rw [hp]
    exact act_of_red h
theorem plain_row {w : List Nat} (h : Row w) : Row (plain w) := fun c hc => act_row _ _ h (fun _ q => (by cases q)) c (List.mem_reverse.mp hc)
theorem plain_red {w : List Nat} (h : Row w) : Red (plain w) := by
  unfold plain
  exact (red_reverse (act_row _ _ h fun _ q => (by cases q))).mp (act_red w _ (by trivial))
theorem plain_of_red {w : List Nat} (h : Row w) (r : Red w) : plain w = w := by
  unfold plain
  rw [act_of_red (by rw [List.append_nil]; exact (red_reverse h).mp r), List.append_nil, List.reverse_reverse]
theorem plain_plain {w : List Nat} (h : Row w) : plain (plain w) = plain w := plain_of_red (plain_row h) (plain_red h)
theorem plain_pair {c : Nat} {u v : List Nat} (hc : c ∈ sgns) : plain (u ++ c :: con c :: v) = plain (u ++ v) := by
  unfold plain
  rw [act_pair hc (by trivial)]
theorem push_plain {w : List Nat} {c : Nat} : act (w ++ [c]) [] = push (act w []) c := by rw [act_append]; rfl
/-- a row and it made plain act alike on plain stacks -/
theorem act_plain_aux : ∀ {w : List Nat}, Row w → ∀ {st : List Nat}, Red st → Row st → act (plain w) st = act w st := by
  intro w
  generalize hn : w.length = n
  induction n generalizing w with
  | zero =>
    intro h st _ _
    have : w = [] := List.eq_nil_of_length_eq_zero hn
    subst this
    rfl
  | succ n ih =>
    intro h st hr hs
    obtain ⟨u, c, rfl⟩ : ∃ u c, w = u ++ [c] := ⟨w.dropLast, w.getLast (by intro e; simp [e] at hn), (List.dropLast_concat_getLast _).symm⟩
    have hu : Row u := fun d hd => h d (List.mem_append_left _ hd)
    have hc : c ∈ sgns := h c (by simp)
    have hl : u.length = n := by simp at hn; exact hn
    have e := ih hl hu hr hs
    rw [act_append]
    show act (plain (u ++ [c])) st = push (act u st) c
    rw [← e]
    unfold plain
    rw [push_plain]
    cases hst : act u [] with
    | nil => simp [push, act]
    | cons d r =>
      by_cases q : d = con c
      · simp only [push, if_pos q]
        have e2 : (d :: r).reverse = r.reverse ++ [d] := by simp
        rw [e2, act_append]
        show _ = push (push (act r.reverse st) d) c
        rw [q, push_push' (act_red _ _ hr) hc]
      · simp only [push, if_neg q]
        have e2 : (c :: d :: r).reverse = (d :: r).reverse ++ [c] := by simp
        rw [e2, act_append]
        rfl
theorem act_plain {w st : List Nat} (h : Row w) (hr : Red st) (hs : Row st) : act (plain w) st = act w st := act_plain_aux h hr hs
theorem nil_row : Row [] := fun _ q => (by cases q)
theorem plain_turn {w : List Nat} (h : Row w) : plain (turn w) = turn (plain w) := by
  have hp := plain_row h
  have rp : Red (turn (plain w)) := by
    unfold turn
    have : ∀ l : List Nat, Row l → Red l → Red (l.map con) := by
      intro l
      induction l with
      | nil => intros; trivial
      | cons a l ih =>
        cases l with
        | nil => intros; trivial
        | cons b l =>
          intro hl hr
          refine ⟨fun e => hr.1 ?_, ih (Row.tail hl) hr.2⟩
          have := con_inj (Row.head (Row.tail hl)) (con_mem (Row.head hl)) e
          exact this
    exact this _ (fun c hc => hp c (List.mem_reverse.mp hc)) ((red_reverse hp).mp (plain_red h))
  have e : act (turn w) [] = act (turn (plain w)) [] := by
    have h1 : act w (act (turn w) []) = [] := act_turn' h (by trivial)
    have r1 : Red (act (turn w) []) := act_red _ _ (by trivial)
    have w1 : Row (act (turn w) []) := act_row _ _ (turn_row h) nil_row
    rw [← act_plain h r1 w1] at h1
    have h2 := act_turn (w := plain w) (st := act (turn w) []) hp r1
    rw [h1] at h2
    exact h2.symm
  have e2 : plain (turn w) = plain (turn (plain w)) := by unfold plain at *; rw [e]
  rw [e2, plain_of_red (turn_row hp) rp]
theorem plain_there_back {u : List Nat} (h : Row u) : plain (u ++ turn u) = [] := by
  unfold plain
  rw [act_append, act_turn h (by trivial)]
  rfl
theorem push_length (st : List Nat) (c : Nat) : (push st c).length ≤ st.length + 1 := by
  cases st with
  | nil => simp [push]
  | cons d r =>
    rw [push_cons]
    by_cases q : d = con c
    · rw [if_pos q]; simp; omega
    · rw [if_neg q]; simp
theorem act_length : ∀ (w st : List Nat), (act w st).length ≤ st.length + w.length
  | [], st => by simp [act]
  | a :: w, st => by
    have := act_length w (push st a)
    have h2 := push_length st a
    show (act w (push st a)).length ≤ _
    simp only [List.length_cons]
    omega
theorem plain_length (w : List Nat) : (plain w).length ≤ w.length := by
  unfold plain
  rw [List.length_reverse]
  simpa using act_length w []
/-! ### the order of rows -/
def lexI : List Nat → List Nat → Bool
  | a :: l, b :: m => if a = b then lexI l m else decide (a < b)
  | _, _ => false
def aheadL : List Nat → List Nat → Bool
  | a :: l, b :: m => if a = b then aheadL l m else if lo a ≠ lo b then decide (lo a < lo b) else decide (97 ≤ a)
  | _, _ => false
def before (l m : List Nat) : Bool := if l.length = m.length then lexI (l.map ix) (m.map ix) else decide (l.length < m.length)
theorem ix_inj {a b : Nat} (ha : a ∈ sgns) (hb : b ∈ sgns) : ix a = ix b ↔ a = b := by
  have : ∀ a ∈ sgns, ∀ b ∈ sgns, (ix a = ix b ↔ a = b) := by decide
  exact this a ha b hb
theorem ix_lt {a b : Nat} (ha : a ∈ sgns) (hb : b ∈ sgns) (h : a ≠ b) : decide (ix a < ix b) = (if lo a ≠ lo b then decide (lo a < lo b) else decide (97 ≤ a)) := by
  have : ∀ a ∈ sgns, ∀ b ∈ sgns, a ≠ b → decide (ix a < ix b) = (if lo a ≠ lo b then decide (lo a < lo b) else decide (97 ≤ a)) := by decide
  exact this a ha b hb h
theorem ahead_lex : ∀ {l m : List Nat}, Row l → Row m → aheadL l m = lexI (l.map ix) (m.map ix)
  | [], _, _, _ => by simp [aheadL, lexI]
  | a :: l, [], _, _ => by simp [aheadL, lexI]
  | a :: l, b :: m, hl, hm => by
    have ih := ahead_lex (Row.tail hl) (Row.tail hm)
    simp only [aheadL, List.map_cons, lexI, ix_inj (Row.head hl) (Row.head hm)]
    by_cases e : a = b
    · rw [if_pos e, if_pos e, ih]
    · rw [if_neg e, if_neg e, ix_lt (Row.head hl) (Row.head hm) e]
theorem lexI_trans : ∀ {l m n : List Nat}, l.length = m.length → m.length = n.length → lexI l m = true → lexI m n = true → lexI l n = true
  | [], _, _, _, _, h, _ => by simp [lexI] at h
  | a :: l, [], _, h, _, _, _ => by simp at h
  | a :: l, b :: m, [], _, h, _, _ => by simp at h
  | a :: l, b :: m, c :: n, h1, h2, h3, h4 => by
    simp only [lexI] at h3 h4 ⊢
    have e1 : l.length = m.length := by simpa using h1
    have e2 : m.length = n.length := by simpa using h2
    by_cases p : a = b
    · subst p
      rw [if_pos rfl] at h3
      by_cases q : a = c
      · subst q
        rw [if_pos rfl] at h4 ⊢
        exact lexI_trans e1 e2 h3 h4
      · rw [if_neg q] at h4 ⊢
        exact h4
    · rw [if_neg p] at h3
      have h3' := of_decide_eq_true h3
      by_cases q : b = c
      · subst q
        rw [if_neg p]
        exact h3
      · rw [if_neg q] at h4
        have h4' := of_decide_eq_true h4
        have : a ≠ c := by omega
        rw [if_neg this]
        exact decide_eq_true (by omega)
theorem before_trans {l m n : List Nat} (h1 : before l m = true) (h2 : before m n = true) : before l n = true := by
  unfold before at *
  by_cases e1 : l.length = m.length
  · rw [if_pos e1] at h1
    by_cases e2 : m.length = n.length
    · rw [if_pos e2] at h2
      rw [if_pos (e1.trans e2)]
      exact lexI_trans (by simpa using e1) (by simpa using e2) h1 h2
    · rw [if_neg e2] at h2
      have := of_decide_eq_true h2
      rw [if_neg (by omega)]
      exact decide_eq_true (by omega)
  · rw [if_neg e1] at h1
    have h1' := of_decide_eq_true h1
    by_cases e2 : m.length = n.length
    · rw [if_neg (by omega)]
      exact decide_eq_true (by omega)
    · rw [if_neg e2] at h2
      have := of_decide_eq_true h2
      rw [if_neg (by omega)]
      exact decide_eq_true (by omega)
end RowM

namespace L2
open PySem PySem.Spec PyProof.Rows
/-! ### rules beside the layer's own -/
section
variable {X : Cx}
/-- a constant of the module -/
theorem pe_globC {x : Str} {v : V} {pos : Pos} (h : ∃ u, X.mg x = some u ∧ RelV v u) (hg : Gl X x := by rfl) (hd : (x == ("__debug__" : Str)) = false := by decide) : PE X (.Name x pos) (tC v) := by
  obtain ⟨u, hm, r⟩ := h
  exact pe_glob hg hm r hd
/-- data that are alike: < -/
def rLtD (K : PySem.W.Frag) : R2 := fun x y H Q => ∃ d e, Dp K H x d ∧ Dp K H y e ∧ PySem.W.alike d e = true ∧ d ≠ .none ∧ min d.depth e.depth ≤ 60 ∧ Q (.bl (PySem.W.dataLt d e)) H
theorem op_ltD (hu : X.A.units + 64 < cLine) : OpR X (compareOp .Lt) (rLtD X.K) := by
  intro pins s σ H x y v u Q I rx ry h
  obtain ⟨d, e, hd, he, al, hn, hz, q⟩ := h
  obtain ⟨as, r1⟩ := Dp.reads I d x v hd rx
  obtain ⟨bs, r2⟩ := Dp.reads I e y u he ry
  exact PySem.W.lt_data r1 r2 al hn (by omega) ⟨.bl _, H, I, rfl, q⟩
/-- text[::-1] -/
def tRevS (te : TE) : TE := fun σ H Q => te σ H fun x H1 => ∃ z : Str, x = .str z ∧ z.length ≤ sizeLine ∧ Q (.str ⟨z.cps.toList.reverse.toArray⟩) H1
theorem pick_rev (z : Str) : ((Builtin.Str.strSliceIndices none none (-1) z.length).filterMap (z.cps[·]?)).toArray = z.cps.toList.reverse.toArray := by
  rw [PyProof.Rows.picked_rev]
  congr 1
  rw [PyProof.Rows.filterMap_get _ _ (fun i hi => by
    simp only [List.mem_map, List.mem_range] at hi
    obtain ⟨k, hk, rfl⟩ := hi
    have : z.length = z.cps.size := rfl
    omega)]
  apply List.ext_getElem
  · simp [Str.length]
  · intro i h1 h2
    simp only [List.length_map, List.length_range, Str.length] at h1
    simp only [List.map_map, List.getElem_map, List.getElem_range, List.getElem_reverse, Function.comp, Str.length, Array.length_toList]
    rw [Array.getD_eq_getD_getElem?]
    rw [Array.getElem?_eq_getElem (by omega)]
    simp
theorem pe_revS {e : Expr} {te : TE} {k : Nat} {p1 p2 p3 pos : Pos} (he : PE X e te) : PE X (.Subscript e (.Slice none none (some (.UnaryOp .USub (.Constant (.int 1) k p1) p2)) p3) pos) (tRevS te) := by
  refine ⟨fun pins s σ H Q I h => ?_⟩
  refine Subscript_ (thn (he.run pins s σ H _ I h) fun v s1 ⟨x, H1, I1, r1, q1⟩ => ?_)
  obtain ⟨z, ex, hz, q⟩ := q1
  subst ex
  obtain ⟨t, rfl⟩ := r1
  have hst : PO X (some (.UnaryOp .USub (.Constant (.int 1) k p1) p2)) (tPart (tUn (rU fun i => .int (-i)) (tC (.int 1)))) := po_some (pe_un un_neg pe_int)
  refine wpAny_Slice (thn (po_none.run pins s1 σ H1 (fun o H2 => o = none ∧ H2 = H1) I1 ⟨rfl, rfl⟩) fun vl s2 ⟨l, H2, I2, pl, el, e2⟩ => ?_)
  subst el e2
  refine thn (po_none.run pins s2 σ H2 (fun o H3 => o = none ∧ H3 = H2) I2 ⟨rfl, rfl⟩) fun vu s3 ⟨u, H3, I3, pu, eu, e3⟩ => ?_
  subst eu e3
  refine thn (hst.run pins s3 σ H3 (fun o H4 => o = some (-1) ∧ H4 = H3) I3 ⟨1, rfl, -1, rfl, rfl, rfl⟩) fun vs s4 ⟨o, H4, I4, ps, eo, e4⟩ => ?_
  subst eo e4
  obtain ⟨l1, rfl, hl1⟩ := IsPart.raw pl
  obtain ⟨u1, rfl, hu1⟩ := IsPart.raw pu
  obtain ⟨w1, rfl, hw1⟩ := IsPart.raw ps
  have I5 : Inv X pins σ H4 { s4 with heap := s4.heap.push { cls := .type "slice", data := .fields #[partValue l1, partValue u1, partValue w1] } } := I4.kept (t' := s4.toks) fun b ob q => Heap.get?_push_of_some _ q
  show wpAny (model X.prog X.w) X.A (subscriptTail e (.Slice none none (some (.UnaryOp .USub (.Constant (.int 1) k p1) p2)) p3) (.str z t) (.ref s4.heap.objs.size)) (EP X pins σ Q) X.xe { s4 with heap := s4.heap.push { cls := .type "slice", data := .fields #[partValue l1, partValue u1, partValue w1] } }
  refine tail_any (ops := [.str z t, .ref s4.heap.objs.size]) (typeIs_str _ _ _) F.slot_str_getitem.lookup ?_ (by with_unfolding_all rfl)
  refine wpAny_getItem_str_slice (l := l1) (u := u1) (st := w1) ⟨_, Heap.get?_push_size _ rfl, rfl, rfl⟩ (by rw [hw1]; rfl) ?_
  have hl : (⟨z.cps.toList.reverse.toArray⟩ : Str).length ≤ sizeLine := by
    show z.cps.toList.reverse.toArray.size ≤ sizeLine
    simpa [Str.length] using hz
  show Made.post (if ((w1.map (·.1)).getD 1 == 1 && (Builtin.Str.strSliceIndices (l1.map (·.1)) (u1.map (·.1)) ((w1.map (·.1)).getD 1) z.length).length == z.length) = true then Made.val (.str z t)
    else Made.str ⟨((Builtin.Str.strSliceIndices (l1.map (·.1)) (u1.map (·.1)) ((w1.map (·.1)).getD 1) z.length).filterMap (z.cps[·]?)).toArray⟩) (EP X pins σ Q) _
  rw [hl1, hu1, hw1]
  show Made.post (if ((-1 : Int) == 1 && (Builtin.Str.strSliceIndices none none (-1) z.length).length == z.length) = true then Made.val (.str z t)
    else Made.str ⟨((Builtin.Str.strSliceIndices none none (-1) z.length).filterMap (z.cps[·]?)).toArray⟩) (EP X pins σ Q) _
  rw [if_neg (by simp), pick_rev]
  exact ⟨hl, .str _, H4, I5.tok _, ⟨_, rfl⟩, q⟩
end
end L2

namespace L2
open PySem PySem.Spec PyProof.Rows
/-! ### zip of two texts -/
def Itzs (x y : Str) : It :=
  ⟨fun i _ => i < x.cps.size ∧ i < y.cps.size,
    fun i H v H' => ∃ T c d, v = .ref T ∧ H T = none ∧ H' = upd H T (.tup [.str ⟨#[c]⟩, .str ⟨#[d]⟩]) ∧ x.cps[i]? = some c ∧ y.cps[i]? = some d,
    fun i _ => (i ≤ x.cps.size ∧ i ≤ y.cps.size) ∧ (i = x.cps.size ∨ i = y.cps.size)⟩
theorem turn_zipS {P : Program} {w : World} {K : PySem.W.Frag} {elts : List Expr} {kk : Nat} {tpos : Pos} {z TI TO i1 i2 : Addr} (S : ZipSep2 z TI TO i1 i2 [i1] [i2]) (x y : Str) (t u : Tok) :
    Turn P w K (.Tuple elts kk tpos) (Itzs x y) [z, TI, TO, i1, i2] z
      (fun i h => IsZip h z TI TO .none ∧ IsTupOf2 h TI (.ref i1) (.ref i2) ∧ (∃ a b, IsTupOf2 h TO a b) ∧ h.IsStrIter i1 (strIterType x) x t i ∧ h.IsStrIter i2 (strIterType y) y u i) where
  mem := by simp
  obj := fun i h st c hc => by
    obtain ⟨hz, hTI, ⟨a, b, hTO⟩, ⟨o1, e1, _, d1⟩, ⟨o2, e2, _, d2⟩⟩ := st
    have e' : c = z ∨ c = TI ∨ c = TO ∨ c = i1 ∨ c = i2 := by simpa using hc
    rcases e' with q | q | q | q | q
    · rw [q]; exact ⟨_, hz, fun v q => nomatch q⟩
    · rw [q]; exact ⟨_, hTI, fun v q => nomatch q⟩
    · rw [q]; exact ⟨_, hTO, fun v q => nomatch q⟩
    · rw [q]; exact ⟨o1, e1, fun v q => by rw [d1] at q; cases q⟩
    · rw [q]; exact ⟨o2, e2, fun v q => by rw [d2] at q; cases q⟩
  keep := fun i h h' st k => by
    obtain ⟨hz, hTI, ⟨a, b, hTO⟩, ⟨o1, e1, r1⟩, ⟨o2, e2, r2⟩⟩ := st
    exact ⟨k z (by simp) _ hz, k TI (by simp) _ hTI, ⟨a, b, k TO (by simp) _ hTO⟩, ⟨o1, k i1 (by simp) _ e1, r1⟩, ⟨o2, k i2 (by simp) _ e2, r2⟩⟩
  item := by
    intro X hP hw hK hc i pins s σ H E I hf st hg
    subst hP hw hK
    obtain ⟨hz, hTI, ⟨a0, b0, hTO⟩, h1, h2⟩ := st
    obtain ⟨g1, g2⟩ := hg
    have hh : X.A.in1.handled = none := I.ok.hd hc
    have hzl : z < s.heap.objs.size := Heap.lt_size hz
    refine wpAny_pyNext_zipD2_item S (Draws.text hh i1 x t) (Draws.text hh i2 y u) hz hTI hTO h1 h2 g1 g2 fun x1 x2 h' tk p1 p2 h1' TO' s1 s2 hT hsz hk => ?_
    obtain ⟨c, tc, hc1, rfl⟩ := p1
    obtain ⟨d, td, hd1, rfl⟩ := p2
    refine ⟨_, rfl, wpAny_letOwnedTupleGo_zip (s := { s with heap := h', toks := tk }) h1' fun h'' z'' sb => ?_⟩
    have hT2 : h''.get? s.heap.objs.size = some { cls := .type "tuple", data := .seq #[Value.str ⟨#[c]⟩ tc, Value.str ⟨#[d]⟩ td] } := (sb.2 _ (Nat.ne_of_gt hzl)).trans hT
    have new : ObjOk X.prog X.w (upd H s.heap.objs.size (.tup [.str ⟨#[c]⟩, .str ⟨#[d]⟩])) h'' s.heap.objs.size (.tup [.str ⟨#[c]⟩, .str ⟨#[d]⟩]) :=
      ⟨by show 2 ≤ sizeLine; decide, [Value.str ⟨#[c]⟩ tc, Value.str ⟨#[d]⟩ td], .cons ⟨tc, rfl⟩ (.cons ⟨td, rfl⟩ .nil), ⟨_, hT2, rfl, _, rfl⟩⟩
    have I1 : Inv X pins σ (upd H s.heap.objs.size (.tup [.str ⟨#[c]⟩, .str ⟨#[d]⟩])) { s with heap := h'', toks := tk } :=
      I.turnedNew (t' := tk) (ch := [z, TI, TO, i1, i2]) (fun c o hb q => (sb.2 c (fun q' => hb (by simp [q']))).trans (hk c o (fun q' => hb (by simp [q'])) (fun q' => hb (by simp [q'])) (fun q' => hb (by simp [q'])) (fun q' => hb (by simp [q'])) q)) hf (Nat.le_refl _) new
    have st1 : h''.IsStrIter i1 (strIterType x) x t (i + 1) := by
      obtain ⟨o, e, r⟩ := s1
      exact ⟨o, (sb.2 _ (fun q => S.zf1 (by rw [← q]; simp))).trans e, r⟩
    have st2 : h''.IsStrIter i2 (strIterType y) y u (i + 1) := by
      obtain ⟨o, e, r⟩ := s2
      exact ⟨o, (sb.2 _ (fun q => S.zf2 (by rw [← q]; simp))).trans e, r⟩
    refine ⟨.ref s.heap.objs.size, _, I1, rfl, ⟨_, c, d, rfl, I.hok.fresh (Nat.le_refl _), rfl, hc1, hd1⟩, ⟨z'', ?_, ⟨.str ⟨#[c]⟩ tc, .str ⟨#[d]⟩ td, ?_⟩, st1, st2⟩, fun b hbm => ?_⟩
    · exact (sb.2 _ S.TIz).trans (hk _ _ S.TIz S.TITO S.TIi1 S.TIi2 hTI)
    · exact (sb.2 _ S.TOz).trans TO'
    · have hlt : b < s.heap.objs.size := by
        have e' : b = z ∨ b = TI ∨ b = TO ∨ b = i1 ∨ b = i2 := by simpa using hbm
        rcases e' with q | q | q | q | q
        · rw [q]; exact hzl
        · rw [q]; exact Heap.lt_size hTI
        · rw [q]; exact Heap.lt_size hTO
        · rw [q]; obtain ⟨_, e1, _⟩ := h1; exact Heap.lt_size e1
        · rw [q]; obtain ⟨_, e2, _⟩ := h2; exact Heap.lt_size e2
      rw [upd_ne (Nat.ne_of_lt hlt)]
      exact (hf b hbm).1
  done := by
    intro X hP hw hK hc i pins s σ H E I hf st hg
    subst hP hw hK
    obtain ⟨hz, hTI, ⟨a0, b0, hTO⟩, h1, h2⟩ := st
    obtain ⟨⟨g1, g2⟩, g3⟩ := hg
    have hh : X.A.in1.handled = none := I.ok.hd hc
    exact wpAny_pyNext_zipD2_end S (Draws.text hh i1 x t) (Draws.text hh i2 y u) hz hTI hTO h1 h2 g1 g2 g3 fun h' tk hk => ⟨rfl, I.turnedL (t' := tk) (ch := [z, TI, TO, i1, i2]) (fun c o hb q =>
      hk c o (fun q' => hb (by simp [q'])) (fun q' => hb (by simp [q'])) (fun q' => hb (by simp [q'])) (fun q' => hb (by simp [q'])) q) hf⟩
  self := fun A i s Q E st h => wpAny_pyIter_zip st.1 h
def iZipS (ta : TA) : TI := fun σ H R => ta σ H fun vs H1 => ∃ x y, vs = [.str x, .str y] ∧ R (Itzs x y) H1
theorem pi_zipS {X : Cx} {e e2 : Expr} {ta : TA} {p pos tpos : Pos} {elts : List Expr} {kk : Nat} (hg : Gl X "zip") (hm : X.mg "zip" = none) (ha : PA X [e, e2] ta)
    (hs : starEach [e, e2] X.env = (false, eval e X.env) :: starEach [e2] X.env := by rfl) (hpl : (backTo pos (starEach [e2] X.env)).any (·.1) = false := by rfl) :
    PI X (.Tuple elts kk tpos) (.Call (.Name "zip" p) [e, e2] [] pos) (iZipS ta) := by
  refine ⟨fun pins s σ H R I h => ?_⟩
  refine Call_ (ld_blt I hg hm PyProof.Rows.boot_zip (PyProof.Rows.callWith_type1 (thn (ha.run pos pins s σ H _ I h) fun us s1 ⟨vs, H1, I1, r1, q1⟩ => ?_) hs hpl))
  obtain ⟨x, y, ex, q⟩ := q1
  subst ex
  cases r1 with
  | cons r rr =>
    cases rr with
    | cons r' rr =>
      cases rr
      obtain ⟨t, rfl⟩ := r
      obtain ⟨u, rfl⟩ := r'
      refine zip_begins2 (begins_text x t) (begins_text y u) trivial trivial fun h' hz hTI hTO h1 h2 hsz hk => wpAny_pyIter_zip hz ?_
      have I2 : Inv X pins σ H1 { s1 with heap := h' } := I1.kept (t' := s1.toks) hk
      have S : ZipSep2 (s1.heap.objs.size + 4) (s1.heap.objs.size + 2) (s1.heap.objs.size + 3) s1.heap.objs.size (s1.heap.objs.size + 1) [s1.heap.objs.size] [s1.heap.objs.size + 1] :=
        zip_sep2 (fp1 := []) (fp2 := []) (fun b hb => by cases hb) (fun b hb => by cases hb)
      refine ⟨s1.heap.objs.size + 4, [s1.heap.objs.size + 4, s1.heap.objs.size + 2, s1.heap.objs.size + 3, s1.heap.objs.size, s1.heap.objs.size + 1], _, _, H1, rfl, I2, turn_zipS S x y t u, ⟨hz, hTI, ⟨_, _, hTO⟩, ⟨_, h1, rfl, rfl⟩, ⟨_, h2, rfl, rfl⟩⟩, fun c hcm => ?_, q⟩
      have e' : c = s1.heap.objs.size + 4 ∨ c = s1.heap.objs.size + 2 ∨ c = s1.heap.objs.size + 3 ∨ c = s1.heap.objs.size ∨ c = s1.heap.objs.size + 1 := by simpa using hcm
      have hle : s1.heap.objs.size ≤ c := by
        rcases e' with z | z | z | z | z
        · rw [z]; exact Nat.le_add_right _ _
        · rw [z]; exact Nat.le_add_right _ _
        · rw [z]; exact Nat.le_add_right _ _
        · rw [z]; exact Nat.le_refl _
        · rw [z]; exact Nat.le_add_right _ _
      exact I1.fpOk hle (I1.hok.fresh hle)
theorem walk_zipS {x y : Str} {n : Nat} (hn : n = min x.cps.size y.cps.size) : Walk (Itzs x y) n (fun _ => True) (fun i H v H' => ∃ T c d, v = .ref T ∧ H T = none ∧ H' = upd H T (.tup [.str ⟨#[c]⟩, .str ⟨#[d]⟩]) ∧ x.cps[i]? = some c ∧ y.cps[i]? = some d) := by
  subst hn
  exact ⟨fun _ _ hi _ => ⟨by omega, by omega⟩, fun _ _ => ⟨⟨by omega, by omega⟩, by omega⟩, fun _ _ _ _ _ _ y => y⟩
end L2

namespace L2
open PySem PySem.Spec PyProof.Rows
/-! ### rules whose readings name the written part, over any context that has it (a comprehension's block too) -/
section
variable {X : Cx} {K : PySem.W.Frag}
theorem ix_listK (h : X.K = K := by rfl) : IxR X (rIxL K) := h ▸ ix_list
theorem ix_tupK (h : X.K = K := by rfl) : IxR X (rIxT K) := h ▸ ix_tup
theorem sl_listK (h : X.K = K := by rfl) : SlR X (rSlL K) := h ▸ sl_list
theorem sl_tupK (h : X.K = K := by rfl) : SlR X (rSlT K) := h ▸ sl_tup
theorem op_inK (h : X.K = K := by rfl) : OpR X (compareOp .In) (rIn K false) := h ▸ op_in_seq
theorem op_notInK (h : X.K = K := by rfl) : OpR X (compareOp .NotIn) (rIn K true) := h ▸ op_notIn_seq
theorem op_eqDK (hu : X.A.units + 64 < cLine) (h : X.K = K := by rfl) : OpR X (compareOp .Eq) (rEqD K) := h ▸ op_eqD hu
theorem op_neDK (hu : X.A.units + 64 < cLine) (h : X.K = K := by rfl) : OpR X (compareOp .NotEq) (rNeD K) := h ▸ op_neD hu
theorem op_ltDK (hu : X.A.units + 64 < cLine) (h : X.K = K := by rfl) : OpR X (compareOp .Lt) (rLtD K) := h ▸ op_ltD hu
/-- len of a list or tuple -/
def rLenK (K : PySem.W.Frag) : List V → Hp → VK → Prop := fun xs H Q => ∃ p ys, xs = [.ref p] ∧ (SqL K H p ys ∨ SqT K H p ys) ∧ Q (.int ys.length) H
theorem call_lenK (h : X.K = K := by rfl) : CallR X (.builtin "len") (rLenK K) := h ▸ call_len_seq
def rListK (K : PySem.W.Frag) : List V → Hp → VK → Prop := fun xs H Q => ∃ p ys, xs = [.ref p] ∧ (SqL K H p ys ∨ SqT K H p ys) ∧ ∀ l, H l = none → Q (.ref l) (upd H l (.lst ys))
theorem call_listK (h : X.K = K := by rfl) : CallR X (.type "list") (rListK K) := h ▸ call_list_of
theorem cr_allK (hc : X.calm = true) (h : X.K = K := by rfl) : CallR X (.builtin "all") (rAll K) := h ▸ cr_all hc
theorem cr_anyK (hc : X.calm = true) (h : X.K = K := by rfl) : CallR X (.builtin "any") (rAny K) := h ▸ cr_any hc
theorem cr_sumK (hc : X.calm = true) (h : X.K = K := by rfl) : CallR X (.builtin "sum") (rSum K) := h ▸ cr_sum hc
theorem call_isiK1 (h : X.K = K := by rfl) : CallR X (.builtin "isinstance") (rIsi K) := h ▸ call_isi
theorem call_isiTK (h : X.K = K := by rfl) : CallR X (.builtin "isinstance") (rIsiT K) := h ▸ call_isiT
/-- sep.join(texts) -/
def rJoinK (K : PySem.W.Frag) : V → List V → Hp → VK → Prop := fun x xs H Q => ∃ a p, ∃ ys : List Str, x = .str a ∧ xs = [.ref p] ∧ (SqL K H p (ys.map V.str) ∨ SqT K H p (ys.map V.str)) ∧ (ys.map (·.length)).sum + ys.length * a.length ≤ 16777216 ∧ Q (.str (Txt.join a ys)) H
theorem mt_joinK (h : X.K = K := by rfl) : MtR X "str.join" (rJoinK K) := h ▸ mt_join
end
end L2

namespace L2
open PySem PySem.Spec PyProof.Rows
/-! ### exceptions that a suite holds, and list(text) -/
section
variable {X : Cx}
/-- the exception at a, of the class cls, its own dict d: an instance of D -/
structure ExAt (K : PySem.W.Frag) (H : Hp) (cls : Value) (d : Option Addr) (D : Addr) : Prop where
  cls : cls = .ref D
  dict : d = none ∨ ∃ dd fs, d = some dd ∧ H dd = some (.xd fs)
  ok : ExcC K D
theorem ExAt.inst {pins : List (Addr × Obj)} {σ : St} {H : Hp} {s : Shared} {cls : Value} {d : Option Addr} {D a : Addr} {oe : Obj} (I : Inv X pins σ H s) (E : ExAt X.K H cls d D) (hz : Zc cls d oe) (hf : ∃ vs, oe.data = .fields vs) (ha : s.heap.get? a = some oe) : ∃ od, PySem.W.InstAt s.heap a oe D od := by
  obtain ⟨vs, hv⟩ := hf
  obtain ⟨oc, odd, oda, osl⟩ := oe
  obtain ⟨h1, h2⟩ := hz
  dsimp only at h1 h2 hv
  have e := E.cls
  subst e h1 h2 hv
  rcases E.dict with rfl | ⟨dd, fs, rfl, hd⟩
  · exact ⟨none, ha, rfl, rfl, trivial⟩
  · obtain ⟨mA, ⟨od, es, ep, e2, _⟩, _⟩ := (show ObjOk X.prog X.w H s.heap dd (.xd fs) from I.hok dd _ hd)
    exact ⟨some od, ha, rfl, rfl, e2⟩
theorem ExcC.kit {K : PySem.W.Frag} {D a : Addr} {oe : Obj} {od : Option Obj} (C : ExcC K D) : PySem.W.KitX K (.ref a) (.ref D) (fun h => PySem.W.InstAt h a oe D od) :=
  PySem.W.kitx_exc (by obtain ⟨cd, hc, _⟩ := PySem.W.any_some C.hd; rw [hc]; rfl) C.hg C.hk C.hs C.ha C.hn C.ht C.hm
/-- isinstance(e, c) -/
def rIsX (K : PySem.W.Frag) (a : Addr) (cls : Value) (d : Option Addr) : List V → Hp → VK → Prop := fun xs H Q => ∃ (D : Addr) (c : V) (cv : Value) (b : Bool), ExAt K H cls d D ∧ xs = [.ref a, c] ∧ ClsV c cv ∧ PySem.W.kitOne K (.ref D) cv = some b ∧ Q (.bl b) H
theorem call_isX {K : PySem.W.Frag} {a : Addr} {cls : Value} {d : Option Addr} {oe : Obj} {pn : List (Addr × Obj)} (hz : Zc cls d oe) (hf : ∃ vs, oe.data = .fields vs) (hK : X.K = K := by rfl) : CallR (X.suite a ((a, oe) :: pn)) (.builtin "isinstance") (rIsX K a cls d) := by
  subst hK
  intro pins s σ H xs us Q I r h
  obtain ⟨D, c, cv, b, E, rfl, hcv, e, q⟩ := h
  obtain ⟨u1, u2, rfl, rx, rt⟩ := vals2 r
  cases rx
  have ec := hcv.eq rt
  subst ec
  obtain ⟨hget, _⟩ := I.pin (a, oe) (List.mem_append.mpr (.inl List.mem_cons_self))
  obtain ⟨od, J⟩ := ExAt.inst (X := X.suite a ((a, oe) :: pn)) I E hz hf hget
  exact PySem.W.kia_one (E.ok.kit) I.kIn J e (fun z => nomatch z) fun tk => ⟨.bl b, H, I.kept (t' := tk) fun _ _ z => z, rfl, q⟩
/-- isinstance(e, (c, ..)) -/
def rIsXT (K : PySem.W.Frag) (a : Addr) (cls : Value) (d : Option Addr) : List V → Hp → VK → Prop := fun xs H Q => ∃ (D tp : Addr) (cs : List V) (us : List Value) (b : Bool), ExAt K H cls d D ∧ xs = [.ref a, .ref tp] ∧ H tp = some (.tup cs) ∧ Paired ClsV cs us ∧ PySem.W.kitAny K (.ref D) us = some b ∧ Q (.bl b) H
theorem call_isXT {K : PySem.W.Frag} {a : Addr} {cls : Value} {d : Option Addr} {oe : Obj} {pn : List (Addr × Obj)} (hz : Zc cls d oe) (hf : ∃ vs, oe.data = .fields vs) (hK : X.K = K := by rfl) : CallR (X.suite a ((a, oe) :: pn)) (.builtin "isinstance") (rIsXT K a cls d) := by
  subst hK
  intro pins s σ H xs us Q I r h
  obtain ⟨D, tp, cs, ws, b, E, rfl, hT, k, e, q⟩ := h
  obtain ⟨u1, u2, rfl, rx, rt⟩ := vals2 r
  cases rx
  cases (show u2 = Value.ref tp from rt)
  obtain ⟨hget, _⟩ := I.pin (a, oe) (List.mem_append.mpr (.inl List.mem_cons_self))
  obtain ⟨od, J⟩ := ExAt.inst (X := X.suite a ((a, oe) :: pn)) I E hz hf hget
  obtain ⟨_, its, rv, o, h1, h2, n, h3⟩ := (show ObjOk X.prog X.w H s.heap tp (.tup cs) from I.hok tp _ hT)
  have e3 := ClsV.all k rv
  subst e3
  obtain ⟨oc, od', dt, sl⟩ := o
  simp only at h2 h3
  subst h2 h3
  exact PySem.W.kia_tup (E.ok.kit) I.kIn J h1 e (fun z => nomatch z) fun tk => ⟨.bl b, H, I.kept (t' := tk) fun _ _ z => z, rfl, q⟩
/-- list(text) -/
def rListS (H : Hp) (z : Str) (Q : VK) : Prop := ∀ l, H l = none → Q (.ref l) (upd H l (.lst (z.cps.toList.map fun c => V.str ⟨#[c]⟩)))
theorem vals_signs : ∀ (l : List Nat) (us : List Value), us.length = l.length → (∀ (i : Nat) (v : Value), us[i]? = some v → ∃ c t, l[i]? = some c ∧ v = .str ⟨#[c]⟩ t) → Vals (l.map fun c => V.str ⟨#[c]⟩) us
  | [], [], _, _ => .nil
  | [], _ :: _, h, _ => by simp at h
  | _ :: _, [], h, _ => by simp at h
  | c :: l, u :: us, h, hv => by
    obtain ⟨c', t, e1, e2⟩ := hv 0 u rfl
    have : c = c' := by simpa using e1
    subst this
    exact .cons ⟨t, e2⟩ (vals_signs l us (by simpa using h) fun i v e => by simpa using hv (i + 1) v (by simpa using e))
theorem call_listS (hc : X.calm = true) : CallR X (.type "list") (fun xs H Q => ∃ z, xs = [.str z] ∧ z.length ≤ sizeLine ∧ rListS H z Q) := by
  intro pins s σ H xs us Q I r h
  obtain ⟨z, rfl, hz, q⟩ := h
  obtain ⟨u, rfl, t, rfl⟩ := vals1 r
  have hh : X.A.handled = none := I.ok.hd hc
  refine call_list_str hh z t (hn := hz) fun h' tk acc' c' hk hS hacc => ?_
  have rv : Vals (z.cps.toList.map fun c => V.str ⟨#[c]⟩) acc'.toList := vals_signs _ _ (by simpa using hacc.1) fun i v e => by
    obtain ⟨c, u, h1, h2⟩ := hacc.2 i v (by simpa using e)
    exact ⟨c, u, by simpa using h1, h2⟩
  refine ⟨.ref s.heap.objs.size, _, I.laid (t' := tk) hk (Nat.le_refl _) (show ObjOk X.prog X.w _ h' _ (.lst _) from ⟨by rw [List.length_map, Array.length_toList]; exact hz, acc'.toList, c', rv, by simpa using hS⟩), rfl, q _ (I.hok.fresh (Nat.le_refl _))⟩
end
end L2
namespace L2
open PySem PySem.Spec PyProof.Rows
/-! ### what the written part says of an own exception class -/
structure ExK (K : PySem.W.Frag) (mg : Str → Option Value) (x : Str) (C : Addr) (bm : List Value) (newId : String) : Prop where
  gC : mg x = some (.ref C)
  xC : PySem.W.excIn K C bm newId = true
  kC : PySem.W.keepIn K (.ref C) = true
  bC : PySem.W.subIn K (.ref C) (.type "BaseException") = some true
  tC : PySem.W.typeIn K (.ref C) = some (.type "type")
  iC : PySem.W.isClsIn K C = true
  sC : PySem.W.subIn K (.ref C) (.ref C) = some true
  ok : ExcC K C
theorem ExK.te {K : PySem.W.Frag} {mg : Str → Option Value} {x : Str} {C : Addr} {bm : List Value} {newId : String} (T : ExK K mg x C bm newId) : PySem.W.exmOne K (.ref C) (.ref C) = some true := by
  have e1 : (PySem.W.subIn K (.ref C) (.type "BaseException") == some true) = true := by rw [T.bC]; rfl
  have e2 : ((PySem.W.clsIn K C).isSome && PySem.W.typeIn K (.ref C) == some (.type "type")) = true := by
    have q : (PySem.W.clsIn K C).isSome = true := T.iC
    rw [q, T.tC]
    rfl
  show (if (PySem.W.subIn K (.ref C) (.type "BaseException") == some true) = true then (if ((PySem.W.clsIn K C).isSome && PySem.W.typeIn K (.ref C) == some (.type "type")) = true then PySem.W.subIn K (.ref C) (.ref C) else none) else none) = some true
  rw [if_pos e1, if_pos e2]
  exact T.sC
section
variable {X : Cx} {CX : CXT} {x : Str} {k : Nat} {f : Addr} {fd : FuncData} {ps : List Str} {sp : Sp} {dvs : List V} {ds : List Value} {E : St → XK} {e : Expr} {es : List Expr} {t : TA} {p pos : Pos}
/-- f(e, ..) in a try's body, defaults behind -/
def tCallSD (sp : Sp) (dvs : List V) (E : St → XK) (t : TA) : TE := fun σ H Q => t σ H fun vs H1 => sp (vs ++ dvs) H1 Q (E σ)
theorem pe_callSD (F : FnOk X.prog X.w X.K X.mg X.base CX k f fd ps sp) (hr : Room k X.A) (hg : Gl X x) (hm : X.mg x = some (.ref f)) (hk : PySem.W.keepIn X.K (.ref f) = true) (hb : Binds X.K fd ps ds) (hd : Vals dvs ds) (hx : ∀ σ, PassesAt CX X σ (E σ))
    (ha : PA X (e :: es) t) (hdb : (x == ("__debug__" : Str)) = false := by decide) (he : starEach (e :: es) X.env = (false, eval e X.env) :: starEach es X.env := by rfl) (hpl : (backTo pos (starEach es X.env)).any (·.1) = false := by rfl) :
    PE X (.Call (.Name x p) (e :: es) [] pos) (tCallSD sp dvs E t) := by
  refine ⟨fun pins s σ H Q I h => ?_⟩
  refine wpAny_Call_Name_kw (ld_glob I hg hm ?_ hdb)
  refine PySem.W.callWith_K (h₀ := X.base) I.ok.mod.kin hk (thn (ha.run pos pins s σ H _ I h) fun us s1 ⟨vs, H1, I1, r, q⟩ => ⟨I1.kIn, ?_⟩) he hpl
  have r2 : Vals (vs ++ dvs) (us ++ ds) := r.append hd
  have hl : (us ++ ds).length = ps.length := by rw [← r2.length]; exact F.len _ _ _ _ q
  refine wpAny_call (codeAny_mono (F.run X.A X.stack s1 H1 ⟨us, []⟩ (us ++ ds) (vs ++ dvs) Q (E σ) hr I1.env0 (hb s1 us I1.kIn hl) r2 q) fun r s' hq => ?_)
  cases r with
  | error er => exact hx σ pins H1 s1 er s' I1 hq
  | ok fl =>
    cases fl with
    | ret u => exact I1.after hq
    | next => exact False.elim hq
    | brk => exact False.elim hq
    | cont => exact False.elim hq
end
end L2

namespace PySem
namespace XB0
open PySem.W
open PySem.HandSPX (excO)
/-- of a built-in exception class B: how its own classes are made (by L's __new__) and begun -/
structure XB (B newId initId : String) (bm : List Value) : Prop where
  nw : ∃ (L iL : String) (bL : List Value), ExcBaseFacts L newId iL bL ∧ bm.contains (.type L) = true
  hasB : bm.contains (.type B) = true
  noA : bm.contains (.type "AttributeError") = false
  noN : bm.contains (.type "NameError") = false
  init : Slot B "__init__" initId
  iE : entryFor table initId = some Builtin.«BaseException.__init__»
  iS : splitId initId = some (B, "__init__")
  iK : builtinKind initId = some .slot
  iR : Manifest.signature? initId = some ⟨.positional, "*", B, .self, [⟨"args", .varPos, false⟩]⟩
  nS : (B != "*") = true
theorem XB.of {B ni ii : String} {bm : List Value} (F : ExcBaseFacts B ni ii bm) : XB B ni ii bm := ⟨⟨B, ii, bm, F, F.hasB⟩, F.hasB, F.noAttr, F.noName, F.init, F.initEntry, F.initSplit, F.initKind, F.initRow, F.noStar⟩
abbrev keTail : List Value := [.type "KeyError", .type "LookupError", .type "Exception", .type "BaseException", .type "object"]
theorem xb_KeyError : XB "KeyError" "LookupError.__new__" "KeyError.__init__" keTail where
  nw := ⟨"LookupError", _, _, F.excBase_LookupError, by decide +kernel⟩
  hasB := by decide +kernel
  noA := by decide +kernel
  noN := by decide +kernel
  init := .of (owner := "KeyError") (n := "__init__") (by rw [typeLookup_type, builtinLookup_eq_fast]; kernel_rfl) (by decide +kernel) (by decide +kernel) (by decide +kernel)
    (by first | exact .inl (by decide +kernel) | exact .inr (by decide +kernel)) (by rw [isSubtype_type]; kernel_rfl)
  iE := by kernel_rfl
  iS := by decide +kernel
  iK := by decide +kernel
  iR := by kernel_rfl
  nS := by decide +kernel
theorem st_KeyError : StoreFacts "KeyError" keTail "object.__setattr__" "object" where
  mro := by kernel_rfl
  slot := .of (owner := "object") (n := "__setattr__") (by rw [typeLookup_type, builtinLookup_eq_fast]; kernel_rfl) (by decide +kernel) (by decide +kernel) (by decide +kernel) (by first | exact .inl (by decide +kernel) | exact .inr (by decide +kernel)) (by rw [isSubtype_type]; kernel_rfl)
  entry := F.entry_object_sa
  kind := by decide +kernel
  split := by decide +kernel
  hasOwner := by decide +kernel
  args := fun x y z => by unfold argsOk; kernel_rfl
  passes := fun x => by kernel_rfl
section
variable {prog : Program} {w : World} {A : Around} {E : Value → Shared → Prop} {R : Result → Shared → Prop} {h : Heap} {g : Array GenState} {d : Drawn} {t : Nat} {os : OsState}
variable {nm q : Str} {C N : Addr} {bs bm bmB : List Value} {hdct : Bool} {sn : List Str} {sub : List Value} {ab : Bool} {col : Option Bool} {dd : Option Addr} {k0 k1 k2 k3 k5 : Option Value} {B ni ii : String}
theorem xb_checkNew (F : XB B ni ii bmB) (hT : ∀ X : String, bm.contains (.type X) = bmB.contains (.type X)) {us : List Value} {Q : Unit → Shared → Prop}
    (hC : h.get? C = some (excClassObj nm q C N bs bm hdct sn sub ab col dd k0 k1 k2 k3 k5 ni)) (z : Q () ⟨h, g, d, t, os⟩) : wpAny (model prog w) A (checkBuiltinCall ni ⟨.ref C :: us, []⟩) Q E ⟨h, g, d, t, os⟩ := by
  obtain ⟨L, iL, bL, G, hL⟩ := F.nw
  have c1 : (Value.ref C :: bm).contains (.type L) = true := by rw [List.contains_cons, hT, hL, Bool.or_true]
  have c2 := G.noStar
  simp only [checkBuiltinCall, G.newKind, G.newSplit, G.newRow]
  repeat (first | refine wpAny_loadPart_at hC ?_ | (refine wpAny_isSubtype_exc hC ?_; rw [c1]) | refine wpAny_staticBase_exc hC ?_ | refine wpAny_madeBy_exc hC ?_ | simp only [bne_self_eq_false, Bool.false_eq_true, if_false] | wp_step)
  exact z
theorem xb_new (F : XB B ni ii bmB) (hT : ∀ X : String, bm.contains (.type X) = bmB.contains (.type X)) {us : List Value}
    (hC : h.get? C = some (excClassObj nm q C N bs bm hdct sn sub ab col dd k0 k1 k2 k3 k5 ni))
    (z : R (.ok (.ret (.ref (h.objs.size + 1)))) ⟨(h.push (PySem.W.kdv_tup us)).push (excO C h.objs.size), g, d, t, os⟩) (hl : us.length ≤ sizeLine) :
    codeAny (model prog w) A (.builtin ni ⟨.ref C :: us, []⟩) R ⟨h, g, d, t, os⟩ := by
  obtain ⟨L, iL, bL, G, hL⟩ := F.nw
  have c0 := G.ends
  have c1 : (Value.ref C :: bm).contains (.type L) = true := by rw [List.contains_cons, hT, hL, Bool.or_true]
  have c2 : (Value.ref C :: bm).contains (.type "AttributeError") = false := by rw [List.contains_cons, hT, F.noA]; rfl
  have c3 : (Value.ref C :: bm).contains (.type "NameError") = false := by rw [List.contains_cons, hT, F.noN]; rfl
  refine codeAny_builtinAt G.entry ?_
  unfold Builtin.«BaseException.__new__»
  refine wpAt_bind ?_
  show wpAt _ _ _ (stack >>= _) _ _ _
  refine wpAt_bind (wpAt_stack fun p below => wpAt_of_wpAny ?_)
  wp_walk
  refine wpAt_of_wpAny ?_
  rw [G.owner]
  repeat (first | with_reducible refine wpAny_madeHere_exc G.canon hC ?_ | with_reducible refine wpAny_loadPart_at hC ?_ | (with_reducible refine wpAny_isSubtype_exc hC ?_; first | rw [c1] | rw [c2] | rw [c3]) | wp_step)
  show R _ _
  rw [Heap.size_push]
  exact z
theorem xb_checkInit (F : XB B ni ii bmB) (hT : ∀ X : String, bm.contains (.type X) = bmB.contains (.type X)) {e : Addr} {oe : Obj} {us : List Value} {Q : Unit → Shared → Prop}
    (hC : h.get? C = some (excClassObj nm q C N bs bm hdct sn sub ab col dd k0 k1 k2 k3 k5 ni)) (he : h.get? e = some oe) (hc : oe.cls = .ref C) (z : Q () ⟨h, g, d, t, os⟩) :
    wpAny (model prog w) A (checkBuiltinCall ii ⟨.ref e :: us, []⟩) Q E ⟨h, g, d, t, os⟩ := by
  have c1 : (Value.ref C :: bm).contains (.type B) = true := by rw [List.contains_cons, hT, F.hasB, Bool.or_true]
  have c2 := F.nS
  simp only [checkBuiltinCall, F.iK, F.iS, F.iR]
  repeat (first | (with_reducible refine wpAny_loadPart_at he ?_; rw [hc]) | with_reducible refine wpAny_loadPart_at hC ?_ | (with_reducible refine wpAny_isSubtype_exc hC ?_; rw [c1]) | wp_step)
  refine wpAny_onRaise ?_
  rw [show ∀ (x y : String) (n : Nat), Bind.check ⟨.positional, "*", B, .self, [⟨"args", .varPos, false⟩]⟩ x y n (List.map (fun v => v.fst) ({ pos := Value.ref e :: us } : Args).kw) = pure () from
    fun x y n => check_star_args _ _ _ _ _ _]
  exact wpAny_pure z
theorem xb_init (F : XB B ni ii bmB) (hT : ∀ X : String, bm.contains (.type X) = bmB.contains (.type X)) {e t0 : Addr} {us : List Value}
    (hC : h.get? C = some (excClassObj nm q C N bs bm hdct sn sub ab col dd k0 k1 k2 k3 k5 ni)) (he : h.get? e = some (excO C t0)) (hl : us.length ≤ sizeLine)
    (z : ∀ h' t1, (∀ b o, b ≠ e → h.get? b = some o → h'.get? b = some o) → h'.get? e = some (excO C t1) → R (.ok (.ret .none)) ⟨h', g, d, t, os⟩) :
    codeAny (model prog w) A (.call (.builtin ii) ⟨.ref e :: us, []⟩) R ⟨h, g, d, t, os⟩ := by
  refine codeAny_call_builtin F.init.plain F.iE (xb_checkInit F hT hC he rfl ?_)
  wp_walk
  refine z _ h.objs.size (fun x o hx ho => ?_) ?_
  · rw [Heap.get?_update_other _ _ (Ne.symm hx)]
    exact Heap.get?_push_of_some _ ho
  · rw [Heap.get?_update_self _ (Heap.get?_push_of_some _ he) rfl]
    rfl
theorem xb_typeCall (F : XB B ni ii bmB) (hT : ∀ X : String, bm.contains (.type X) = bmB.contains (.type X)) {us : List Value} {fI : Addr} {Q : Fin → Shared → Prop}
    (hC : h.get? C = some (excClassObj nm q C N bs bm hdct sn sub ab col dd k0 k1 k2 k3 k5 ni))
    (hi : W.Looks (model prog w) h (typeLookup (.ref C) "__init__") (some (.ref fI))) (hb : ∀ x, W.Looks (model prog w) h (bindSpecial (.ref fI) x) (.ref fI, [x])) (hl : us.length ≤ sizeLine)
    (z : codeAny (model prog w) A (.call (.ref fI) ⟨.ref (h.objs.size + 1) :: us, []⟩)
      (fun r s' => match r with | .ok (.ret v) => v = .none ∧ Q (.done (.ret (.ref (h.objs.size + 1)))) s' | .ok _ => False | .error e => E e s')
      ⟨(h.push (PySem.W.kdv_tup us)).push (excO C h.objs.size), g, d, t, os⟩) :
    wpAny (model prog w) A (Builtin.«type.__call__» ⟨.ref C :: us, []⟩) Q E ⟨h, g, d, t, os⟩ := by
  obtain ⟨L, iL, bL, G, hL⟩ := F.nw
  repeat (first | with_reducible refine wpAny_loadPart_at hC ?_ | with_reducible refine wpAny_madeBy_exc hC ?_ | wp_step)
  refine codeAny_call_builtin_code (Code.quiet_builtin _ G.quiet) (xb_checkNew F hT hC ?_)
  refine xb_new F hT hC ?_ hl
  show wpAny _ _ _ _ _ _
  have k : ∀ b o, h.get? b = some o → ((h.push (PySem.W.kdv_tup us)).push (excO C h.objs.size)).get? b = some o := fun b o e => Heap.get?_push_of_some _ (Heap.get?_push_of_some _ e)
  have c1 := k _ _ hC
  have c2 : ((h.push (PySem.W.kdv_tup us)).push (excO C h.objs.size)).get? (h.objs.size + 1) = some (excO C h.objs.size) := by heap_get
  have c3 : (Value.ref C :: bm).contains (.ref C) = true := by simp
  have i1 := hi.keeps k
  have b1 := (hb (.ref (h.objs.size + 1))).keeps k
  unfold isInstance
  repeat (first | with_reducible refine wpAny_loadPart_at c2 ?_ | (with_reducible refine wpAny_isSubtype_exc c1 ?_; rw [c3]) | wp_step)
  show wpAny _ _ (typeLookup (.ref C) _) _ _ _
  refine i1.at ?_
  refine wpAny_holding (wpAny_bind (b1.at ?_))
  refine wpAny_bind (wpAny_call (codeAny_mono z fun r s' y => ?_))
  rcases r with e | (v | _ | _ | _) <;> first | exact y | exact y.elim | skip
  obtain ⟨rfl, y⟩ := y
  first
    | exact wpAny_pure (wpAny_pure y)
    | (wp_walk; exact y)
theorem xb_call (F : XB B ni ii bmB) (hT : ∀ X : String, bm.contains (.type X) = bmB.contains (.type X)) {us : List Value} {fI : Addr}
    (hC : h.get? C = some (excClassObj nm q C N bs bm hdct sn sub ab col dd k0 k1 k2 k3 k5 ni))
    (hi : W.Looks (model prog w) h (typeLookup (.ref C) "__init__") (some (.ref fI))) (hb : ∀ x, W.Looks (model prog w) h (bindSpecial (.ref fI) x) (.ref fI, [x])) (hl : us.length ≤ sizeLine)
    (z : codeAny (model prog w) (A.under (.builtin "type.__call__" ⟨.ref C :: us, []⟩)) (.call (.ref fI) ⟨.ref (h.objs.size + 1) :: us, []⟩) (W.InitBack (h.objs.size + 1) R)
      ⟨(h.push (PySem.W.kdv_tup us)).push (excO C h.objs.size), g, d, t, os⟩) :
    codeAny (model prog w) A (.call (.ref C) ⟨us, []⟩) R ⟨h, g, d, t, os⟩ := by
  have f1 := tc_lookup
  have f2 := tc_bind (.ref C)
  have f3 : (⟨h, g, d, t, os⟩ : Shared).TypeIs (.ref C) "type" := ⟨_, hC, rfl⟩
  refine codeAny_of_tree ?_
  show wpAny _ _ (callAny (.ref C) _) _ _ _
  repeat (any_goals (first | assumption | with_reducible refine wpAny_loadPart_at hC ?_ | wp_step))
  refine ⟨rfl, ?_⟩
  refine codeAny_call_builtin_at (Code.quiet_builtin _ (by decide +kernel)) entry_typeCall (wpAny_check_type_call_sub hC (xb_typeCall F hT hC hi hb hl ?_))
  refine codeAny_mono z fun r s' y => ?_
  rcases r with e | (v | _ | _ | _) <;> exact y
end
end XB0
end PySem
namespace L2
open PySem PySem.Spec PyProof.Rows
/-! ### own exceptions with fields over any built-in base -/
/-- what is asked of such a class C over the built-in class B -/
structure XiC (K : PySem.W.Frag) (C : Addr) (B newId initId : String) (bmB : List Value) : Prop where
  fb : PySem.XB0.XB B newId initId bmB
  sf : StoreFacts B bmB "object.__setattr__" "object"
  made : PySem.W.excInitIn K C bmB newId = true
  ov : PySem.W.excOver K C bmB = true
  hd : PySem.W.hasDictIn K C = true
  sa : PySem.W.findIn K (.ref C) "__setattr__" = some (some (.builtin "object.__setattr__"))
  bC : PySem.W.subIn K (.ref C) (.type "BaseException") = some true
  tC : PySem.W.typeIn K (.ref C) = some (.type "type")
  kC : PySem.W.keepIn K (.ref C) = true
section
variable {X : Cx} {pins : List (Addr × Obj)} {σ : St} {H : Hp} {s : Shared} {a C dx : Addr} {f : Str} {y : V} {u : Value} {fs : List (Str × V)} {Q : Unit → Shared → Prop} {E : Value → Shared → Prop} {A : Around} {B ni ii : String} {bm : List Value}
/-- e.f = y, the first field: the exception's dict is made -/
theorem xi_first (T : XiC X.K C B ni ii bm) (I : Inv X pins σ H s) (he : H a = some (exo a C none)) (ht : PySem.W.takerIn X.K C f = some none) (ry : RelV y u)
    (k : ∀ dx s', H dx = none → dx ≠ a → Inv X pins σ (upd (upd (upd H dx (exd dx [])) a (exo a C (some dx))) dx (exd dx [(f, y)])) s' → Q () s') : wpAny (model X.prog X.w) A (setAttr (.ref a) f u) Q E s := by
  obtain ⟨t1, ho⟩ := exo_at I.hok he
  obtain ⟨hp, g, dr, t, os⟩ := s
  obtain ⟨cd, hc, hdct⟩ := PySem.W.any_some T.hd
  have lt : a < hp.objs.size := Heap.lt_size ho
  refine PySem.W.set_plain I.kIn (od := none) ⟨ho, rfl, rfl, trivial⟩ T.sa ?_
  refine PySem.W.osa_openX (od := none) T.sf I.kIn ⟨ho, rfl, rfl, trivial⟩ T.ov ht fun b => ?_
  refine wpAny_bind (wpAny_pure (wpAny_bind (PySem.W.instanceDict_exc ho (PySem.W.looks_clsIn I.kIn hc) hdct ?_)))
  show wpAny _ _ (Builtin.ObjectAttr.storeInDict hp.objs.size _ f u) _ _ _
  have gd : (hp.push (PySem.W.dictOf [] 0)).get? hp.objs.size = some (PySem.W.dictOf [] 0) := Heap.get?_push_size _ rfl
  have ns0 : (hp.push (PySem.W.dictOf [] 0)).Ns1 hp.objs.size (fun _ => none) := Heap.Ns1.of_empty ⟨_, #[], _, gd, rfl, fun e he => absurd he (by simp), fun _ => rfl⟩
  have J1 := I.laid (a := hp.objs.size) (o := exd hp.objs.size []) (h' := hp.push (PySem.W.dictOf [] 0)) (t' := t) (fun _ _ q => Heap.get?_push_of_some _ q) (Nat.le_refl _) (exd_ok ns0 fun _ => True.intro)
  have fr : H hp.objs.size = none := I.hok.fresh (Nat.le_refl _)
  have na : hp.objs.size ≠ a := Nat.ne_of_gt lt
  have gx := Heap.get?_update_self (fun o : Obj => { o with dict := some hp.objs.size }) (Heap.get?_push_of_some (PySem.W.dictOf [] 0) ho) rfl
  have J2 := J1.write (x := a) (e := a) (o := exo a C (some hp.objs.size)) (h' := (hp.push (PySem.W.dictOf [] 0)).update a fun o => { o with dict := some hp.objs.size }) (t' := t)
    (by rw [upd_ne na.symm, he]; exact True.intro) (.inl rfl) (fun b o hb q => (Heap.get?_update_ne _ _ _ _ hb).trans q) ⟨_, gx⟩ (exo_ok gx)
  have ns1 : ((hp.push (PySem.W.dictOf [] 0)).update a fun o => { o with dict := some hp.objs.size }).Ns1 hp.objs.size (fun _ => none) :=
    Heap.Ns1.of_empty ⟨_, #[], _, (Heap.get?_update_ne _ _ _ _ na).trans gd, rfl, fun e he => absurd he (by simp), fun _ => rfl⟩
  refine PySem.OEX.store_in_old (ns := []) ns1 Within.nil (by decide) fun h' tk' hn' sb => ?_
  have ex : ∃ o, h'.get? hp.objs.size = some o := by
    obtain ⟨o, _, _, q, _⟩ := hn'
    exact ⟨o, q⟩
  exact k hp.objs.size _ fr na (J2.write (x := hp.objs.size) (e := hp.objs.size) (o := exd hp.objs.size [(f, y)]) (h' := h') (t' := tk')
    (by rw [upd_ne na, upd_same]; exact True.intro) (.inl rfl) (fun b o hb q => (sb.2 b hb).trans q) ex (exd_ok hn' (relO_put (fs := []) ry fun _ => True.intro)))
/-- e.f = y, a later field -/
theorem xi_later (T : XiC X.K C B ni ii bm) (I : Inv X pins σ H s) (he : H a = some (exo a C (some dx))) (hd : H dx = some (exd dx fs)) (hl : fs.length ≤ 900) (ht : PySem.W.takerIn X.K C f = some none) (ry : RelV y u)
    (k : ∀ s', Inv X pins σ (upd H dx (exd dx ((f, y) :: fs))) s' → Q () s') : wpAny (model X.prog X.w) A (setAttr (.ref a) f u) Q E s := by
  obtain ⟨t1, ho⟩ := exo_at I.hok he
  obtain ⟨mA, ns1, rel⟩ := exd_at I.hok hd
  have wi := within_of rel
  obtain ⟨hp, g, dr, t, os⟩ := s
  obtain ⟨cd, hc, hdct⟩ := PySem.W.any_some T.hd
  obtain ⟨oD, _, _, gD, _, _⟩ := ns1.count wi
  refine PySem.W.set_plain I.kIn (od := some oD) ⟨ho, rfl, rfl, gD⟩ T.sa ?_
  refine PySem.W.osa_openX (od := some oD) T.sf I.kIn ⟨ho, rfl, rfl, gD⟩ T.ov ht fun b => ?_
  refine wpAny_bind (wpAny_pure (wpAny_bind (wpAny_bind (wpAny_loadPart ho (wpAny_bind ((PySem.W.looks_clsIn I.kIn hc).at ?_))))))
  rw [hdct]
  refine wpAny_pure (a := some dx) ?_
  refine PySem.OEX.store_in_old ns1 wi (by rw [List.length_map]; omega) fun h' tk' hn' sb => ?_
  have ex : ∃ o, h'.get? dx = some o := by
    obtain ⟨o, _, _, q, _⟩ := hn'
    exact ⟨o, q⟩
  exact k _ (I.write (x := dx) (e := dx) (o := exd dx ((f, y) :: fs)) (h' := h') (t' := tk') (by rw [hd]; exact True.intro) (.inl rfl) (fun b o hb q => (sb.2 b hb).trans q) ex (exd_ok hn' (relO_put ry rel)))
/-- B.__init__(e, ..): nothing of it is told -/
theorem xi_base {us : List Value} {P : Value → Shared → Prop} (T : XiC X.K C B ni ii bm) (I : Inv X pins σ H s) (he : H a = some (exo a C none)) (hl : us.length ≤ sizeLine) (k : ∀ s', Inv X pins σ H s' → P .none s') :
    wpAny (model X.prog X.w) A (call (.builtin ii) (.ref a :: us)) P E s := by
  obtain ⟨nm, N, q, bs, bm', hdct, sn, sub, ab, col, dd, k0, k1, k2, k3, k5, hC, hT⟩ := PySem.W.excInit_of I.kIn T.made
  obtain ⟨t1, ho⟩ := exo_at I.hok he
  obtain ⟨hp, g, d, t, os⟩ := s
  refine wpAny_call (PySem.XB0.xb_init T.fb hT hC ho hl fun h' t2 kp hx => ?_)
  have J := I.write (t' := t) (x := a) (e := a) (o := exo a C none) (by rw [he]; exact True.intro) (.inl rfl) kp ⟨_, hx⟩ (exo_ok hx)
  have same : upd H a (exo a C none) = H := funext fun b => by
    by_cases hb : b = a
    · subst hb; rw [upd_same, he]
    · exact upd_ne hb
  rw [same] at J
  exact k _ J
end
/-- B.__init__(self, ..) -/
def tXi (K : PySem.W.Frag) (B ni ii : String) (bm : List Value) (ta : TA) : TE := fun σ H Q => ta σ H fun vs H1 => ∃ (a C : Addr) (ws : List V), vs = .ref a :: ws ∧ ws.length ≤ 1000 ∧ XiC K C B ni ii bm ∧ H1 a = some (exo a C none) ∧ Q .non H1
/-- self.f = e -/
def tXs (K : PySem.W.Frag) (B ni ii : String) (bm : List Value) (f : Str) (to te : TE) : TS := fun D σ H => te σ H fun y H1 => to σ H1 fun x H2 => ∃ a C : Addr, x = .ref a ∧ XiC K C B ni ii bm ∧ PySem.W.takerIn K C f = some none ∧
  ((H2 a = some (exo a C none) ∧ ∀ dx, H2 dx = none → dx ≠ a → D.nx σ (upd (upd (upd H2 dx (exd dx [])) a (exo a C (some dx))) dx (exd dx [(f, y)]))) ∨
    ∃ (dx : Addr) (fs : List (Str × V)), H2 a = some (exo a C (some dx)) ∧ H2 dx = some (exd dx fs) ∧ fs.length ≤ 900 ∧ D.nx σ (upd H2 dx (exd dx ((f, y) :: fs))))
section
variable {X : Cx} {o e : Expr} {es : List Expr} {to te : TE} {ta : TA} {f : Str} {p p' p1 p2 pos : Pos} {B ni ii : String} {bm : List Value}
theorem pe_xi {x : Str} {pl : Sem Bool} (hg : Gl X x) (hm : X.mg x = none) (hv : bootBuiltins x = some (.type B)) (hn : x ≠ "__name__") (hdb : (x == ("__debug__" : Str)) = false) (ty : typeOf (.type B) = pure (.type "type")) (vV : PySem.W.findCls X.K (.type B) (.type "type") "__init__" = some (.val (.builtin ii))) (ha : PA X (e :: es) ta)
    (stub : Manifest.isStub B = false := by decide +kernel) (hnd : PySem.W.handedIn (.builtin ii) = true := by decide +kernel)
    (hc : eval (.Call (.Attribute (.Name x p1) "__init__" p2) (e :: es) [] pos) X.env = (do
      let ov ← eval (.Name x p1) X.env
      standAt p2.atName
      let (f, first) ← holding [ov] (getMethod ov "__init__" pl)
      callWith pos f first (backTo pos (starEach (e :: es) X.env)) (backToKw pos (keywordEach [] X.env))) := by rfl)
    (he : starEach (e :: es) X.env = (false, eval e X.env) :: starEach es X.env := by rfl) (hpl : (backTo pos (starEach es X.env)).any (·.1) = false := by rfl) :
    PE X (.Call (.Attribute (.Name x p1) "__init__" p2) (e :: es) [] pos) (tXi X.K B ni ii bm ta) := by
  refine ⟨fun pins s σ H Q I h => ?_⟩
  refine PySem.W.methodCall_KW (ld_blt I hg hm hv ?_ hn hdb) hc
  obtain ⟨m, fr⟩ := I.fr
  refine PySem.W.method_type fr I.ok.mod.kin ty stub vV hnd ?_
  show wpAny _ _ (callWith pos (Value.builtin ii) [] (backTo pos (starEach (e :: es) X.env)) []) _ _ _
  refine PyProof.Rows.callWith_method1 (thn (ha.run pos pins _ σ H _ (I.tok _) h) fun us s1 z => ?_) he hpl
  obtain ⟨vs, H1, J, r, a, C, ws, rfl, hl, T, ea, q⟩ := z
  cases r with
  | @cons _ u0 _ ur ra rw' =>
    cases (show u0 = Value.ref a from ra)
    exact xi_base T J ea (by rw [← Paired.length rw', sizeLine_eq]; omega) fun s' J' => ⟨.non, H1, J', rfl, q⟩
theorem ps_xs (ho : PE X o to) (he : PE X e te) (hs : swapsWith e (some (.Attribute o f p')) pos.line X.env = pure false := by rfl) : PS X (.Assign [.Attribute o f p'] e pos) (tXs X.K B ni ii bm f to te) := by
  refine ⟨fun pins s σ H D I h => plainObj_wpAny_Assign_Attribute (thn (he.run pins s σ H _ I h) fun v s1 z1 => ?_) hs⟩
  obtain ⟨y, H1, J1, ry, q1⟩ := z1
  refine thn (ho.run pins s1 σ H1 _ J1 q1) fun u s2 z2 => ?_
  obtain ⟨x, H2, J2, rx, a, C, rfl, T, ht, q⟩ := z2
  cases (show u = Value.ref a from rx)
  rcases q with ⟨ea, q⟩ | ⟨dx, fs, ea, ed, hl, q⟩
  · exact xi_first T J2 ea ht ry fun dx s' n ne J => ⟨σ, _, J, q dx n ne⟩
  · exact xi_later T J2 ea ed hl ht ry fun s' J => ⟨σ, _, J, q⟩
/-- C(e, ..), C's own __init__ keeping sp -/
theorem pmk_xi {CX : CXT} {x : Str} {C fI : Addr} {k : Nat} {fd : FuncData} {ps : List Str} {sp : Sp} {ds : List Value} {dvs : List V} (T : XiC X.K C B ni ii bm) (iC : PySem.W.findIn X.K (.ref C) "__init__" = some (some (.ref fI))) (tI : PySem.W.typeIn X.K (.ref fI) = some (.type "function"))
    (F1 : FnOk X.prog X.w X.K X.mg X.base CX k fI fd ps sp) (hr : Room (k + 1) X.A) (hb : Binds X.K fd ps ds) (hd : Vals dvs ds) (hx : Passes CX X (fun _ _ _ => False)) (hg : Gl X x) (hm : X.mg x = some (.ref C)) (ha : PA X (e :: es) ta)
    (hdb : (x == ("__debug__" : Str)) = false := by decide) (he : starEach (e :: es) X.env = (false, eval e X.env) :: starEach es X.env := by rfl) (hpl : (backTo pos (starEach es X.env)).any (·.1) = false := by rfl) :
    PMk X (.Call (.Name x p) (e :: es) [] pos) (tMkO C sp dvs ta) := by
  intro pins s σ H Q I h
  refine wpAny_Call_Name_kw (ld_glob I hg hm ?_ hdb)
  refine PySem.W.callWith_K (h₀ := X.base) I.ok.mod.kin T.kC (thn (ha.run pos pins s σ H _ I h) fun us s1 z => ?_) he hpl
  obtain ⟨vs, H1, J, r, hz, q⟩ := z
  refine ⟨J.kIn, ?_⟩
  show wpAny _ _ (call (.ref C) us) _ _ _
  obtain ⟨nm, N, qn, bs, bm', hdct, sn, sub, ab, col, dd, k0, k1, k2, k3, k5, hC, hT⟩ := PySem.W.excInit_of J.kIn T.made
  obtain ⟨hp, g, dr, tk, os⟩ := s1
  have n1 : hp.objs.size ≤ hp.objs.size + 1 := Nat.le_succ _
  have Z := q (hp.objs.size + 1) (J.hok.fresh n1)
  have kp : ∀ b o, hp.get? b = some o → ((hp.push (PySem.W.kdv_tup us)).push (PySem.HandSPX.excO C hp.objs.size)).get? b = some o := fun _ _ z => Heap.get?_push_of_some _ (Heap.get?_push_of_some _ z)
  have gt : ((hp.push (PySem.W.kdv_tup us)).push (PySem.HandSPX.excO C hp.objs.size)).get? (hp.objs.size + 1) = some (PySem.HandSPX.excO C hp.objs.size) := by heap_get
  have J2 := J.laid (t' := tk) (a := hp.objs.size + 1) (o := exo (hp.objs.size + 1) C none) (h' := (hp.push (PySem.W.kdv_tup us)).push (PySem.HandSPX.excO C hp.objs.size)) kp n1 (exo_ok gt)
  have r2 : Vals (V.ref (hp.objs.size + 1) :: (vs ++ dvs)) (Value.ref (hp.objs.size + 1) :: (us ++ ds)) := .cons rfl (r.append hd)
  have zl : (Value.ref (hp.objs.size + 1) :: us ++ ds).length = ps.length := (r2.length.symm.trans (F1.len _ _ _ _ Z)).symm ▸ rfl
  refine wpAny_call (PySem.XB0.xb_call T.fb hT hC (PySem.W.looks_findIn J.kIn iC) (fun self => PySem.W.bind_fn J.kIn self tI) (by rw [← Paired.length r, sizeLine_eq]; omega)
    (codeAny_mono (F1.run _ X.stack _ _ ⟨Value.ref (hp.objs.size + 1) :: us, []⟩ (Value.ref (hp.objs.size + 1) :: (us ++ ds)) _ _ (fun _ _ _ => False) (hr.make C us []) (J2.env0.make C us []) (hb _ (Value.ref (hp.objs.size + 1) :: us) J2.kIn zl) r2 Z) fun rs s' z => ?_))
  cases rs with
  | error er => exact hx pins σ _ _ er s' J2 z
  | ok fl =>
    cases fl with
    | ret u =>
      obtain ⟨v, H2, os2, bare2, un2, hok2, rv, ev, d, fs, ea, ed, hd1, q2⟩ := z
      subst ev
      obtain ⟨h2, g2, d2, t2, os'⟩ := s'
      exact ⟨rv, mk_end (raises_own T.bC T.tC) J n1 kp un2 hok2 os2 bare2 ea ed hd1 q2⟩
    | _ => exact False.elim z
end
end L2
namespace L2
open PySem PySem.Spec PyProof.Rows
/-! ### what the written part says of such a class -/
structure ExF (K : PySem.W.Frag) (mg : Str → Option Value) (x : Str) (C : Addr) (B ni ii : String) (bm : List Value) : Prop where
  gC : mg x = some (.ref C)
  xi : XiC K C B ni ii bm
  iC : PySem.W.isClsIn K C = true
  sC : PySem.W.subIn K (.ref C) (.ref C) = some true
  ok : ExcC K C
  xf : XfC K C
section
variable {K : PySem.W.Frag} {mg : Str → Option Value} {x : Str} {C D : Addr} {B ni ii : String} {bm : List Value} {b : Bool} {T : String} {f : Str}
theorem ExF.tC (E : ExF K mg x C B ni ii bm) : PySem.W.typeIn K (.ref C) = some (.type "type") := E.xi.tC
theorem ExF.bC (E : ExF K mg x C B ni ii bm) : PySem.W.subIn K (.ref C) (.type "BaseException") = some true := E.xi.bC
/-- which clause takes an exception -/
theorem exm_of (s : PySem.W.subIn K (.ref C) (.ref D) = some b) (bD : PySem.W.subIn K (.ref D) (.type "BaseException") = some true) (iD : PySem.W.isClsIn K D = true) (tD : PySem.W.typeIn K (.ref D) = some (.type "type")) : PySem.W.exmOne K (.ref C) (.ref D) = some b := by
  have q : (PySem.W.clsIn K D).isSome = true := iD
  show (if (PySem.W.subIn K (.ref D) (.type "BaseException") == some true) = true then (if ((PySem.W.clsIn K D).isSome && PySem.W.typeIn K (.ref D) == some (.type "type")) = true then PySem.W.subIn K (.ref C) (.ref D) else none) else none) = some b
  rw [if_pos (by rw [bD]; rfl), if_pos (by rw [q, tD]; rfl), s]
theorem ExF.te (E : ExF K mg x C B ni ii bm) : PySem.W.exmOne K (.ref C) (.ref C) = some true := exm_of E.sC E.bC E.iC E.tC
theorem kit_exT (s : PySem.W.subIn K (.ref C) (.type T) = some b) (m : PySem.W.kitMeta T = true := by decide +kernel) : PySem.W.kitOne K (.ref C) (.type T) = some b := by
  have n : (Value.ref C == Value.type T) = false := by
    apply beq_eq_false_iff_ne.mpr
    intro z
    cases z
  show (if (Value.ref C == Value.type T) = true then some true else if PySem.W.kitMeta T = true then PySem.W.subIn K (.ref C) (.type T) else none) = some b
  rw [n, if_neg (by decide), if_pos m, s]
theorem kit_exC (s : PySem.W.subIn K (.ref C) (.ref D) = some b) (iD : PySem.W.isClsIn K D = true) (tD : PySem.W.typeIn K (.ref D) = some (.type "type")) (sD : PySem.W.subIn K (.ref D) (.ref D) = some true) : PySem.W.kitOne K (.ref C) (.ref D) = some b := by
  have q : (PySem.W.clsIn K D).isSome = true := iD
  show (if (Value.ref C == Value.ref D) = true then some true else if ((PySem.W.clsIn K D).isSome && PySem.W.typeIn K (.ref D) == some (.type "type")) = true then PySem.W.subIn K (.ref C) (.ref D) else none) = some b
  by_cases e : C = D
  · subst e
    rw [if_pos (by simp)]
    exact sD.symm.trans s
  · rw [if_neg (by simpa using e), if_pos (by rw [q, tD]; rfl), s]
theorem taker_none (h : PySem.W.findIn K (.ref C) f = some none) : PySem.W.takerIn K C f = some none := by
  unfold PySem.W.takerIn
  rw [h]
  rfl
end
/-- what such a class's heap is behind its __init__, once the exception is let go -/
theorem fresh_xd {H : Hp} {a d : Addr} {C : Addr} {fs gs : List (Str × V)} (ha : H a = none) (n : d ≠ a) :
    upd (del (upd (upd (upd (upd H a (exo a C none)) d (exd d gs)) a (exo a C (some d))) d (exd d fs)) a) d (.xd fs) = upd H d (.xd fs) := funext fun b => by
  by_cases h : b = d
  · subst h; rw [upd_same, upd_same]
  · rw [upd_ne h, upd_ne h]
    by_cases h2 : b = a
    · subst h2; rw [del_same, ha]
    · rw [del_ne h2, upd_ne h, upd_ne h2, upd_ne h, upd_ne h2]
end L2

namespace L2
open PySem PySem.Spec PyProof.Rows
/-! ### several except clauses, each with a name or none -/
abbrev Hd := Value × Option Nat × (Addr → Value → Option Addr → TS)
/-- the ends of a suite whose name, slot i, is taken away behind it -/
def outOf (i : Nat) (D : Ends) : Ends := { nx := fun τ G => D.nx (τ.set i none) G, rt := D.rt, bk := fun τ G => D.bk (τ.set i none) G, ct := fun τ G => D.ct (τ.set i none) G }
/-- what the clauses wish of an exception of the body -/
def wLs (K : PySem.W.Frag) (Wout : WX) (D : Ends) : List Hd → WX
  | [] => Wout
  | (c, none, ts) :: r => fun cls d σ H => ∃ b, PySem.W.exmOne K cls c = some b ∧ (b = true → ∀ e, H e = none → ts e cls d D σ H) ∧ (b = false → wLs K Wout D r cls d σ H)
  | (c, some i, ts) :: r => fun cls d σ H => ∃ b, PySem.W.exmOne K cls c = some b ∧ (b = true → ∀ e, H e = none → ts e cls d (outOf i D) (σ.set i (some (.ref e))) H) ∧ (b = false → wLs K Wout D r cls d σ H)
/-- the readings of the clauses -/
inductive HdLs (X : Cx) : List ExceptHandler → List Hd → Prop
  | nil : HdLs X [] []
  | bare {x : Str} {c : Value} {ts : Addr → Value → Option Addr → TS} {st : Stmt} {suite : List Stmt} {np q : Pos} {hds : List ExceptHandler} {l : List Hd} (hc : Names X x c)
      (hs : ∀ (e : Addr) (oe : Obj) (cls : Value) (d : Option Addr) (pn : List (Addr × Obj)), Zc cls d oe → (∃ vs, oe.data = .fields vs) → PSs (X.suite e ((e, oe) :: pn)) (st :: suite) (ts e cls d)) (r : HdLs X hds l) :
      HdLs X (.ExceptHandler (some (.Name x np)) none (st :: suite) q :: hds) ((c, none, ts) :: l)
  | named {x n : Str} {i : Nat} {c : Value} {ts : Addr → Value → Option Addr → TS} {st : Stmt} {suite : List Stmt} {np q : Pos} {hds : List ExceptHandler} {l : List Hd} (hi : X.N[i]? = some n) (hn : X.env.kindOf n = some .local) (hc : Names X x c)
      (hs : ∀ (e : Addr) (oe : Obj) (cls : Value) (d : Option Addr) (pn : List (Addr × Obj)), Zc cls d oe → (∃ vs, oe.data = .fields vs) → PSs (X.suite e ((e, oe) :: pn)) (st :: suite) (ts e cls d)) (r : HdLs X hds l) :
      HdLs X (.ExceptHandler (some (.Name x np)) (some n) (st :: suite) q :: hds) ((c, some i, ts) :: l)
section
variable {X : Cx} {body : List Stmt} {h1 : ExceptHandler} {hds : List ExceptHandler} {l : List Hd} {pos : Pos} {tb : WX → TS} {Wout : WX}
theorem ps_try_ls (nd : X.N.Nodup) (hst : X.stack = X.env :: X.outer) (hfr : X.env.frame = some X.env.locals) (tk : Takes X Wout)
    (hb : ∀ (W : WX) (pn : List (Addr × Obj)) (xe : Value → Shared → Prop), Takes (X.tr pn xe) W → PassesOwn (model X.prog X.w) X.A X.env xe → PSs (X.tr pn xe) body (tb W))
    (hh : HdLs X (h1 :: hds) l) : PS X (.Try body (h1 :: hds) [] [] pos) (fun D σ H => tb (wLs X.K Wout D l) D σ H) := by
  refine ⟨fun pins s σ H D I h => wpAny_Try_except ?_⟩
  have ok := I.ok
  have fA : X.A.frames = some (X.env :: X.outer) := ok.frames.trans (congrArg some hst)
  refine wpAny_mono ((hb (wLs X.K Wout D l) (X.pn ++ pins) (fun e s₁ => wpAny (model X.prog X.w) X.A (noteFrame e X.env) (fun _ s₂ => wpAny (model X.prog X.w) X.A (setFlight e none) (fun _ s₃ =>
    wpAny (model X.prog X.w) X.A (handleBy e X.env (h1 :: hds)) (SP X pins D) X.xe s₃) X.xe s₂) X.xe s₁) (fun u s' z => ?_) PassesOwn.looking).run [] s σ H D (I.toTry _) h) (fun fl s1 z => ?_) (fun _ _ z => z)
  · obtain ⟨x, M, s0, p0, τ, G, cls, d, rfl, J0, nb, up, sky0, nx, os, ag, w⟩ := z
    have J : Inv X pins τ G s0 := J0.ofTry ok
    have sky : Sky M (X.env :: X.outer) x (Zc cls d) X.env.locals s'.heap := hst ▸ sky0
    show wpAny (model X.prog X.w) X.A (noteFrame (.ref x) X.env) _ _ _
    refine Sky.land Zc.steady fA hfr sky fun h3 fl3 up3 => ?_
    have J3 : Inv X pins τ G { s' with heap := h3 } := J.landed nb fl3.1 (up.trans up3) os ag
    obtain ⟨oe3, vs3, ge3, hz3, dd3⟩ := fl3.there
    have nfr : x ∉ frs (X.env :: X.outer) := fun hm => by
      obtain ⟨_, o', e', ne⟩ := fl3.2.2.1.mem hm
      rw [ge3] at e'; cases e'
      exact ne _ dd3
    have nL : x ≠ X.env.locals := fun z => nfr (List.mem_filterMap.mpr ⟨X.env, .head _, by rw [hfr, z]⟩)
    have nF : x ∉ X.fs := fun hm => by
      obtain ⟨v, hv, q⟩ := List.mem_filterMap.mp hm
      exact nfr (List.mem_filterMap.mpr ⟨v, .tail _ hv, q⟩)
    have S3 := J3.suite ge3 dd3 nx nL nF
    have LT : PySem.W.Looks (model X.prog X.w) h3 (typeOf (.ref x)) cls := fun A Q E s k q => wpAny_typeOf_ref (k _ _ ge3) (by rw [hz3.1]; exact q)
    have go : ∀ {us : List ExceptHandler} {m : List Hd}, HdLs X us m → wLs X.K Wout D m cls d τ G → wpAny (model X.prog X.w) X.A (handleBy (.ref x) X.env us) (SP X pins D) X.xe { s' with heap := h3 } := by
      intro us m hk
      have look : ∀ {y : Str} {c : Value} {np : Pos} {Q : Value → Shared → Prop} {E : Value → Shared → Prop}, Names X y c → Q c { s' with heap := h3 } → wpAny (model X.prog X.w) (X.A.mark (some (.ref x))) (eval (.Name y np) X.env) Q E { s' with heap := h3 } := fun {y c np Q E} hc q => by
        obtain ⟨g1, g2, g3 | ⟨g3, g4, g5⟩⟩ := hc
        · exact ld_glob (X := X.suite x ((x, oe3) :: (X.pn ++ pins))) S3 g1 g3 q g2
        · exact ld_blt (X := X.suite x ((x, oe3) :: (X.pn ++ pins))) S3 g1 g3 g4 q g5 g2
      induction hk with
      | nil =>
        intro w
        refine wpAny_handleBy_nil ?_
        obtain ⟨k1, k2, k3, oe, vs, T, oT, ts', he, hz, hd, h1, hr⟩ := id fl3
        unfold PySem.passOn
        refine wpAny_bind (wpAny_field he hd h1 ?_)
        rw [if_neg (show ¬ ((Value.ref T == Value.none) = true) from by simp)]
        have off : wpAny (model X.prog X.w) X.A (setFlight (.ref x) X.env.frame) (fun _ s4 => wpAny (model X.prog X.w) X.A (throw (.ref x) : Sem Flow) (SP X pins D) X.xe s4) X.xe { s' with heap := h3 } := by
          rw [hfr]
          exact HandSPX.setFlight_upZ fl3 fun h4 hh4 up4 => wpAny_throw (tk _ _ ⟨x, M, s0, pins, τ, G, cls, d, rfl, J, nb, (up.trans up3).trans up4, .inr (.inr (by rw [hst]; exact hh4)), nx, os, ag, w⟩)
        first | exact wpAny_bind (wpAny_pure (wpAny_bind off)) | exact wpAny_bind off
      | @bare y c ts st suite np q us2 m2 hc hs r ih =>
        intro w
        obtain ⟨b, hm, hyes, hno⟩ := w
        refine wpAny_handleBy_cons (codeAny_handlers_test (look hc ((PySem.W.exm_one (M := model X.prog X.w) J3.kIn LT hm).here ?_))) (fun z => nomatch z)
        cases b with
        | false => exact ih (hno rfl)
        | true =>
          refine codeAny_handlers_suite (HandSPX.lands_againZ fl3 fun h4 fl4 up4 => ?_)
          obtain ⟨oe4, vs4, ge4, hz4, dd4⟩ := fl4.there
          have S4 := (J.landed nb fl4.1 ((up.trans up3).trans up4) os ag : Inv X pins τ G { s' with heap := h4 }).suite ge4 dd4 nx nL nF
          refine wpAny_mono ((hs x oe4 cls d (X.pn ++ pins) hz4 ⟨_, dd4⟩).run [] _ _ G _ S4 (hyes rfl x nx)) (fun f s6 z => ?_) (fun _ _ z => z.elim)
          cases f with
          | ret u => exact let ⟨v6, τ6, G6, S6, r6, q6⟩ := z; ⟨v6, τ6, G6, S6.unsuite ok, r6, q6⟩
          | _ => exact let ⟨τ6, G6, S6, q6⟩ := z; ⟨τ6, G6, S6.unsuite ok, q6⟩
      | @named y n i c ts st suite np q us2 m2 hi hn hc hs r ih =>
        intro w
        obtain ⟨b, hm, hyes, hno⟩ := w
        refine wpAny_handleBy_cons (codeAny_handlers_test (look hc ((PySem.W.exm_one (M := model X.prog X.w) J3.kIn LT hm).here ?_))) (fun z => nomatch z)
        cases b with
        | false => exact ih (hno rfl)
        | true =>
          refine codeAny_handlers_suite_as (HandSPX.lands_againZ fl3 fun h4 fl4 up4 => ?_)
          obtain ⟨oe4, vs4, ge4, hz4, dd4⟩ := fl4.there
          have S4 := (J.landed nb fl4.1 ((up.trans up3).trans up4) os ag : Inv X pins τ G { s' with heap := h4 }).suite ge4 dd4 nx nL nF
          refine store_ok (X := X.suite x ((x, oe4) :: (X.pn ++ pins))) (v := .ref x) S4 nd hi (.inl hn) rfl (fun s5 S5 => ?_) (.inr hn)
          refine wpAny_mono ((hs x oe4 cls d (X.pn ++ pins) hz4 ⟨_, dd4⟩).run [] s5 _ G _ S5 (hyes rfl x nx)) (fun f s6 z => ?_) (fun _ _ z => z.elim)
          have away : ∀ {τ6 : St} {G6 : Hp} {Q : Shared → Prop}, Inv (X.suite x ((x, oe4) :: (X.pn ++ pins))) [] τ6 G6 s6 → (∀ s7, Inv X pins (τ6.set i none) G6 s7 → Q s7) →
              wpAny (model X.prog X.w) X.A (do bindName X.env n .none; unbindBehindTheSuite X.env n q) (fun _ s7 => Q s7) X.xe s6 := fun {τ6 G6 Q} S6 hq => gone_ok (S6.unsuite ok) nd hi hn hq
          cases f with
          | ret u => exact let ⟨v6, τ6, G6, S6, r6, q6⟩ := z; away S6 fun s7 J7 => ⟨v6, _, _, J7, r6, q6⟩
          | _ => exact let ⟨τ6, G6, S6, q6⟩ := z; away S6 fun s7 J7 => ⟨_, _, J7, q6⟩
    exact go hh w
  · cases fl with
    | next => exact let ⟨τ, G, J, q⟩ := z; wpAny_execs_nil ⟨τ, G, J.ofTry ok, q⟩
    | ret u => exact let ⟨v, τ, G, J, r, q⟩ := z; ⟨v, τ, G, J.ofTry ok, r, q⟩
    | _ => exact let ⟨τ, G, J, q⟩ := z; ⟨τ, G, J.ofTry ok, q⟩
end
end L2

namespace L2
open PySem PySem.Spec PyProof.Rows
/-- a def with defaults that lets nothing out -/
theorem FunD.ok0 {P : Program} {w : World} {K : PySem.W.Frag} {mg : Str → Option Value} {base : Heap} {x qual : Str} {st : Stmt} {dvs : List V} {f : Addr} {fd : FuncData} {N ps : List Str} {k : Nat} {sp : Sp}
    (F : FunD K x qual (defArgs st) (defBody st) (defScope st) dvs [] f fd) (S : FnScope N ps (defScope st)) (len : ∀ vs H Q E, sp vs H Q E → vs.length = ps.length)
    (hbody : ∀ (cdv : Value) (A : Around) (outer : List Env) (s : Shared) (H : Hp) (vs : List V) (Q : VK) (E : XK), Room k (A.deeper (envOfC qual (defScope st) s.heap.objs.size f cdv)) → sp vs H Q E →
      ∃ t, PSs (cxOf CX0 P w K mg base N qual (defScope st) f cdv A outer s H E).nox (defBody st) t ∧ t { nx := fun _ H' => Q .non H', rt := Q } (start N vs) H) : FnOk P w K mg base CX0 (k + 1) f fd ps sp :=
  F.ok S len fun cdv A outer s H vs Q E hr hsp => by
    obtain ⟨t, h, q⟩ := hbody cdv A outer s H vs Q E hr hsp
    exact ⟨t, h.nox, q⟩
theorem funD_mk {K : PySem.W.Frag} {x qual : Str} {st : Stmt} {f T : Addr} {oc : Value} {od an : Option Addr} {osl : Array (Option Value)} {kV doc pm cdv ct : Value} {o : Obj} {its : List Value} {n : Nat} {dvs : List V}
    (l : K.lookup f = some ⟨oc, od, .func (PySem.W.fnOf x qual (defArgs st) (defBody st) (defScope st) (.ref T) kV doc pm an cdv ct), osl⟩)
    (c : PySem.W.codeIn K cdv qual = true) (k : PySem.W.keepIn K (.ref f) = true) (lT : K.lookup T = some o) (oT : o.data = .seq its.toArray n) (hv : Vals dvs its) (hd : dvs ≠ []) :
    FunD K x qual (defArgs st) (defBody st) (defScope st) dvs [] f (PySem.W.fnOf x qual (defArgs st) (defBody st) (defScope st) (.ref T) kV doc pm an cdv ct) :=
  ⟨⟨oc, od, .ref T, kV, doc, pm, an, cdv, ct, osl, rfl, l, c, .inr ⟨hd, T, o, its, n, rfl, lT, oT, hv⟩, .inl rfl⟩, k⟩
end L2

namespace Evl
open PySem L2
/-! ### what evaluates to what: texts -/
section
variable {K : PySem.W.Frag} {σ : L2.St} {H H' : Hp} {ta tb te tl : TE} {t : TT} {x y z v : V}
theorem ev_m0 {C : Str → Prop} {g : Str → V} {a : Str} (h : Ev te σ H (.str a)) (c : C a) : Ev (tM0 (fun x xs H Q => ∃ a, x = .str a ∧ xs = [] ∧ C a ∧ Q (g a) H) te) σ H (g a) := fun H1 e Q q =>
  h H1 e _ fun H2 e2 => ⟨⟨a, rfl⟩, a, rfl, rfl, c, q H2 e2⟩
theorem ev_m1 {g : Str → Str → V} {a b : Str} (h : Ev te σ H (.str a)) (h2 : Ev ta σ H (.str b)) : Ev (tM1 (fun x xs H Q => ∃ a b, x = .str a ∧ xs = [.str b] ∧ Q (g a b) H) te ta) σ H (g a b) := fun H1 e Q q =>
  h H1 e _ fun H2 e2 => ⟨⟨a, rfl⟩, h2 H2 (e.trans e2) _ fun H3 e3 => ⟨a, b, rfl, rfl, q H3 (e2.trans e3)⟩⟩
theorem ev_join {a : Str} {ys : List Str} (h : Ev te σ H (.str a)) (h2 : EvL tl σ H (ys.map V.str)) (hz : (ys.map (·.length)).sum + ys.length * a.length ≤ 16777216) :
    Ev (tM1 (rJoinK K) te tl) σ H (.str (Txt.join a ys)) := fun H1 e Q q =>
  h H1 e _ fun H2 e2 => ⟨⟨a, rfl⟩, h2 H2 (e.trans e2) _ fun p H3 _ e3 h3 => ⟨a, p, ys, rfl, rfl, .inl (sq_of h3), hz, q H3 (e2.trans e3)⟩⟩
theorem rv_addS {a b : Str} (h : a.length + b.length ≤ 100000) : RV (fun x y H Q => ∃ i j, x = .str i ∧ y = .str j ∧ i.length + j.length ≤ sizeLine ∧ Q (.str (i ++ j)) H) (.str a) (.str b) H (.str (a ++ b)) := fun H1 _ _ q => ⟨a, b, rfl, rfl, sz_of h, q H1 (Ex.refl H1)⟩
theorem rv_inS {c : Nat} {z : Str} : RV (fun x y H Q => ∃ (c : Nat) (z : Str), x = .str ⟨#[c]⟩ ∧ y = .str z ∧ Q (.bl (decide (c ∈ z.cps.toList))) H) (.str ⟨#[c]⟩) (.str z) H (.bl (decide (c ∈ z.cps.toList))) := fun H1 _ _ q => ⟨c, z, rfl, rfl, q H1 (Ex.refl H1)⟩
theorem rv_niS {c : Nat} {z : Str} : RV (fun x y H Q => ∃ (c : Nat) (z : Str), x = .str ⟨#[c]⟩ ∧ y = .str z ∧ Q (.bl (!decide (c ∈ z.cps.toList))) H) (.str ⟨#[c]⟩) (.str z) H (.bl (!decide (c ∈ z.cps.toList))) := fun H1 _ _ q => ⟨c, z, rfl, rfl, q H1 (Ex.refl H1)⟩
theorem rv_ltS {a b : Str} : RV (fun x y H Q => ∃ i j, x = .str i ∧ y = .str j ∧ Q (.bl (decide (i.cps.toList < j.cps.toList))) H) (.str a) (.str b) H (.bl (decide (a.cps.toList < b.cps.toList))) := fun H1 _ _ q => ⟨a, b, rfl, rfl, q H1 (Ex.refl H1)⟩
theorem ev_revS {a : Str} (h : Ev te σ H (.str a)) (hz : a.length ≤ 100000) : Ev (tRevS te) σ H (.str ⟨a.cps.toList.reverse.toArray⟩) := fun H1 e Q q => h H1 e _ fun H2 e2 => ⟨a, rfl, sz_of hz, q H2 e2⟩
theorem ev_slS {a : Str} {t1 t2 : TO} {lo hi : Option Int} (h : Ev te σ H (.str a)) (h1 : EvO t1 σ H lo) (h2 : EvO t2 σ H hi) (hz : a.length ≤ 100000) : Ev (tSl rSlS te t1 t2) σ H (.str (cutS a lo hi)) := fun H1 e Q q =>
  h H1 e _ fun H2 e2 => h1 H2 (e.trans e2) _ fun H3 e3 => h2 H3 ((e.trans e2).trans e3) _ fun H4 e4 => ⟨a, rfl, sz_of hz, q H4 ((e2.trans e3).trans e4)⟩
theorem ev_lenS {a : Str} (h : Ev te σ H (.str a)) (hz : a.length ≤ 100000) : Ev (tCB (fun xs H Q => ∃ z, xs = [.str z] ∧ z.length ≤ sizeLine ∧ Q (.int z.length) H) (tCons te tNil)) σ H (.int a.length) := fun H1 e Q q =>
  h H1 e _ fun H2 e2 => ⟨a, rfl, sz_of hz, q H2 e2⟩
theorem ev_intB {b : Bool} (h : Ev te σ H (.bl b)) : Ev (tCB (fun xs H Q => (∃ i, xs = [.int i] ∧ Q (.int i) H) ∨ ∃ k, xs = [.bl k] ∧ Q (.int (if k then 1 else 0)) H) (tCons te tNil)) σ H (.int (if b then 1 else 0)) := fun H1 e Q q =>
  h H1 e _ fun H2 e2 => .inr ⟨b, rfl, q H2 e2⟩
theorem ev_ixNew {xs : List V} {i : Int} (ha : EvL ta σ H xs) (hb : ∀ H1, Ex H H1 → Ev tb σ H1 (.int i)) (hi : atI xs i = some v) : Ev (tOp (rIxL K) ta tb) σ H v := ev_opL1 ha hb fun p H1 hp e => rv_ixL (sq_of hp) hi
theorem ev_isi {tc : TE} {c : V} {ty u : Value} {b : Bool} (h : Ev te σ H x) (h2 : Ev tc σ H c) (hc : ClsV c u) (hx : ∀ H1, Ex H H1 → TyX K H1 x ty) (hb : PySem.W.kitOne K ty u = some b) : Ev (tCB (rIsi K) (tCons te (tCons tc tNil))) σ H (.bl b) := fun H1 e Q q =>
  h H1 e _ fun H2 e2 => h2 H2 (e.trans e2) _ fun H3 e3 => ⟨x, c, ty, u, b, rfl, hc, hx H3 ((e.trans e2).trans e3), hb, q H3 (e2.trans e3)⟩
theorem ev_isiN {tc : TE} {c : V} {xs : List V} {ty u : Value} {b : Bool} (h : EvL te σ H xs) (h2 : ∀ H1, Ex H H1 → Ev tc σ H1 c) (hc : ClsV c u) (hx : ∀ p H1, H1 p = some (.lst xs) → TyX K H1 (.ref p) ty) (hb : PySem.W.kitOne K ty u = some b) : Ev (tCB (rIsi K) (tCons te (tCons tc tNil))) σ H (.bl b) := fun H1 e Q q =>
  h H1 e _ fun p H2 _ e2 hp => h2 H2 (e.trans e2) H2 (Ex.refl H2) _ fun H3 e3 => ⟨.ref p, c, ty, u, b, rfl, hc, hx p H3 (e3 _ _ hp), hb, q H3 (e2.trans e3)⟩
theorem ev_allN {bs : List Bool} (h : EvL te σ H (bs.map V.bl)) : Ev (tCB (rAll K) (tCons te tNil)) σ H (.bl (bs.all id)) := fun H1 e Q q =>
  h H1 e _ fun p H2 _ e2 hp => ⟨p, bs, rfl, sq_of hp, q H2 e2⟩
theorem ev_ifv {b : Bool} {v w : V} (h : EvT t σ H b) (h1 : b = true → Ev ta σ H v) (h2 : b = false → Ev tb σ H w) : Ev (tIf t ta tb) σ H (if b = true then v else w) := by
  refine ev_if h (fun e => ?_) (fun e => ?_)
  · rw [if_pos e]; exact h1 e
  · rw [if_neg (by rw [e]; decide)]; exact h2 e
theorem et_yes : EvT tYes σ H true := fun H1 _ _ q => q H1 (Ex.refl H1)
theorem given_all (n : Nat) (v : Nat → V) : given n (fun _ => true) v = (List.range n).map v := by
  unfold given
  congr 1
  exact List.filter_eq_self.mpr fun _ _ => rfl
theorem range_map {α : Type} (l : List α) (g : α → V) (d : α) : (List.range l.length).map (fun i => g (l.getD i d)) = l.map g := by
  apply List.ext_getElem
  · simp
  · intro i h1 h2
    simp at h1
    simp [List.getD, h1]
/-- [e for sign in text] -/
theorem el_lcS {s : Str} {j : Nat} {vs : List Nat} (f : Nat → Bool) (v : Nat → V) (h : Ev tl σ H (.str s)) (hz : s.length ≤ 40000) (hw : ∀ x, wipe ((wipe σ vs).set j (some x)) vs = wipe σ vs)
    (ht : ∀ (i c : Nat) H1, Ex H H1 → s.cps.toList[i]? = some c → EvT t ((wipe σ vs).set j (some (.str ⟨#[c]⟩))) H1 (f i))
    (he : ∀ (i c : Nat) H1, Ex H H1 → s.cps.toList[i]? = some c → f i = true → Ev te ((wipe σ vs).set j (some (.str ⟨#[c]⟩))) H1 (v i)) :
    EvL (tLc (iStr tl) (gName j) t te vs) σ H (given s.length f v) := fun H0 e Q q => h H0 e _ fun H1 e1 => ⟨s, rfl, fun Dl hD =>
  lc_it walk_str (Cw H1 f v Dl) ⟨hD, Ex.new hD, upd_same⟩ (fun _ _ _ _ => trivial) (fun i x H2 H' hi p hy => by
    obtain ⟨rfl, c, hc, rfl⟩ := hy
    have hc' : s.cps.toList[i]? = some c := by rw [Array.getElem?_toList]; exact hc
    exact ⟨hw _, cw_turn p (by have : s.length = s.cps.size := rfl; omega) (ht i c H1 (e.trans e1) hc') (fun hf => he i c H1 (e.trans e1) hc' hf)⟩)
    (fun H' p => q Dl H' (fresh_back e1 p.1) (e1.trans p.2.1) p.2.2)⟩
theorem el_mapS {s : Str} {j : Nat} {vs : List Nat} (g : Nat → V) (h : Ev tl σ H (.str s)) (hz : s.length ≤ 40000) (hw : ∀ x, wipe ((wipe σ vs).set j (some x)) vs = wipe σ vs)
    (he : ∀ (c : Nat) H1, Ex H H1 → c ∈ s.cps.toList → Ev te ((wipe σ vs).set j (some (.str ⟨#[c]⟩))) H1 (g c)) :
    EvL (tLc (iStr tl) (gName j) tYes te vs) σ H (s.cps.toList.map g) := by
  have := el_lcS (te := te) (t := tYes) (fun _ => true) (fun i => g (s.cps.toList.getD i 0)) h hz hw (fun _ _ _ _ _ => et_yes) (fun i c H1 e hc _ => by
    have : s.cps.toList.getD i 0 = c := by rw [List.getD_eq_getElem?_getD, hc]; rfl
    rw [this]
    exact he c H1 e (List.mem_of_getElem? hc))
  rw [given_all] at this
  have e2 : s.length = s.cps.toList.length := rfl
  rw [e2, range_map] at this
  exact this
end
end Evl

namespace L2
open PySem PySem.Spec PyProof.Rows
/-! ### enumerate of a text -/
def Ites (x : Str) : It :=
  ⟨fun i _ => i < x.cps.size,
    fun i H v H' => ∃ T c, v = .ref T ∧ H T = none ∧ H' = upd H T (.tup [.int (i : Nat), .str ⟨#[c]⟩]) ∧ x.cps[i]? = some c,
    fun i _ => i = x.cps.size⟩
theorem turn_enumS {P : Program} {w : World} {K : PySem.W.Frag} {elts : List Expr} {kk : Nat} {tpos : Pos} {e it : Addr} (x : Str) (t : Tok) :
    Turn P w K (.Tuple elts kk tpos) (Ites x) [e, it] e (fun i h => (∃ old, IsEnum h e it (i : Int) old) ∧ h.IsStrIter it (strIterType x) x t i ∧ e ≠ it) where
  mem := by simp
  obj := fun i h st c hc => by
    obtain ⟨⟨old, he⟩, ⟨o2, e2, _, d2⟩, _⟩ := st
    have e' : c = e ∨ c = it := by simpa using hc
    rcases e' with q | q
    · rw [q]; exact ⟨_, he, fun v q => nomatch q⟩
    · rw [q]; exact ⟨o2, e2, fun v q => by rw [d2] at q; cases q⟩
  keep := fun i h h' st k => by
    obtain ⟨⟨old, he⟩, ⟨o2, e2, r2⟩, ne⟩ := st
    exact ⟨⟨old, k e (by simp) _ he⟩, ⟨o2, k it (by simp) _ e2, r2⟩, ne⟩
  item := by
    intro X hP hw hK hc i pins s σ H E I hf st hg
    subst hP hw hK
    obtain ⟨⟨old, he⟩, hit, ne⟩ := st
    have hh : X.A.in1.handled = none := I.ok.hd hc
    have hel : e < s.heap.objs.size := Heap.lt_size he
    have hil : it < s.heap.objs.size := by obtain ⟨_, y, _⟩ := hit; exact Heap.lt_size y
    refine wpAny_pyNext_enum_itemC (Draws.text hh it x t) he hit hg ne (by simpa using ne) fun v h' tk hv ho hs' hT hsz hk => ?_
    obtain ⟨c, u, hcx, rfl⟩ := hv
    refine ⟨_, rfl, wpAny_letOwnedTupleGo_enum (s := { s with heap := h', toks := tk + 1 }) ho fun h'' he' sb => ?_⟩
    have hT2 : h''.get? s.heap.objs.size = some { cls := .type "tuple", data := .seq #[Value.int (i : Int) tk, Value.str ⟨#[c]⟩ u] } := (sb.2 _ (Nat.ne_of_gt hel)).trans hT
    have new : ObjOk X.prog X.w (upd H s.heap.objs.size (.tup [.int (i : Nat), .str ⟨#[c]⟩])) h'' s.heap.objs.size (.tup [.int (i : Nat), .str ⟨#[c]⟩]) :=
      ⟨by show 2 ≤ sizeLine; decide, [Value.int (i : Int) tk, Value.str ⟨#[c]⟩ u], .cons ⟨tk, rfl⟩ (.cons ⟨u, rfl⟩ .nil), ⟨_, hT2, rfl, _, rfl⟩⟩
    have I1 : Inv X pins σ (upd H s.heap.objs.size (.tup [.int (i : Nat), .str ⟨#[c]⟩])) { s with heap := h'', toks := tk + 1 } :=
      I.turnedNew (t' := tk + 1) (ch := [e, it]) (fun b o hb q => (sb.2 b (fun q' => hb (by simp [q']))).trans (hk b o (fun q' => hb (by simp [q'])) (fun q' => hb (by simp [q'])) q)) hf (Nat.le_refl _) new
    have st2 : h''.IsStrIter it (strIterType x) x t (i + 1) := by
      obtain ⟨o, q, r⟩ := hs'
      exact ⟨o, (sb.2 _ (fun z => ne z.symm)).trans q, r⟩
    have he2 : ∃ old, IsEnum h'' e it (((i + 1 : Nat)) : Int) old := by
      have e1 : ((i + 1 : Nat) : Int) = (i : Int) + 1 := by omega
      rw [e1]
      exact ⟨_, he'⟩
    refine ⟨.ref s.heap.objs.size, _, I1, rfl, ⟨_, c, rfl, I.hok.fresh (Nat.le_refl _), rfl, hcx⟩, ⟨he2, st2, ne⟩, fun b hbm => ?_⟩
    have hlt : b < s.heap.objs.size := by
      have e' : b = e ∨ b = it := by simpa using hbm
      rcases e' with q | q
      · rw [q]; exact hel
      · rw [q]; exact hil
    rw [upd_ne (Nat.ne_of_lt hlt)]
    exact (hf b hbm).1
  done := by
    intro X hP hw hK hc i pins s σ H E I hf st hg
    subst hP hw hK
    obtain ⟨⟨old, he⟩, hit, ne⟩ := st
    have hh : X.A.in1.handled = none := I.ok.hd hc
    have hi : i = x.cps.size := hg
    subst hi
    exact wpAny_pyNext_enum_endD (Draws.text hh it x t) he hit fun h' hk => ⟨rfl, I.turnedL (t' := s.toks) (ch := [e, it]) (fun c o hb q => hk c o (fun q' => hb (by simp [q'])) q) hf⟩
  self := fun A i s Q E st h => by
    obtain ⟨⟨old, he⟩, _⟩ := st
    exact wpAny_pyIter_enum he h
def iEnumS (ta : TA) : TI := fun σ H R => ta σ H fun vs H1 => ∃ x, vs = [.str x] ∧ R (Ites x) H1
theorem pi_enumS {X : Cx} {e : Expr} {ta : TA} {p pos tpos : Pos} {elts : List Expr} {kk : Nat} (hg : Gl X "enumerate") (hm : X.mg "enumerate" = none) (ha : PA X [e] ta) (hs : starEach [e] X.env = [(false, eval e X.env)] := by rfl) :
    PI X (.Tuple elts kk tpos) (.Call (.Name "enumerate" p) [e] [] pos) (iEnumS ta) := by
  refine ⟨fun pins s σ H R I h => ?_⟩
  refine Call_ (ld_blt I hg hm boot_enumerate (PyProof.Rows.callWith_type1 (thn (ha.run pos pins s σ H _ I h) fun us s1 ⟨vs, H1, I1, r1, q1⟩ => ?_) hs rfl))
  obtain ⟨x, ex, q⟩ := q1
  subst ex
  cases r1 with
  | cons r rr =>
    cases rr
    obtain ⟨t, rfl⟩ := r
    refine call_enumerate_str fun h' he hit hsz hk => wpAny_pyIter_enum he ?_
    have I2 : Inv X pins σ H1 { s1 with heap := h' } := I1.kept (t' := s1.toks) hk
    refine ⟨s1.heap.objs.size + 1, [s1.heap.objs.size + 1, s1.heap.objs.size], _, _, H1, rfl, I2, turn_enumS x t, ⟨⟨.none, he⟩, hit, Nat.succ_ne_self _⟩, fun b hb => ?_, q⟩
    have hle : s1.heap.objs.size ≤ b := by
      have e' : b = s1.heap.objs.size + 1 ∨ b = s1.heap.objs.size := by simpa using hb
      rcases e' with z | z <;> rw [z] <;> omega
    exact I1.fpOk hle (I1.hok.fresh hle)
theorem walk_enumS {x : Str} : Walk (Ites x) x.cps.size (fun _ => True) (fun i H v H' => ∃ T c, v = .ref T ∧ H T = none ∧ H' = upd H T (.tup [.int (i : Nat), .str ⟨#[c]⟩]) ∧ x.cps[i]? = some c) :=
  ⟨fun _ _ hi _ => hi, fun _ _ => rfl, fun _ _ _ _ _ _ y => y⟩
end L2

namespace L2
open PySem PySem.Spec PyProof.Rows
/-! ### e.f, over a fixed written part; != of lists whose items are the same; repr of any data -/
section
variable {X : Cx} {K : PySem.W.Frag}
theorem pe_fldK {e : Expr} {f : Str} {pos : Pos} {ta : TE} (he : PE X e ta) (hb : attributeBase e f X.env (eval e X.env) = eval e X.env) (hK : X.K = K := by rfl) : PE X (.Attribute e f pos) (tFld K ta f) := hK ▸ pe_fld he hb
/-- xs != ys, item by item the same -/
def SelfV : V → Bool
  | .ref _ => true
  | v => flatB v
def rNeS (K : PySem.W.Frag) : R2 := fun x y H Q => ∃ a b xs, x = .ref a ∧ y = .ref b ∧ SqL K H a xs ∧ SqL K H b xs ∧ xs.all SelfV = true ∧ Q (.bl false) H
theorem self_eq {A : Around} {s : Shared} {x : V} {v u : Value} (h : SelfV x = true) (rx : RelV x v) (ry : RelV x u) : SeqAt.EqAt A s v u true := by
  cases x with
  | ref a =>
    cases (show v = Value.ref a from rx)
    cases (show u = Value.ref a from ry)
    exact SeqAt.EqAt.same _
  | _ => exact eqAt_same rx ry h
theorem op_neS (hu64 : X.A.units + 64 < cLine) (hK : X.K = K := by rfl) : OpR X (compareOp .NotEq) (rNeS K) := by
  have hu : X.A.units < cLine := by omega
  subst hK
  intro pins s σ H x y v u Q I rx ry h
  obtain ⟨a, b, xs, rfl, rfl, ha, hb, hs, q⟩ := h
  cases (show v = Value.ref a from rx)
  cases (show u = Value.ref b from ry)
  obtain ⟨us, r1, p1, _⟩ := I.list ha
  obtain ⟨ws, r2, p2, _⟩ := I.list hb
  have hsz : us.toArray.size = ws.toArray.size := by rw [List.size_toArray, List.size_toArray, ← r1.length, ← r2.length]
  have key := SeqAt.RcNeAt.lists (A := X.A) (e := fun _ => true) p1.isList p2.isList hsz hu fun j h1 h2 => ?_
  · refine key _ _ _ _ ?_
    rw [show ((List.range us.toArray.size).all fun _ => true) = true from List.all_eq_true.mpr fun _ _ => rfl]
    exact ⟨.bl false, H, I, rfl, q⟩
  · have hj : j < xs.length := by
      have := r1.length
      simp only [List.size_toArray] at h1
      omega
    obtain ⟨u1, e1, x1⟩ := r1.get (i := j) (x := xs[j]) (List.getElem?_eq_getElem hj)
    obtain ⟨u2, e2, x2⟩ := r2.get (i := j) (x := xs[j]) (List.getElem?_eq_getElem hj)
    have f1 : us.toArray[j] = u1 := by
      have := (List.getElem?_eq_some_iff.mp e1).2
      simpa using this
    have f2 : ws.toArray[j] = u2 := by
      have := (List.getElem?_eq_some_iff.mp e2).2
      simpa using this
    rw [f1, f2]
    exact self_eq (List.all_eq_true.mp hs _ (List.getElem_mem hj)) x1 x2
end
end L2

namespace L2
open PySem PySem.Spec PyProof.Rows
/-! ### own exceptions as values: made, asked for their kind, their fields read -/
/-- v is an exception of the class at C, with these fields -/
def ExV (H : Hp) (v : V) (C : Addr) (fs : List (Str × V)) : Prop :=
  ∃ a, v = .ref a ∧ ((H a = some (ExO (.ref C) a) ∧ fs = []) ∨ ∃ d, H a = some (exo a C (some d)) ∧ H d = some (exd d fs))
theorem ExV.same {H H' : Hp} {v : V} {C : Addr} {fs : List (Str × V)} (h : ExV H v C fs) (s : ∀ b o, H b = some o → H' b = some o) : ExV H' v C fs := by
  obtain ⟨a, e, ⟨h, z⟩ | ⟨d, h, g⟩⟩ := h
  · exact ⟨a, e, .inl ⟨s _ _ h, z⟩⟩
  · exact ⟨a, e, .inr ⟨d, s _ _ h, s _ _ g⟩⟩
theorem exO_at {P : Program} {w : World} {H : Hp} {h : Heap} {a : Addr} {cls : Value} (hok : HOk P w H h) (he : H a = some (ExO cls a)) : ∃ (oe : Obj) (vs : Array Value), h.get? a = some oe ∧ Zc cls none oe ∧ oe.data = .fields vs := by
  obtain ⟨oe, vs, x1, x2, x3, _⟩ := (show ObjOk P w H h a (ExO cls a) from hok a _ he).1
  exact ⟨oe, vs, x1, x2, x3⟩
section
variable {X : Cx} {pins : List (Addr × Obj)} {σ : St} {H : Hp} {s : Shared}
theorem ExV.inst {v : V} {u : Value} {C : Addr} {fs : List (Str × V)} (I : Inv X pins σ H s) (h : ExV H v C fs) (r : RelV v u) : ∃ (a : Addr) (oe : Obj) (od : Option Obj), v = .ref a ∧ u = .ref a ∧ PySem.W.InstAt s.heap a oe C od := by
  obtain ⟨a, rfl, ⟨h, _⟩ | ⟨d, h, g⟩⟩ := h
  · cases (show u = Value.ref a from r)
    obtain ⟨oe, vs, x1, x2, x3⟩ := exO_at I.hok h
    obtain ⟨oc, odd, oda, osl⟩ := oe
    obtain ⟨h1, h2⟩ := x2
    dsimp only at h1 h2 x3
    subst h1 h2 x3
    exact ⟨a, _, none, rfl, rfl, x1, rfl, rfl, trivial⟩
  · cases (show u = Value.ref a from r)
    obtain ⟨t1, ho⟩ := exo_at I.hok h
    obtain ⟨mA, ⟨od, es, ep, e2, _⟩, _⟩ := exd_at I.hok g
    exact ⟨a, _, some od, rfl, rfl, ho, rfl, rfl, e2⟩
/-- isinstance(e, c), e held as a value -/
def rIsV (K : PySem.W.Frag) : List V → Hp → VK → Prop := fun xs H Q => ∃ (v c : V) (D : Addr) (fs : List (Str × V)) (cv : Value) (b : Bool), xs = [v, c] ∧ ExV H v D fs ∧ ExcC K D ∧ ClsV c cv ∧ PySem.W.kitOne K (.ref D) cv = some b ∧ Q (.bl b) H
end
section
variable {X : Cx}
theorem call_isV {K : PySem.W.Frag} (hK : X.K = K := by rfl) : CallR X (.builtin "isinstance") (rIsV K) := by
  subst hK
  intro pins s σ H xs us Q I r h
  obtain ⟨v, c, D, fs, cv, b, rfl, hv, hD, hcv, e, q⟩ := h
  obtain ⟨u1, u2, rfl, rx, rt⟩ := vals2 r
  have ec := hcv.eq rt
  subst ec
  obtain ⟨a, oe, od, rfl, rfl, J⟩ := hv.inst I rx
  exact PySem.W.kia_one (hD.kit) I.kIn J e (fun z => nomatch z) fun tk => ⟨.bl b, H, I.kept (t' := tk) fun _ _ z => z, rfl, q⟩
/-- e.f, e held as a value -/
def tXfV (K : PySem.W.Frag) (f : Str) (te : TE) : TE := fun σ H Q => te σ H fun x H1 => ∃ (C : Addr) (fs : List (Str × V)) (v : V), ExV H1 x C fs ∧ XfC K C ∧ PySem.W.findIn K (.ref C) f = some none ∧ fs.lookup f = some v ∧ Q v H1
theorem pe_xfV {K : PySem.W.Frag} {e : Expr} {te : TE} {pos : Pos} {n : Str} (he : PE X e te) (hK : X.K = K := by rfl) (hb : attributeBase e n X.env (eval e X.env) = eval e X.env := by rfl) : PE X (.Attribute e n pos) (tXfV K n te) := by
  subst hK
  refine ⟨fun pins s σ H Q I h => ?_⟩
  refine attr_of hb (thn (he.run pins s σ H _ I h) fun u s1 hh => ?_)
  obtain ⟨x, H1, I1, rx, C, fs, v, ⟨a, rfl, hx⟩, T, hno, l, q⟩ := hh
  obtain rfl : u = Value.ref a := rx
  rcases hx with ⟨_, rfl⟩ | ⟨d, h, g⟩
  · cases l
  obtain ⟨t1, ho⟩ := exo_at I1.hok h
  obtain ⟨mA, hns, hr⟩ := exd_at I1.hok g
  obtain ⟨od, hod, hl⟩ := lookIn_ns hns
  obtain ⟨u, hu, ru⟩ := RelO.some_of (v := v) (o := mA n) (by rw [← l]; exact hr n)
  have J : PySem.W.InstAt s1.heap a _ C (some od) := ⟨ho, rfl, rfl, hod⟩
  exact HandSPX.exc_get I1.kIn J T.ga T.gg T.exC (PySem.W.findObj_own T.hdC hno rfl (by rw [hl, hu])) (handed_of ru) ⟨v, H1, I1.tok _, ru, q⟩
/-- C(e, ..) as a value, C's own __init__ keeping sp -/
def tXv (C : Addr) (sp : Sp) (dvs : List V) (ta : TA) : TE := fun σ H Q => ta σ H fun vs H1 => vs.length ≤ 1000 ∧ ∀ a, H1 a = none → sp (.ref a :: (vs ++ dvs)) (upd H1 a (exo a C none)) (fun v H2 => v = .non ∧ Q (.ref a) H2) (fun _ _ _ => False)
theorem pe_xv {CX : CXT} {B ni ii : String} {bm : List Value} {x : Str} {C fI : Addr} {k : Nat} {fd : FuncData} {ps : List Str} {sp : Sp} {ds : List Value} {dvs : List V} {e : Expr} {es : List Expr} {ta : TA} {p pos : Pos} (T : XiC X.K C B ni ii bm) (iC : PySem.W.findIn X.K (.ref C) "__init__" = some (some (.ref fI))) (tI : PySem.W.typeIn X.K (.ref fI) = some (.type "function"))
    (F1 : FnOk X.prog X.w X.K X.mg X.base CX k fI fd ps sp) (hr : Room (k + 1) X.A) (hb : Binds X.K fd ps ds) (hd : Vals dvs ds) (hx : Passes CX X (fun _ _ _ => False)) (hg : Gl X x) (hm : X.mg x = some (.ref C)) (ha : PA X (e :: es) ta)
    (hdb : (x == ("__debug__" : Str)) = false := by decide) (he : starEach (e :: es) X.env = (false, eval e X.env) :: starEach es X.env := by rfl) (hpl : (backTo pos (starEach es X.env)).any (·.1) = false := by rfl) :
    PE X (.Call (.Name x p) (e :: es) [] pos) (tXv C sp dvs ta) := by
  refine ⟨fun pins s σ H Q I h => ?_⟩
  refine wpAny_Call_Name_kw (ld_glob I hg hm ?_ hdb)
  refine PySem.W.callWith_K (h₀ := X.base) I.ok.mod.kin T.kC (thn (ha.run pos pins s σ H _ I h) fun us s1 z => ?_) he hpl
  obtain ⟨vs, H1, J, r, hz, q⟩ := z
  refine ⟨J.kIn, ?_⟩
  show wpAny _ _ (call (.ref C) us) _ _ _
  obtain ⟨nm, N, qn, bs, bm', hdct, sn, sub, ab, col, dd, k0, k1, k2, k3, k5, hC, hT⟩ := PySem.W.excInit_of J.kIn T.made
  obtain ⟨hp, g, dr, tk, os⟩ := s1
  have n1 : hp.objs.size ≤ hp.objs.size + 1 := Nat.le_succ _
  have Z := q (hp.objs.size + 1) (J.hok.fresh n1)
  have kp : ∀ b o, hp.get? b = some o → ((hp.push (PySem.W.kdv_tup us)).push (PySem.HandSPX.excO C hp.objs.size)).get? b = some o := fun _ _ z => Heap.get?_push_of_some _ (Heap.get?_push_of_some _ z)
  have gt : ((hp.push (PySem.W.kdv_tup us)).push (PySem.HandSPX.excO C hp.objs.size)).get? (hp.objs.size + 1) = some (PySem.HandSPX.excO C hp.objs.size) := by heap_get
  have J2 := J.laid (t' := tk) (a := hp.objs.size + 1) (o := exo (hp.objs.size + 1) C none) (h' := (hp.push (PySem.W.kdv_tup us)).push (PySem.HandSPX.excO C hp.objs.size)) kp n1 (exo_ok gt)
  have r2 : Vals (V.ref (hp.objs.size + 1) :: (vs ++ dvs)) (Value.ref (hp.objs.size + 1) :: (us ++ ds)) := .cons rfl (r.append hd)
  have zl : (Value.ref (hp.objs.size + 1) :: us ++ ds).length = ps.length := (r2.length.symm.trans (F1.len _ _ _ _ Z)).symm ▸ rfl
  refine wpAny_call (PySem.XB0.xb_call T.fb hT hC (PySem.W.looks_findIn J.kIn iC) (fun self => PySem.W.bind_fn J.kIn self tI) (by rw [← Paired.length r, sizeLine_eq]; omega)
    (codeAny_mono (F1.run _ X.stack _ _ ⟨Value.ref (hp.objs.size + 1) :: us, []⟩ (Value.ref (hp.objs.size + 1) :: (us ++ ds)) _ _ (fun _ _ _ => False) (hr.make C us []) (J2.env0.make C us []) (hb _ (Value.ref (hp.objs.size + 1) :: us) J2.kIn zl) r2 Z) fun rs s' z => ?_))
  cases rs with
  | error er => exact hx pins σ _ _ er s' J2 z
  | ok fl =>
    cases fl with
    | ret u =>
      obtain ⟨v, H2, I2, rv, ev, q2⟩ := J2.after z
      subst ev
      exact ⟨rv, .ref (hp.objs.size + 1), H2, I2, rfl, q2⟩
    | _ => exact False.elim z
end
end L2

namespace Toy
open PySem L2

open RowM (sgns con ix Row)
open TL
/-- the reading, as far as it goes by itself -/
local macro_rules | `(tactic| walk_at "rd") => `(tactic| repeat (first
  | refine ⟨_, rfl, ?_⟩
  | refine ⟨_, _, rfl, rfl, ?_⟩
  | refine ⟨rfl, ?_⟩
  | refine ⟨(by show (0 : Int) < _; omega), ?_⟩
  | refine ⟨⟨by omega, by omega⟩, ?_⟩
  | refine ⟨(by decide), ?_⟩
  | refine ⟨(by omega), ?_⟩))
/-- the text of a list of signs' numbers -/
abbrev S (l : List Nat) : Str := ⟨l.toArray⟩
/-- all but the object at p is as it was -/
def Off (p : Addr) (H H' : Hp) : Prop := ∀ b o, b ≠ p → H b = some o → H' b = some o
theorem Off.refl (p : Addr) (H : Hp) : Off p H H := fun _ _ _ h => h
theorem Off.trans {p : Addr} {H H1 H2 : Hp} (a : Off p H H1) (b : Off p H1 H2) : Off p H H2 := fun c o n h => b c o n (a c o n h)
theorem off_of {p : Addr} {H H' : Hp} (a : Same H H') : Off p H H' := fun c o _ h => a c o h
theorem Off.upd {p : Addr} {H H' : Hp} {o : HO} (a : Off p H H') : Off p H (upd H' p o) := fun c u n h => by
  rw [upd_ne n]
  exact a c u n h
/-- the law's own pool of draws -/
def Pool (H : Hp) (p : Addr) : Prop := ∃ c n : Int, H p = some (.lst [.int c, .int n]) ∧ 0 ≤ n ∧ n < 2147483647
theorem Pool.same {H H' : Hp} {p : Addr} (h : Pool H p) (s : Same H H') : Pool H' p := by
  obtain ⟨c, n, e, r⟩ := h
  exact ⟨c, n, s _ _ e, r⟩
theorem Same.new {H : Hp} {p : Addr} {o : HO} (h : H p = none) : Same H (upd H p o) := fun b u e => by
  rw [upd_ne (ne_of_none e h)]
  exact e
theorem atI0 {α : Type} {a : α} {l : List α} : atI (a :: l) 0 = some a := atI_nat (xs := a :: l) (j := 0) rfl
theorem atI1 {α : Type} {a b : α} {l : List α} : atI (a :: b :: l) 1 = some b := atI_nat (xs := a :: b :: l) (j := 1) rfl
theorem one_le {c : Nat} : (⟨#[c]⟩ : Str).length ≤ 5592405 := by show 1 ≤ _; decide
/-! ### signs -/
open RowM (lo up)
theorem low1 : ∀ c ∈ sgns, Txt.lower (S [c]) = S [lo c] := by decide +kernel
theorem up1 : ∀ c ∈ sgns, Txt.upper (S [c]) = S [up c] := by decide +kernel
theorem isup1 : ∀ c ∈ sgns, Txt.isupper (S [c]) = decide (c < 97) := by decide +kernel
theorem islo1 : ∀ c ∈ sgns, Txt.islower (S [c]) = decide (97 ≤ c) := by decide +kernel
theorem six1 : ∀ c ∈ sgns, ∃ r, Builtin.Str.occurrences "aAbBcCdDeEfF" (S [c]) 0 12 1 = ix c :: r := by
  intro c hc
  have h : ∀ c ∈ sgns, (Builtin.Str.occurrences "aAbBcCdDeEfF" (S [c]) 0 12 1).head? = some (ix c) := by decide +kernel
  have := h c hc
  cases e : Builtin.Str.occurrences "aAbBcCdDeEfF" (S [c]) 0 12 1 with
  | nil => rw [e] at this; cases this
  | cons a r => rw [e] at this; cases this; exact ⟨r, rfl⟩
theorem sgns_at : ∀ i : Nat, i < 12 → ∃ c, (Str.ofString "aAbBcCdDeEfF").cps.toList[i]? = some c ∧ c ∈ sgns ∧ ix c = i := by
  have h : ∀ i ∈ List.range 12, (Str.ofString "aAbBcCdDeEfF").cps.toList[i]? = sgns[i]? ∧ (sgns[i]?).isSome = true ∧ ix (sgns.getD i 0) = i := by decide +kernel
  intro i hi
  obtain ⟨h1, h2, h3⟩ := h i (List.mem_range.mpr hi)
  have h4 : i < sgns.length := hi
  refine ⟨sgns[i], by rw [h1, List.getElem?_eq_getElem h4], List.getElem_mem _, ?_⟩
  rw [List.getD_eq_getElem?_getD, List.getElem?_eq_getElem h4] at h3
  exact h3
theorem sgns_mem : ∀ c : Nat, (c ∈ (Str.ofString "aAbBcCdDeEfF").cps.toList) = (c ∈ sgns) := by
  have h : (Str.ofString "aAbBcCdDeEfF").cps.toList = sgns := by decide +kernel
  intro c
  rw [h]
theorem sign_of_at {i : Int} {z : Str} (h0 : 0 ≤ i) (h1 : i < 12) (hz : z = Str.ofString "aAbBcCdDeEfF") : ∃ c, atI z.cps.toList i = some c ∧ c ∈ sgns ∧ (ix c : Int) = i := by
  subst hz
  obtain ⟨c, e, hc, hi⟩ := sgns_at i.toNat (by omega)
  refine ⟨c, ?_, hc, by omega⟩
  have : i = (i.toNat : Int) := by omega
  rw [this]
  exact atI_nat e
theorem el_is {te : TE} {σ : L2.St} {H : Hp} {xs ys : List V} (h : Evl.EvL te σ H xs) (e : xs = ys) : Evl.EvL te σ H ys := e ▸ h
theorem len_S (l : List Nat) : (S l).length = l.length := by simp [S, Str.length]
theorem add_S (l m : List Nat) : S l ++ S m = S (l ++ m) := ext_tl (by rw [tl_append])
theorem joinL_nil : ∀ ps : List (List Nat), joinL [] ps = ps.flatten
  | [] => rfl
  | [p] => by simp [joinL]
  | p :: q :: r => by rw [joinL, joinL_nil (q :: r)]; simp
theorem join_S (a : Str) (ha : tl a = []) (l : List Nat) : Txt.join a (l.map fun c => S [c]) = S l := by
  refine ext_tl ?_
  rw [join_eq, tl_join, ha, joinL_nil]
  show _ = l
  induction l with
  | nil => rfl
  | cons c l ih => simp [tl] at ih ⊢; exact ih
theorem sum_ones (l : List Nat) : ((l.map fun c => S [c]).map (·.length)).sum = l.length := by
  induction l with
  | nil => rfl
  | cons c l ih => simp only [List.map_cons, List.sum_cons, List.length_cons, ih, len_S]; simp; omega
section
open Evl
variable {K : PySem.W.Frag} {σ : L2.St} {H : Hp} {te tl' to : TE} {j : Nat} {vs : List Nat}
/-- "".join([e for sign in text]), each e a sign -/
theorem ev_joinMap {a s : Str} (g : Nat → Nat) (ho : Ev to σ H (.str a)) (ha : tl a = []) (h : Ev tl' σ H (.str s)) (hz : s.length ≤ 40000) (hw : ∀ x, wipe ((wipe σ vs).set j (some x)) vs = wipe σ vs)
    (he : ∀ (c : Nat) H1, Ex H H1 → c ∈ s.cps.toList → Ev te ((wipe σ vs).set j (some (.str ⟨#[c]⟩))) H1 (.str (S [g c]))) :
    Ev (tM1 (rJoinK K) to (tLc (iStr tl') (gName j) tYes te vs)) σ H
      (.str (S (s.cps.toList.map g))) := by
  have e1 : s.cps.toList.map (fun c => V.str (S [g c])) = ((s.cps.toList.map g).map fun c => S [c]).map V.str := by simp [List.map_map, Function.comp]
  have e2 : a.length = 0 := by rw [len_tl, ha]; rfl
  have z : s.cps.toList.length = s.length := rfl
  refine ev_is (ev_join ho (el_is (el_mapS (fun c => .str (S [g c])) h hz hw he) e1) ?_) (by rw [join_S a ha])
  rw [sum_ones, e2, List.length_map, z]
  omega
end
/-- [sign.upper(), sign.lower()][int(sign.isupper())] -/
theorem at_turn {c : Nat} (hc : c ∈ sgns) : atI [V.str (Txt.upper (S [c])), V.str (Txt.lower (S [c]))] (if Txt.isupper (S [c]) then 1 else 0) = some (.str (S [con c])) := by
  rw [up1 c hc, low1 c hc, isup1 c hc]
  unfold con up lo
  by_cases h : c < 97
  · have h2 : ¬ 97 ≤ c := by omega
    rw [if_neg h2, if_neg h2, if_neg h2, decide_eq_true h]
    exact atI1
  · have h2 : 97 ≤ c := by omega
    rw [if_pos h2, if_pos h2, if_pos h2, decide_eq_false h]
    exact atI0
theorem sz_str {l m : List Nat} (h1 : l.length < 40000) (h2 : m.length < 40000) : (S l).length + (S m).length ≤ sizeLine := by
  rw [len_S, len_S]
  exact Nat.le_trans (by omega : _ ≤ 100000) (by decide)
theorem row_snoc {l : List Nat} {c : Nat} (h : Row l) (hc : c ∈ sgns) : Row (l ++ [c]) := fun d hd => by
  rcases List.mem_append.mp hd with q | q
  · exact h d q
  · rw [List.mem_singleton.mp q]; exact hc
theorem all_snoc {P : Nat → Prop} {l : List Nat} {c : Nat} (h : ∀ d ∈ l, P d) (hc : P c) : ∀ d ∈ l ++ [c], P d := fun d hd => by
  rcases List.mem_append.mp hd with q | q
  · exact h d q
  · rw [List.mem_singleton.mp q]; exact hc
theorem at_last {m : List Nat} {d : Nat} : atI (S (m ++ [d])).cps.toList (-(1 : Int)) = some d := by
  show atI (m ++ [d]) (-1) = some d
  unfold atI ixN
  have h : -(((m ++ [d]).length : Nat) : Int) ≤ -1 := by simp; omega
  rw [if_neg (by decide), if_pos h]
  have e : ((-1 : Int) + ((m ++ [d]).length : Nat)).toNat = m.length := by simp; omega
  rw [e]
  simp
theorem cut_S (l : List Nat) (lo hi : Option Int) : cutS (S l) lo hi = S ((l.drop (HT.sIx l.length 0 lo)).take (HT.sIx l.length l.length hi - HT.sIx l.length 0 lo)) := by
  unfold cutS
  rw [len_S]
theorem cut_last {m : List Nat} {d : Nat} : cutS (S (m ++ [d])) none (some (-1)) = S m := by
  rw [cut_S, HT.sIx_none]
  have e : HT.sIx (m ++ [d]).length (m ++ [d]).length (some (-1)) = m.length := by
    show (if (-1 : Int) < 0 then ((-1 : Int) + ((m ++ [d]).length : Nat)).toNat else min (-1 : Int).toNat (m ++ [d]).length) = _
    rw [if_pos (by decide)]
    simp
    omega
  rw [e, List.drop_zero, Nat.sub_zero]
  simp
theorem sz_of' {n : Nat} (h : n ≤ 100000) : n ≤ sizeLine := Nat.le_trans h (by decide)
theorem exists_snoc {α : Type} {m : List α} (h : m ≠ []) : ∃ l d, m = l ++ [d] := ⟨m.dropLast, m.getLast h, (List.dropLast_concat_getLast h).symm⟩
theorem ix_con {c : Nat} (h : c ∈ sgns) : ix (con c) / 2 = ix c / 2 := by
  have : ∀ c ∈ sgns, ix (con c) / 2 = ix c / 2 := by decide
  exact this c h
/-! ### the rank of a row, as data -/
def intsD (xs : List Nat) : List PyData := xs.map fun (c : Nat) => .int (c : Int)
def rankD (l : List Nat) : PyData := .tuple [.int l.length, .list (intsD (l.map ix))]
theorem alike_ints : ∀ xs ys : List Nat, PySem.W.alikeAll (intsD xs) (intsD ys) = true
  | [], _ => by simp [intsD, PySem.W.alikeAll]
  | _ :: _, [] => by simp [intsD, PySem.W.alikeAll]
  | x :: xs, y :: ys => by
    have ih := alike_ints xs ys
    simp only [intsD] at ih ⊢
    simp [PySem.W.alikeAll, PySem.W.alike, ih]
theorem alike_rank (l m : List Nat) : PySem.W.alike (rankD l) (rankD m) = true := by
  simp [rankD, PySem.W.alike, PySem.W.alikeAll, alike_ints]
theorem eqv_int (a b : Int) : PyData.eqv (.int a) (.int b) = decide (a = b) := by
  simp [PyData.eqv]
  by_cases h : a = b <;> simp [h]
theorem lex_ints : ∀ xs ys : List Nat, xs.length = ys.length → PyProof.Rows.lexLt PyProof.Rows.itemOrd (PySem.W.keyToksAll (intsD xs)) (PySem.W.keyToksAll (intsD ys)) = RowM.lexI xs ys
  | [], [], _ => by decide
  | [], _ :: _, h => by simp at h
  | _ :: _, [], h => by simp at h
  | x :: xs, y :: ys, h => by
    have ih := lex_ints xs ys (by simpa using h)
    show PyProof.Rows.lexLt PyProof.Rows.itemOrd (PySem.W.keyToksAll (.int (x : Int) :: intsD xs)) (PySem.W.keyToksAll (.int (y : Int) :: intsD ys)) = _
    by_cases e : x = y
    · rw [PySem.W.dataLt_all_yes rfl (by rw [eqv_int]; simp [e]), ih, RowM.lexI, if_pos e]
    · rw [PySem.W.dataLt_all_no rfl (by rw [eqv_int]; simp; omega), PySem.W.dataLt_int, RowM.lexI, if_neg e]
      congr 1
      simp
theorem eqv_list_len : ∀ xs ys : List Nat, PyData.eqvAll (intsD xs) (intsD ys) = true → xs = ys
  | [], [], _ => rfl
  | [], _ :: _, h => by simp [intsD, PyData.eqvAll] at h
  | _ :: _, [], h => by simp [intsD, PyData.eqvAll] at h
  | x :: xs, y :: ys, h => by
    have h2 : PyData.eqvAll (.int (x : Int) :: intsD xs) (.int (y : Int) :: intsD ys) = true := h
    rw [PySem.W.eqv_all_cons, Bool.and_eq_true, eqv_int] at h2
    have := eqv_list_len xs ys h2.2
    have e := of_decide_eq_true h2.1
    rw [this]
    congr 1
    omega
theorem lt_rank {l m : List Nat} : PySem.W.dataLt (rankD l) (rankD m) = RowM.before l m := by
  unfold rankD
  rw [PySem.W.dataLt_tuple]
  unfold RowM.before
  by_cases e : l.length = m.length
  · rw [if_pos e, PySem.W.dataLt_all_yes rfl (by rw [eqv_int]; simp [e])]
    by_cases q : PyData.eqv (.list (intsD (l.map ix))) (.list (intsD (m.map ix))) = true
    · rw [PySem.W.dataLt_all_yes (by rw [PySem.W.alike]; exact alike_ints _ _) q]
      have : l.map ix = m.map ix := eqv_list_len _ _ (by simpa [PyData.eqv] using q)
      rw [this]
      have z : ∀ n : List Nat, RowM.lexI n n = false := by
        intro n
        induction n with
        | nil => rfl
        | cons a n ih => simp [RowM.lexI, ih]
      rw [z]
      decide
    · rw [PySem.W.dataLt_all_no (by rw [PySem.W.alike]; exact alike_ints _ _) (by simpa using q), PySem.W.dataLt_list, lex_ints _ _ (by simpa using e)]
  · rw [if_neg e, PySem.W.dataLt_all_no rfl (by rw [eqv_int]; simp; omega), PySem.W.dataLt_int]
    congr 1
    simp
section
variable {K : PySem.W.Frag} {H : Hp}
theorem dp_ints : ∀ xs : List Nat, DpAll K H (xs.map fun (c : Nat) => V.int (c : Int)) (intsD xs)
  | [] => .nil
  | x :: xs => .cons (.int _) (dp_ints xs)
theorem dp_rank {t q : Addr} {l : List Nat} (ht : H t = some (.tup [.int l.length, .ref q])) (hq : H q = some (.lst (l.map fun c => V.int (ix c : Nat)))) : Dp K H (.ref t) (rankD l) :=
  .tup (SqT.of ht) (.cons (.int _) (.cons (.lst (SqL.of hq) (by
    have := dp_ints (K := K) (H := H) (l.map ix)
    rw [List.map_map] at this
    exact this)) .nil))
end
theorem depth_ints : ∀ xs : List Nat, PyData.depthAll (intsD xs) = 0
  | [] => rfl
  | x :: xs => by
    have := depth_ints xs
    simp only [intsD, List.map_cons, PyData.depthAll, PyData.depth] at this ⊢
    omega
theorem depth_rank (l : List Nat) : (rankD l).depth ≤ 60 := by
  simp [rankD, PyData.depth, PyData.depthAll, depth_ints]
def isRow (l : List Nat) : Bool := decide (l.length ≤ 60) && l.all fun c => decide (c ∈ sgns)
theorem isRow_iff {l : List Nat} : isRow l = true ↔ l.length ≤ 60 ∧ Row l := by
  simp [isRow, RowM.Row]
theorem turns_ok (x t : Int) (h : 1 ≤ t) : 1 ≤ (if (if t < x then t else x) > 1 then (if t < x then t else x) else 1) ∧ (if (if t < x then t else x) > 1 then (if t < x then t else x) else 1) ≤ t := by
  by_cases a : t < x
  · rw [if_pos a]
    by_cases b : t > 1
    · rw [if_pos b]; omega
    · rw [if_neg b]; omega
  · rw [if_neg a]
    by_cases b : x > 1
    · rw [if_pos b]; omega
    · rw [if_neg b]; omega
theorem at2 {α : Type} {a b : α} {v : Int} (h0 : 0 ≤ v) (h1 : v < 2) : ∃ x, atI [a, b] v = some x ∧ (x = a ∨ x = b) := by
  have : v = 0 ∨ v = 1 := by omega
  rcases this with rfl | rfl
  · exact ⟨a, atI0, .inl rfl⟩
  · exact ⟨b, atI1, .inr rfl⟩
theorem cut_to {l : List Nat} {k : Nat} (h : k ≤ l.length) : cutS (S l) none (some (k : Int)) = S (l.take k) := by
  rw [cut_S, HT.sIx_none, HT.sIx_nat, Nat.min_eq_left h, List.drop_zero, Nat.sub_zero]
theorem cut_from {l : List Nat} {k : Nat} : cutS (S l) (some (k : Int)) none = S (l.drop k) := by
  rw [cut_S, HT.sIx_none, HT.sIx_nat]
  congr 1
  by_cases h : k ≤ l.length
  · rw [Nat.min_eq_left h]
    have : (l.drop k).length = l.length - k := List.length_drop ..
    rw [← this, List.take_length]
  · have h2 : l.length ≤ k := by omega
    rw [Nat.min_eq_right h2, List.drop_eq_nil_of_le h2, Nat.sub_self, List.take_zero]
theorem str_dec {c d : Nat} : decide (V.str (S [c]) = V.str (S [d])) = decide (c = d) := by
  apply decide_eq_decide.mpr
  constructor
  · intro h
    have h1 := congrArg (fun v => match v with | V.str z => z.cps.toList | _ => []) h
    simpa using h1
  · intro h; rw [h]
theorem row_sub {l m : List Nat} (h : Row l) (s : ∀ c ∈ m, c ∈ l) : Row m := fun c hc => h c (s c hc)
theorem row_app {l m : List Nat} (h : Row l) (h2 : Row m) : Row (l ++ m) := fun c hc => by
  rcases List.mem_append.mp hc with q | q
  · exact h c q
  · exact h2 c q
theorem at2of3 {α : Type} {a b c : α} {l : List α} : atI (a :: b :: c :: l) 2 = some c := atI_nat (xs := a :: b :: c :: l) (j := 2) rfl
theorem at3 {α : Type} {a b c : α} {v : Int} (h0 : 0 ≤ v) (h1 : v < 3) : ∃ x, atI [a, b, c] v = some x ∧ (x = a ∨ x = b ∨ x = c) := by
  have : v = 0 ∨ v = 1 ∨ v = 2 := by omega
  rcases this with rfl | rfl | rfl
  · exact ⟨a, atI0, .inl rfl⟩
  · exact ⟨b, atI1, .inr (.inl rfl)⟩
  · exact ⟨c, at2of3, .inr (.inr rfl)⟩
theorem at4 {α : Type} {a b c d : α} {v : Int} (h0 : 0 ≤ v) (h1 : v < 4) : ∃ x, atI [a, b, c, d] v = some x ∧ (x = a ∨ x = b ∨ x = c ∨ x = d) := by
  have : v = 0 ∨ v = 1 ∨ v = 2 ∨ v = 3 := by omega
  rcases this with rfl | rfl | rfl | rfl
  · exact ⟨a, atI0, .inl rfl⟩
  · exact ⟨b, atI1, .inr (.inl rfl)⟩
  · exact ⟨c, at2of3, .inr (.inr (.inl rfl))⟩
  · exact ⟨d, atI_nat (xs := [a, b, c, d]) (j := 3) rfl, .inr (.inr (.inr rfl))⟩
theorem Pool.ne {H : Hp} {p d : Addr} (h : Pool H p) (hd : H d = none) : p ≠ d := fun e => by
  obtain ⟨_, _, q, _⟩ := h
  rw [e, hd] at q
  cases q
theorem Pool.new {H : Hp} {p d : Addr} {o : HO} (h : Pool H p) (hd : H d = none) : Pool (upd H d o) p := h.same (Same.new hd)
/-- what stood ahead of the pool stands -/
theorem Off.same {H0 H H' : Hp} {p : Addr} (hp : H0 p = none) (s : Same H0 H) (o : Off p H H') : Same H0 H' := fun b u e => o b u (fun q => by rw [q, hp] at e; cases e) (s b u e)
/-! ### things of any kind -/
def NotStr (H : Hp) (x : V) : Prop := x = .non ∨ (∃ i, x = .int i) ∨ (∃ b, x = .bl b) ∨ ∃ a, x = .ref a ∧ ((∃ xs, H a = some (.lst xs)) ∨ (∃ xs, H a = some (.tup xs)) ∨ ∃ kvs, H a = some (.dK kvs))
theorem NotStr.same {H H' : Hp} {x : V} (h : NotStr H x) (s : Same H H') : NotStr H' x := by
  rcases h with h | h | h | ⟨a, e, ⟨xs, h⟩ | ⟨xs, h⟩ | ⟨xs, h⟩⟩
  · exact .inl h
  · exact .inr (.inl h)
  · exact .inr (.inr (.inl h))
  · exact .inr (.inr (.inr ⟨a, e, .inl ⟨xs, s _ _ h⟩⟩))
  · exact .inr (.inr (.inr ⟨a, e, .inr (.inl ⟨xs, s _ _ h⟩)⟩))
  · exact .inr (.inr (.inr ⟨a, e, .inr (.inr ⟨xs, s _ _ h⟩)⟩))
theorem NotStr.ty {K : PySem.W.Frag} {H : Hp} {x : V} (h : NotStr H x) : ∃ t : String, TyX K H x (.type t) ∧ kitB t "str" = some false := by
  rcases h with rfl | ⟨i, rfl⟩ | ⟨b, rfl⟩ | ⟨a, rfl, ⟨xs, h⟩ | ⟨xs, h⟩ | ⟨xs, h⟩⟩
  · exact ⟨_, .base .non, by decide +kernel⟩
  · exact ⟨_, .base (.int _), by decide +kernel⟩
  · exact ⟨_, .base (.bl _), by decide +kernel⟩
  · exact ⟨_, .base (.lst h), by decide +kernel⟩
  · exact ⟨_, .base (.tup h), by decide +kernel⟩
  · exact ⟨_, .base (.dK h), by decide +kernel⟩
/-- whether x is a text of at most so many of the twelve signs -/
def IsRowW (H : Hp) (x : V) (most : Int) (r : Bool) : Prop := (∃ l : List Nat, x = .str (S l) ∧ l.length ≤ 40000 ∧ r = (decide ((l.length : Int) ≤ most) && l.all fun c => decide (c ∈ sgns))) ∨ (NotStr H x ∧ r = false)
def IsRowV (H : Hp) (x : V) (r : Bool) : Prop := (∃ l : List Nat, x = .str (S l) ∧ l.length ≤ 40000 ∧ r = isRow l) ∨ (NotStr H x ∧ r = false)
theorem IsRowV.same {H H' : Hp} {x : V} {r : Bool} (h : IsRowV H x r) (s : Same H H') : IsRowV H' x r := by
  rcases h with h | ⟨h, e⟩
  · exact .inl h
  · exact .inr ⟨h.same s, e⟩
theorem IsRowV.w {H : Hp} {x : V} {r : Bool} (h : IsRowV H x r) : IsRowW H x 60 r := by
  rcases h with ⟨l, e, z, q⟩ | h
  · refine .inl ⟨l, e, z, ?_⟩
    rw [q]
    unfold isRow
    have z : decide ((l.length : Int) ≤ 60) = decide (l.length ≤ 60) := decide_eq_decide.mpr (by omega)
    rw [z]
  · exact .inr h
theorem Off.mut {p D : Addr} {H H' : Hp} {o : HO} (a : Off p H H') (hD : H D = none) : Off p H (L2.upd H' D o) := fun b u n h => by
  rw [L2.upd_ne (ne_of_none h hD)]
  exact a b u n h
theorem str_at {z : Str} {u : Int} (h0 : 0 ≤ u) (h1 : u < (z.length : Int)) : ∃ c, atI z.cps.toList u = some c ∧ c ∈ z.cps.toList := by
  obtain ⟨n, rfl⟩ : ∃ n : Nat, u = (n : Int) := ⟨u.toNat, by omega⟩
  have h2 : n < z.cps.toList.length := by
    have : z.cps.toList.length = z.length := rfl
    omega
  exact ⟨z.cps.toList[n], atI_nat (List.getElem?_eq_getElem h2), List.getElem_mem _⟩
/-! ### the ten things that are no texts -/
def oddL (t1 l1 d1 l2 t2 l3 : Addr) : List V := [.non, .int 0, .bl true, .ref t1, .ref l1, .ref d1, .ref l2, .ref t2, .ref l3, .int ((10 : Int) ^ (30 : Int).toNat)]
def oddH (H : Hp) (t1 l1 d1 l2 t2 l3 O : Addr) : Hp := upd (upd (upd (upd (upd (upd (upd H t1 (.tup [])) l1 (.lst [])) d1 (.dK [])) l2 (.lst [.str (Str.ofString "a")])) t2 (.tup [.str (Str.ofString "a")])) l3 (.lst [.str (Str.ofString "a"), .str (Str.ofString "b")])) O (.lst (oddL t1 l1 d1 l2 t2 l3))
theorem oddH_ok {H H1 H2 H3 H4 H5 H6 : Hp} {t1 l1 d1 l2 t2 l3 O : Addr} (e1 : H1 = upd H t1 (.tup [])) (e2 : H2 = upd H1 l1 (.lst [])) (e3 : H3 = upd H2 d1 (.dK [])) (e4 : H4 = upd H3 l2 (.lst [.str (Str.ofString "a")])) (e5 : H5 = upd H4 t2 (.tup [.str (Str.ofString "a")])) (e6 : H6 = upd H5 l3 (.lst [.str (Str.ofString "a"), .str (Str.ofString "b")]))
    (n1 : H t1 = none) (n2 : H1 l1 = none) (n3 : H2 d1 = none) (n4 : H3 l2 = none) (n5 : H4 t2 = none) (n6 : H5 l3 = none) (n7 : H6 O = none) :
    Same H (oddH H t1 l1 d1 l2 t2 l3 O) ∧ oddH H t1 l1 d1 l2 t2 l3 O O = some (.lst (oddL t1 l1 d1 l2 t2 l3)) ∧ ∀ x ∈ oddL t1 l1 d1 l2 t2 l3, NotStr (oddH H t1 l1 d1 l2 t2 l3 O) x := by
  have eH : oddH H t1 l1 d1 l2 t2 l3 O = upd H6 O (.lst (oddL t1 l1 d1 l2 t2 l3)) := by rw [e6, e5, e4, e3, e2, e1]; rfl
  rw [eH]
  have s6 : Same H6 (upd H6 O (.lst (oddL t1 l1 d1 l2 t2 l3))) := Same.new n7
  have s5 : Same H5 _ := Same.trans (e6 ▸ Same.new n6) s6
  have s4 : Same H4 _ := Same.trans (e5 ▸ Same.new n5) s5
  have s3 : Same H3 _ := Same.trans (e4 ▸ Same.new n4) s4
  have s2 : Same H2 _ := Same.trans (e3 ▸ Same.new n3) s3
  have s1 : Same H1 _ := Same.trans (e2 ▸ Same.new n2) s2
  have s0 : Same H _ := Same.trans (e1 ▸ Same.new n1) s1
  refine ⟨s0, upd_same, fun x hx => ?_⟩
  simp only [oddL, List.mem_cons, List.not_mem_nil, or_false] at hx
  rcases hx with rfl | rfl | rfl | rfl | rfl | rfl | rfl | rfl | rfl | rfl
  · exact .inl rfl
  · exact .inr (.inl ⟨_, rfl⟩)
  · exact .inr (.inr (.inl ⟨_, rfl⟩))
  · exact .inr (.inr (.inr ⟨_, rfl, .inr (.inl ⟨_, s1 _ _ (by rw [e1]; exact upd_same)⟩)⟩))
  · exact .inr (.inr (.inr ⟨_, rfl, .inl ⟨_, s2 _ _ (by rw [e2]; exact upd_same)⟩⟩))
  · exact .inr (.inr (.inr ⟨_, rfl, .inr (.inr ⟨_, s3 _ _ (by rw [e3]; exact upd_same)⟩)⟩))
  · exact .inr (.inr (.inr ⟨_, rfl, .inl ⟨_, s4 _ _ (by rw [e4]; exact upd_same)⟩⟩))
  · exact .inr (.inr (.inr ⟨_, rfl, .inr (.inl ⟨_, s5 _ _ (by rw [e5]; exact upd_same)⟩)⟩))
  · exact .inr (.inr (.inr ⟨_, rfl, .inl ⟨_, s6 _ _ (by rw [e6]; exact upd_same)⟩⟩))
  · exact .inr (.inl ⟨_, rfl⟩)
/-- a sign among the twelve, in a list of them -/
theorem inV_signs (c : Nat) : inV (V.str (S [c])) ((Str.ofString "aAbBcCdDeEfF").cps.toList.map fun d => V.str ⟨#[d]⟩) = decide (c ∈ sgns) := by
  have h : (Str.ofString "aAbBcCdDeEfF").cps.toList = sgns := by decide +kernel
  rw [h]
  unfold inV
  rw [List.any_map]
  have e : ∀ d : Nat, eqV (V.str ⟨#[d]⟩) (V.str (S [c])) = decide (d = c) := fun d => by
    show ((⟨#[d]⟩ : Str) == S [c]) = decide (d = c)
    by_cases q : d = c
    · subst q; simp
    · rw [decide_eq_false q]
      apply beq_eq_false_iff_ne.mpr
      intro z
      have := congrArg (fun z : Str => z.cps.toList) z
      simp at this
      exact q this
  rw [show (sgns.any ((fun y => eqV y (V.str (S [c]))) ∘ fun d => V.str ⟨#[d]⟩)) = sgns.any fun d => decide (d = c) from by congr 1; funext d; exact e d]
  by_cases q : c ∈ sgns
  · rw [decide_eq_true q]
    exact List.any_eq_true.mpr ⟨c, q, by simp⟩
  · rw [decide_eq_false q]
    exact List.any_eq_false.mpr fun d hd => by simp; intro z; subst z; exact q hd
theorem dp_strs {K : PySem.W.Frag} {H : Hp} : ∀ zs : List Str, DpAll K H (zs.map V.str) (zs.map PyData.str)
  | [] => .nil
  | z :: zs => .cons (.str z) (dp_strs zs)
theorem eqv_nil : ∀ ds : List PyData, PyData.eqv (.list ds) (.list []) = ds.isEmpty
  | [] => by simp [PyData.eqv, PyData.eqvAll]
  | _ :: _ => by simp [PyData.eqv, PyData.eqvAll]
/-- a list of code points that a text may hold -/
def Chs (l : List Nat) : Prop := ∀ c ∈ l, c < 1114112
theorem chs_in {l m : List Nat} (h : ∀ c ∈ l, c ∈ m) (g : (m.all fun c => decide (c < 1114112)) = true) : Chs l := fun c hc => of_decide_eq_true (List.all_eq_true.mp g c (h c hc))
theorem chs_sgns : (sgns.all fun c => decide (c < 1114112)) = true := by decide
theorem Chs.app {l m : List Nat} (a : Chs l) (b : Chs m) : Chs (l ++ m) := fun c h => by
  rcases List.mem_append.mp h with h | h
  · exact a c h
  · exact b c h
theorem shaped_strs (zs : List Str) (hz : zs.all PyData.strOk = true) : SeqAt.shaped (.list (zs.map PyData.str)) = true := by
  have h1 : PyData.canLayAll0 (zs.map PyData.str) = true := by
    induction zs with
    | nil => rfl
    | cons z zs ih =>
      simp only [List.all_cons, Bool.and_eq_true] at hz
      simp [PyData.canLayAll0, PyData.canLay0, hz.1, ih hz.2]
  have h2 : ∀ zs : List Str, PyData.depthAll (zs.map PyData.str) = 0 := by
    intro zs
    induction zs with
    | nil => rfl
    | cons z zs ih => simp [PyData.depthAll, PyData.depth, ih]
  simp [SeqAt.shaped, PyData.canLay0, h1, PyData.depth, h2]
/-- the signs of a text that are none of the twelve -/
def strays (l : List Nat) : List Str := ((List.range l.length).filter fun i => !decide (l.getD i 0 ∈ sgns)).map fun i => S [l.getD i 0]
theorem given_strays (l : List Nat) : Evl.given l.length (fun i => !decide (l.getD i 0 ∈ sgns)) (fun i => V.str (S [l.getD i 0])) = (strays l).map V.str := by
  unfold Evl.given strays
  rw [List.map_map]
  rfl
theorem getD_mem {l : List Nat} {i : Nat} (h : i < l.length) : l.getD i 0 ∈ l := by
  rw [List.getD_eq_getElem?_getD, List.getElem?_eq_getElem h]
  exact List.getElem_mem _
theorem strays_ok {l : List Nat} (h : Chs l) : (strays l).all PyData.strOk = true := by
  refine List.all_eq_true.mpr fun z hz => ?_
  unfold strays at hz
  obtain ⟨i, hi, rfl⟩ := List.mem_map.mp hz
  have hi := (List.mem_filter.mp hi).1
  have := h _ (getD_mem (List.mem_range.mp hi))
  simp [PyData.strOk]
  simpa using this
theorem strays_none (l : List Nat) : (strays l).isEmpty = l.all fun c => decide (c ∈ sgns) := by
  by_cases h : ∀ c ∈ l, c ∈ sgns
  · have e : strays l = [] := by
      unfold strays
      rw [List.map_eq_nil_iff, List.filter_eq_nil_iff]
      intro i hi
      have := h _ (getD_mem (List.mem_range.mp hi))
      simpa using this
    rw [e, List.all_eq_true.mpr fun c hc => decide_eq_true (h c hc)]
    rfl
  · rw [show (l.all fun c => decide (c ∈ sgns)) = false from by
      cases q : l.all fun c => decide (c ∈ sgns)
      · rfl
      · exact absurd (fun c hc => of_decide_eq_true (List.all_eq_true.mp q c hc)) h]
    cases q : (strays l).isEmpty
    · rfl
    · refine absurd (fun c hc => ?_) h
      obtain ⟨i, hi, e⟩ := List.getElem_of_mem hc
      have z := List.isEmpty_iff.mp q
      unfold strays at z
      rw [List.map_eq_nil_iff, List.filter_eq_nil_iff] at z
      have := z i (List.mem_range.mpr hi)
      rw [List.getD_eq_getElem?_getD, List.getElem?_eq_getElem hi] at this
      simpa [e] using this
/-! ### the refusals, their fields, what stands above them -/
def fn5 (i : Nat) : Nat := if i < 3 then 0 else if i = 15 ∨ i = 18 ∨ i = 19 then 2 else 1
def nm5 : List (List Str) := [[], [], [], ["place"], ["place"], ["number"], ["number"], ["number"], ["deed"], ["name"], ["name"], ["place"], ["thing"], ["number"], ["number"], ["thing", "deed"], ["seam"], ["many"], ["thing", "deed"], ["other", "one"], ["size"], ["many"]]
def fl5 (i : Nat) (x y : V) : List (Str × V) := match nm5[i]? with
  | some [f] => [(f, x)]
  | some [g, f] => [(g, y), (f, x)]
  | _ => []
def abv (i : Nat) : List Bool := [decide (i < 8), decide (8 ≤ i ∧ i < 12), decide (i = 12), decide (8 ≤ i ∧ i < 17), decide (i = 17 ∨ i = 20 ∨ i = 21), decide (19 < i), decide (i = 18 ∨ i = 19)]
theorem offx {H : Hp} {a d C : Addr} {v : V} {f : Str} (hd : H d = none) : Off a H (upd (upd (upd H d (exd d [])) a (exo a C (some d))) d (exd d [(f, v)])) := fun b o hb h => by
  have n : b ≠ d := ne_of_none h hd
  rw [upd_ne n, upd_ne hb, upd_ne n]
  exact h
theorem offx2 {H : Hp} {a d C : Addr} {v u : V} {f g : Str} (hd : H d = none) : Off a H (upd (upd (upd (upd H d (exd d [])) a (exo a C (some d))) d (exd d [(f, v)])) d (exd d [(g, u), (f, v)])) := fun b o hb h => by
  have n : b ≠ d := ne_of_none h hd
  rw [upd_ne n, upd_ne n, upd_ne hb, upd_ne n]
  exact h
theorem eq_nats (n i : Nat) : eqV (V.int (n : Int)) (V.int (i : Int)) = decide (i = n) := by
  show ((n : Int) == (i : Int)) = _
  rw [Bool.eq_iff_iff, beq_iff_eq, decide_eq_true_eq]
  omega
theorem in_nats (i : Nat) : ∀ l : List Nat, inV (V.int (i : Int)) (l.map fun (n : Nat) => V.int (n : Int)) = decide (i ∈ l)
  | [] => rfl
  | n :: l => by
    have ih := in_nats i l
    unfold inV at ih ⊢
    rw [List.map_cons, List.any_cons, ih, eq_nats, Bool.eq_iff_iff, Bool.or_eq_true, decide_eq_true_eq, decide_eq_true_eq, decide_eq_true_eq, List.mem_cons]
theorem flat_nats : ∀ l : List Nat, (l.map fun (n : Nat) => V.int (n : Int)).all flatV = true
  | [] => rfl
  | n :: l => by rw [List.map_cons, List.all_cons, flat_nats l]; rfl
/-! ### what a refusal is made of -/
inductive One5 (H : Hp) : V → Prop where
  | int (i : Int) : One5 H (.int i)
  | str {x : Str} (h : PyData.strOk x = true) : One5 H (.str x)
  | non : One5 H .non
  | tup {t : Addr} (i : Int) (h : H t = some (.tup [.int i, .str (Str.ofString "a")])) : One5 H (.ref t)
theorem One5.same {H H' : Hp} {v : V} (h : One5 H v) (s : Same H H') : One5 H' v := by
  cases h with
  | int i => exact .int i
  | str h => exact .str h
  | non => exact .non
  | tup i h => exact .tup i (s _ _ h)
theorem One5.dp {K : PySem.W.Frag} {H : Hp} {v : V} (h : One5 H v) : ∃ d, Dp K H v d ∧ d.canLay0 = true ∧ d.depth ≤ 1 := by
  cases h with
  | int i => exact ⟨_, .int i, rfl, Nat.zero_le _⟩
  | str h => exact ⟨_, .str _, by simp [PyData.canLay0, h], by simp [PyData.depth]⟩
  | non => exact ⟨_, .non, rfl, Nat.zero_le _⟩
  | tup i h => exact ⟨_, .tup (SqT.of h) (.cons (.int _) (.cons (.str _) .nil)), by simp [PyData.canLay0, PyData.canLayAll0, show PyData.strOk (Str.ofString "a") = true by decide +kernel], by simp [PyData.depth, PyData.depthAll]⟩
theorem pair5 {K : PySem.W.Frag} {H : Hp} {x y : V} (hx : One5 H x) (hy : One5 H y) (m : Nat) : ∃ ds, DpAll K H ([x, y].take m) ds ∧ SeqAt.shaped (.list ds) = true := by
  obtain ⟨d, d1, d2, d3⟩ := hx.dp (K := K)
  obtain ⟨e, e1, e2, e3⟩ := hy.dp (K := K)
  match m with
  | 0 => exact ⟨[], .nil, by decide⟩
  | 1 =>
    refine ⟨[d], .cons d1 .nil, ?_⟩
    simp only [SeqAt.shaped, PyData.canLay0, PyData.canLayAll0, d2, Bool.true_and, decide_eq_true_eq]
    have : (PyData.list [d]).depth ≤ 2 := by simp only [PyData.depth, PyData.depthAll]; omega
    omega
  | m + 2 =>
    refine ⟨[d, e], .cons d1 (.cons e1 (by rw [List.take_nil]; exact .nil)), ?_⟩
    simp only [SeqAt.shaped, PyData.canLay0, PyData.canLayAll0, d2, e2, Bool.true_and, decide_eq_true_eq]
    have : (PyData.list [d, e]).depth ≤ 2 := by simp only [PyData.depth, PyData.depthAll]; omega
    show (PyData.list [d, e]).depth ≤ 64
    omega
theorem eqv_self5 {d : PyData} (h : SeqAt.shaped d = true) : PyData.eqv d d = true := SeqAt.eqv_refl d (by unfold SeqAt.shaped at h; simp only [Bool.and_eq_true] at h; exact h.1)
theorem dp_bools {K : PySem.W.Frag} {H : Hp} : ∀ bs : List Bool, DpAll K H (bs.map V.bl) (bs.map PyData.bool)
  | [] => .nil
  | b :: bs => .cons (.bl b) (dp_bools bs)
theorem shaped_bools (bs : List Bool) : SeqAt.shaped (.list (bs.map PyData.bool)) = true := by
  have h : ∀ l : List Bool, PyData.canLayAll0 (l.map PyData.bool) = true ∧ PyData.depthAll (l.map PyData.bool) = 0 := by
    intro l
    induction l with
    | nil => exact ⟨rfl, by simp [PyData.depthAll]⟩
    | cons b l ih => exact ⟨by rw [List.map_cons]; simp [PyData.canLayAll0, PyData.canLay0, ih.1], by rw [List.map_cons]; simp [PyData.depthAll, PyData.depth, ih.2]⟩
  obtain ⟨h1, h2⟩ := h bs
  simp [SeqAt.shaped, PyData.canLay0, PyData.depth, h1, h2]
theorem many5 {i : Nat} (h : i < 22) : atI [V.int 0, V.int 1, V.int 2] ((if decide ((2 : Int) < (i : Int)) = true then 1 else 0) + (if decide (i ∈ ([15, 18, 19] : List Nat)) = true then 1 else 0)) = some (.int (fn5 i : Int)) := by
  have : ∀ j, j < 22 → (fn5 j : Int) = (if decide ((2 : Int) < (j : Int)) = true then 1 else 0) + (if decide (j ∈ ([15, 18, 19] : List Nat)) = true then 1 else 0) ∧ fn5 j ≤ 2 := by decide
  obtain ⟨e, l⟩ := this i h
  rw [← e]
  have : fn5 i = 0 ∨ fn5 i = 1 ∨ fn5 i = 2 := by omega
  rcases this with q | q | q <;> rw [q] <;> rfl
theorem cut5t (xs : List V) (i : Nat) : cutV xs none (some (i : Int)) = xs.take i := by
  unfold cutV
  rw [HT.sIx_none, HT.sIx_nat, List.drop_zero, Nat.sub_zero]
  by_cases h : i ≤ xs.length
  · rw [Nat.min_eq_left h]
  · rw [Nat.min_eq_right (by omega), List.take_length, List.take_of_length_le (by omega)]

/-- a def that the caller knows: where it stands, how its arguments bind, what it promises -/
def KN (P : Program) (w : World) (K : PySem.W.Frag) (mg : Str → Option Value) (base : Heap) (CX : CXT) (k : Nat) (ps : List Str) (sp : Sp) (x : Str) (dvs : List V) : Prop :=
  ∃ (f : Addr) (fd : FuncData) (ds : List Value), mg x = some (.ref f) ∧ PySem.W.keepIn K (.ref f) = true ∧ Vals dvs ds ∧ Binds K fd ps ds ∧ FnOk P w K mg base CX k f fd ps sp
/-- a method that the caller knows -/
def KM (P : Program) (w : World) (K : PySem.W.Frag) (mg : Str → Option Value) (base : Heap) (CX : CXT) (k : Nat) (ps : List Str) (sp : Sp) (C : Addr) (n : Str) (dvs : List V) : Prop :=
  ∃ (f : Addr) (fd : FuncData) (ds : List Value), PySem.W.findIn K (.ref C) n = some (some (.ref f)) ∧ PySem.W.typeIn K (.ref f) = some (.type "function") ∧ PySem.W.isFn K (.ref f) = true ∧ PySem.W.keepIn K (.ref f) = true ∧ Vals dvs ds ∧ Binds K fd ps ds ∧ FnOk P w K mg base CX k f fd ps sp
structure Txt (K : PySem.W.Frag) (mg : Str → Option Value) (C_Bare : Addr) (C_Full : Addr) (C_NoBack : Addr) (C_NoDeed : Addr) (C_NoEnd : Addr) (C_NoFold : Addr) (C_NoGiven : Addr) (C_NoMachine : Addr) (C_NoMark : Addr) (C_NoName : Addr) (C_NoNumber : Addr) (C_NoPairs : Addr) (C_NoRow : Addr) (C_NoSeam : Addr) (C_NoSign : Addr) (C_NoStep : Addr) (C_NoText : Addr) (C_NoThing : Addr) (C_NoTree : Addr) (C_NoWords : Addr) (C_Taken : Addr) (C_TooMany : Addr) : Prop where
  b_ArithmeticError : mg "ArithmeticError" = none
  b_IndexError : mg "IndexError" = none
  b_KeyError : mg "KeyError" = none
  b_LookupError : mg "LookupError" = none
  b_OverflowError : mg "OverflowError" = none
  b_RuntimeError : mg "RuntimeError" = none
  b_ValueError : mg "ValueError" = none
  b_int : mg "int" = none
  b_isinstance : mg "isinstance" = none
  b_len : mg "len" = none
  b_max : mg "max" = none
  b_min : mg "min" = none
  b_range : mg "range" = none
  v_ArithmeticError : PySem.W.findCls K (.type "ArithmeticError") (.type "type") "__init__" = some (.val (.builtin "ArithmeticError.__init__"))
  v_IndexError : PySem.W.findCls K (.type "IndexError") (.type "type") "__init__" = some (.val (.builtin "IndexError.__init__"))
  v_KeyError : PySem.W.findCls K (.type "KeyError") (.type "type") "__init__" = some (.val (.builtin "KeyError.__init__"))
  v_LookupError : PySem.W.findCls K (.type "LookupError") (.type "type") "__init__" = some (.val (.builtin "LookupError.__init__"))
  v_OverflowError : PySem.W.findCls K (.type "OverflowError") (.type "type") "__init__" = some (.val (.builtin "OverflowError.__init__"))
  v_RuntimeError : PySem.W.findCls K (.type "RuntimeError") (.type "type") "__init__" = some (.val (.builtin "RuntimeError.__init__"))
  v_ValueError : PySem.W.findCls K (.type "ValueError") (.type "type") "__init__" = some (.val (.builtin "ValueError.__init__"))
  y_Bare_deed : PySem.W.findIn K (.ref C_Bare) "deed" = some none
  y_Bare_thing : PySem.W.findIn K (.ref C_Bare) "thing" = some none
  y_Full_size : PySem.W.findIn K (.ref C_Full) "size" = some none
  y_NoBack_many : PySem.W.findIn K (.ref C_NoBack) "many" = some none
  y_NoDeed_deed : PySem.W.findIn K (.ref C_NoDeed) "deed" = some none
  y_NoEnd_place : PySem.W.findIn K (.ref C_NoEnd) "place" = some none
  y_NoFold_one : PySem.W.findIn K (.ref C_NoFold) "one" = some none
  y_NoFold_other : PySem.W.findIn K (.ref C_NoFold) "other" = some none
  y_NoGiven_number : PySem.W.findIn K (.ref C_NoGiven) "number" = some none
  y_NoMachine_number : PySem.W.findIn K (.ref C_NoMachine) "number" = some none
  y_NoMark_name : PySem.W.findIn K (.ref C_NoMark) "name" = some none
  y_NoName_name : PySem.W.findIn K (.ref C_NoName) "name" = some none
  y_NoNumber_number : PySem.W.findIn K (.ref C_NoNumber) "number" = some none
  y_NoPairs_number : PySem.W.findIn K (.ref C_NoPairs) "number" = some none
  y_NoSeam_seam : PySem.W.findIn K (.ref C_NoSeam) "seam" = some none
  y_NoSign_place : PySem.W.findIn K (.ref C_NoSign) "place" = some none
  y_NoStep_number : PySem.W.findIn K (.ref C_NoStep) "number" = some none
  y_NoThing_thing : PySem.W.findIn K (.ref C_NoThing) "thing" = some none
  y_NoTree_place : PySem.W.findIn K (.ref C_NoTree) "place" = some none
  y_Taken_deed : PySem.W.findIn K (.ref C_Taken) "deed" = some none
  y_Taken_thing : PySem.W.findIn K (.ref C_Taken) "thing" = some none
  y_TooMany_many : PySem.W.findIn K (.ref C_TooMany) "many" = some none
  x_Bare : ExF K mg "Bare" C_Bare "LookupError" "LookupError.__new__" "LookupError.__init__" [.type "LookupError", .type "Exception", .type "BaseException", .type "object"]
  x_Full : ExF K mg "Full" C_Full "OverflowError" "OverflowError.__new__" "OverflowError.__init__" [.type "OverflowError", .type "ArithmeticError", .type "Exception", .type "BaseException", .type "object"]
  x_NoBack : ExF K mg "NoBack" C_NoBack "ArithmeticError" "ArithmeticError.__new__" "ArithmeticError.__init__" [.type "ArithmeticError", .type "Exception", .type "BaseException", .type "object"]
  x_NoDeed : ExF K mg "NoDeed" C_NoDeed "KeyError" "LookupError.__new__" "KeyError.__init__" [.type "KeyError", .type "LookupError", .type "Exception", .type "BaseException", .type "object"]
  x_NoEnd : ExF K mg "NoEnd" C_NoEnd "KeyError" "LookupError.__new__" "KeyError.__init__" [.type "KeyError", .type "LookupError", .type "Exception", .type "BaseException", .type "object"]
  x_NoFold : ExF K mg "NoFold" C_NoFold "RuntimeError" "RuntimeError.__new__" "RuntimeError.__init__" [.type "RuntimeError", .type "Exception", .type "BaseException", .type "object"]
  x_NoGiven : ExF K mg "NoGiven" C_NoGiven "ValueError" "ValueError.__new__" "ValueError.__init__" [.type "ValueError", .type "Exception", .type "BaseException", .type "object"]
  x_NoMachine : ExF K mg "NoMachine" C_NoMachine "ValueError" "ValueError.__new__" "ValueError.__init__" [.type "ValueError", .type "Exception", .type "BaseException", .type "object"]
  x_NoMark : ExF K mg "NoMark" C_NoMark "KeyError" "LookupError.__new__" "KeyError.__init__" [.type "KeyError", .type "LookupError", .type "Exception", .type "BaseException", .type "object"]
  x_NoName : ExF K mg "NoName" C_NoName "KeyError" "LookupError.__new__" "KeyError.__init__" [.type "KeyError", .type "LookupError", .type "Exception", .type "BaseException", .type "object"]
  x_NoNumber : ExF K mg "NoNumber" C_NoNumber "LookupError" "LookupError.__new__" "LookupError.__init__" [.type "LookupError", .type "Exception", .type "BaseException", .type "object"]
  x_NoPairs : ExF K mg "NoPairs" C_NoPairs "ValueError" "ValueError.__new__" "ValueError.__init__" [.type "ValueError", .type "Exception", .type "BaseException", .type "object"]
  x_NoRow : ExK K mg "NoRow" C_NoRow [.type "ValueError", .type "Exception", .type "BaseException", .type "object"] "ValueError.__new__"
  x_NoSeam : ExF K mg "NoSeam" C_NoSeam "LookupError" "LookupError.__new__" "LookupError.__init__" [.type "LookupError", .type "Exception", .type "BaseException", .type "object"]
  x_NoSign : ExF K mg "NoSign" C_NoSign "ValueError" "ValueError.__new__" "ValueError.__init__" [.type "ValueError", .type "Exception", .type "BaseException", .type "object"]
  x_NoStep : ExF K mg "NoStep" C_NoStep "LookupError" "LookupError.__new__" "LookupError.__init__" [.type "LookupError", .type "Exception", .type "BaseException", .type "object"]
  x_NoText : ExK K mg "NoText" C_NoText [.type "ValueError", .type "Exception", .type "BaseException", .type "object"] "ValueError.__new__"
  x_NoThing : ExF K mg "NoThing" C_NoThing "IndexError" "IndexError.__new__" "IndexError.__init__" [.type "IndexError", .type "LookupError", .type "Exception", .type "BaseException", .type "object"]
  x_NoTree : ExF K mg "NoTree" C_NoTree "ValueError" "ValueError.__new__" "ValueError.__init__" [.type "ValueError", .type "Exception", .type "BaseException", .type "object"]
  x_NoWords : ExK K mg "NoWords" C_NoWords [.type "ValueError", .type "Exception", .type "BaseException", .type "object"] "ValueError.__new__"
  x_Taken : ExF K mg "Taken" C_Taken "RuntimeError" "RuntimeError.__new__" "RuntimeError.__init__" [.type "RuntimeError", .type "Exception", .type "BaseException", .type "object"]
  x_TooMany : ExF K mg "TooMany" C_TooMany "OverflowError" "OverflowError.__new__" "OverflowError.__init__" [.type "OverflowError", .type "ArithmeticError", .type "Exception", .type "BaseException", .type "object"]
  subs : ((([C_NoRow, C_NoText, C_NoWords, C_NoSign, C_NoTree, C_NoGiven, C_NoPairs, C_NoMachine, C_NoDeed, C_NoMark, C_NoName, C_NoEnd, C_NoThing, C_NoNumber, C_NoStep, C_Bare, C_NoSeam, C_NoBack, C_Taken, C_NoFold, C_Full, C_TooMany] : List Addr).map (fun a => ([C_NoRow, C_NoText, C_NoWords, C_NoSign, C_NoTree, C_NoGiven, C_NoPairs, C_NoMachine, C_NoDeed, C_NoMark, C_NoName, C_NoEnd, C_NoThing, C_NoNumber, C_NoStep, C_Bare, C_NoSeam, C_NoBack, C_Taken, C_NoFold, C_Full, C_TooMany] : List Addr).map fun b => PySem.W.subIn K (.ref a) (.ref b))) = (List.range 22).map fun i => (List.range 22).map fun j => some (decide (i = j)))
  sups : ((([C_NoRow, C_NoText, C_NoWords, C_NoSign, C_NoTree, C_NoGiven, C_NoPairs, C_NoMachine, C_NoDeed, C_NoMark, C_NoName, C_NoEnd, C_NoThing, C_NoNumber, C_NoStep, C_Bare, C_NoSeam, C_NoBack, C_Taken, C_NoFold, C_Full, C_TooMany] : List Addr).map (fun a => ["ValueError", "KeyError", "IndexError", "LookupError", "ArithmeticError", "OverflowError", "RuntimeError"].map fun t => PySem.W.subIn K (.ref a) (.type t))) = (List.range 22).map fun i => [decide (i < 8), decide (8 ≤ i ∧ i < 12), decide (i = 12), decide (8 ≤ i ∧ i < 17), decide (i = 17 ∨ i = 20 ∨ i = 21), decide (19 < i), decide (i = 18 ∨ i = 19)].map some)
def sp_law_pool (K : PySem.W.Frag) : Sp := fun vs H Q E => ∃ (a : Addr) (ns : List Int) (i : Int), vs = [.ref a, .int i] ∧ (SqL K H a (ns.map V.int)) ∧ (0 ≤ i) ∧ (i < 1000) ∧ ∀ (p : Addr) (H' : Hp), H p = none → Same H H' → Pool H' p → Q (.ref p) H'
def sp_law_take : Sp := fun vs H Q E => ∃ (p : Addr) (m : Int), vs = [.ref p, .int m] ∧ (Pool H p) ∧ (0 < m) ∧ (m < 18446744073709551616) ∧ ∀ (v : Int) (H' : Hp), 0 ≤ v → v < m → Off p H H' → Pool H' p → Q (.int v) H'
def sp_NoSign___init__ (C_NoSign : Addr) : Sp := fun vs H Q E => ∃ (a : Addr) (v : V), vs = [.ref a, v] ∧ (H a = some (exo a C_NoSign none)) ∧ ∀ (d : Addr) (H' : Hp), Off a H H' → H' a = some (exo a C_NoSign (some d)) → H' d = some (exd d [(Str.ofString "place", v)]) → Q .non H'
def sp_NoTree___init__ (C_NoTree : Addr) : Sp := fun vs H Q E => ∃ (a : Addr) (v : V), vs = [.ref a, v] ∧ (H a = some (exo a C_NoTree none)) ∧ ∀ (d : Addr) (H' : Hp), Off a H H' → H' a = some (exo a C_NoTree (some d)) → H' d = some (exd d [(Str.ofString "place", v)]) → Q .non H'
def sp_NoGiven___init__ (C_NoGiven : Addr) : Sp := fun vs H Q E => ∃ (a : Addr) (v : V), vs = [.ref a, v] ∧ (H a = some (exo a C_NoGiven none)) ∧ ∀ (d : Addr) (H' : Hp), Off a H H' → H' a = some (exo a C_NoGiven (some d)) → H' d = some (exd d [(Str.ofString "number", v)]) → Q .non H'
def sp_NoPairs___init__ (C_NoPairs : Addr) : Sp := fun vs H Q E => ∃ (a : Addr) (v : V), vs = [.ref a, v] ∧ (H a = some (exo a C_NoPairs none)) ∧ ∀ (d : Addr) (H' : Hp), Off a H H' → H' a = some (exo a C_NoPairs (some d)) → H' d = some (exd d [(Str.ofString "number", v)]) → Q .non H'
def sp_NoMachine___init__ (C_NoMachine : Addr) : Sp := fun vs H Q E => ∃ (a : Addr) (v : V), vs = [.ref a, v] ∧ (H a = some (exo a C_NoMachine none)) ∧ ∀ (d : Addr) (H' : Hp), Off a H H' → H' a = some (exo a C_NoMachine (some d)) → H' d = some (exd d [(Str.ofString "number", v)]) → Q .non H'
def sp_NoDeed___init__ (C_NoDeed : Addr) : Sp := fun vs H Q E => ∃ (a : Addr) (v : V), vs = [.ref a, v] ∧ (H a = some (exo a C_NoDeed none)) ∧ ∀ (d : Addr) (H' : Hp), Off a H H' → H' a = some (exo a C_NoDeed (some d)) → H' d = some (exd d [(Str.ofString "deed", v)]) → Q .non H'
def sp_NoMark___init__ (C_NoMark : Addr) : Sp := fun vs H Q E => ∃ (a : Addr) (v : V), vs = [.ref a, v] ∧ (H a = some (exo a C_NoMark none)) ∧ ∀ (d : Addr) (H' : Hp), Off a H H' → H' a = some (exo a C_NoMark (some d)) → H' d = some (exd d [(Str.ofString "name", v)]) → Q .non H'
def sp_NoName___init__ (C_NoName : Addr) : Sp := fun vs H Q E => ∃ (a : Addr) (v : V), vs = [.ref a, v] ∧ (H a = some (exo a C_NoName none)) ∧ ∀ (d : Addr) (H' : Hp), Off a H H' → H' a = some (exo a C_NoName (some d)) → H' d = some (exd d [(Str.ofString "name", v)]) → Q .non H'
def sp_NoEnd___init__ (C_NoEnd : Addr) : Sp := fun vs H Q E => ∃ (a : Addr) (v : V), vs = [.ref a, v] ∧ (H a = some (exo a C_NoEnd none)) ∧ ∀ (d : Addr) (H' : Hp), Off a H H' → H' a = some (exo a C_NoEnd (some d)) → H' d = some (exd d [(Str.ofString "place", v)]) → Q .non H'
def sp_NoThing___init__ (C_NoThing : Addr) : Sp := fun vs H Q E => ∃ (a : Addr) (v : V), vs = [.ref a, v] ∧ (H a = some (exo a C_NoThing none)) ∧ ∀ (d : Addr) (H' : Hp), Off a H H' → H' a = some (exo a C_NoThing (some d)) → H' d = some (exd d [(Str.ofString "thing", v)]) → Q .non H'
def sp_NoNumber___init__ (C_NoNumber : Addr) : Sp := fun vs H Q E => ∃ (a : Addr) (v : V), vs = [.ref a, v] ∧ (H a = some (exo a C_NoNumber none)) ∧ ∀ (d : Addr) (H' : Hp), Off a H H' → H' a = some (exo a C_NoNumber (some d)) → H' d = some (exd d [(Str.ofString "number", v)]) → Q .non H'
def sp_NoStep___init__ (C_NoStep : Addr) : Sp := fun vs H Q E => ∃ (a : Addr) (v : V), vs = [.ref a, v] ∧ (H a = some (exo a C_NoStep none)) ∧ ∀ (d : Addr) (H' : Hp), Off a H H' → H' a = some (exo a C_NoStep (some d)) → H' d = some (exd d [(Str.ofString "number", v)]) → Q .non H'
def sp_Bare___init__ (C_Bare : Addr) : Sp := fun vs H Q E => ∃ (a : Addr) (v u : V), vs = [.ref a, v, u] ∧ (H a = some (exo a C_Bare none)) ∧ ∀ (d : Addr) (H' : Hp), Off a H H' → H' a = some (exo a C_Bare (some d)) → H' d = some (exd d [(Str.ofString "thing", u), (Str.ofString "deed", v)]) → Q .non H'
def sp_NoSeam___init__ (C_NoSeam : Addr) : Sp := fun vs H Q E => ∃ (a : Addr) (v : V), vs = [.ref a, v] ∧ (H a = some (exo a C_NoSeam none)) ∧ ∀ (d : Addr) (H' : Hp), Off a H H' → H' a = some (exo a C_NoSeam (some d)) → H' d = some (exd d [(Str.ofString "seam", v)]) → Q .non H'
def sp_NoBack___init__ (C_NoBack : Addr) : Sp := fun vs H Q E => ∃ (a : Addr) (v : V), vs = [.ref a, v] ∧ (H a = some (exo a C_NoBack none)) ∧ ∀ (d : Addr) (H' : Hp), Off a H H' → H' a = some (exo a C_NoBack (some d)) → H' d = some (exd d [(Str.ofString "many", v)]) → Q .non H'
def sp_Taken___init__ (C_Taken : Addr) : Sp := fun vs H Q E => ∃ (a : Addr) (v u : V), vs = [.ref a, v, u] ∧ (H a = some (exo a C_Taken none)) ∧ ∀ (d : Addr) (H' : Hp), Off a H H' → H' a = some (exo a C_Taken (some d)) → H' d = some (exd d [(Str.ofString "thing", u), (Str.ofString "deed", v)]) → Q .non H'
def sp_NoFold___init__ (C_NoFold : Addr) : Sp := fun vs H Q E => ∃ (a : Addr) (v u : V), vs = [.ref a, v, u] ∧ (H a = some (exo a C_NoFold none)) ∧ ∀ (d : Addr) (H' : Hp), Off a H H' → H' a = some (exo a C_NoFold (some d)) → H' d = some (exd d [(Str.ofString "other", u), (Str.ofString "one", v)]) → Q .non H'
def sp_Full___init__ (C_Full : Addr) : Sp := fun vs H Q E => ∃ (a : Addr) (v : V), vs = [.ref a, v] ∧ (H a = some (exo a C_Full none)) ∧ ∀ (d : Addr) (H' : Hp), Off a H H' → H' a = some (exo a C_Full (some d)) → H' d = some (exd d [(Str.ofString "size", v)]) → Q .non H'
def sp_TooMany___init__ (C_TooMany : Addr) : Sp := fun vs H Q E => ∃ (a : Addr) (v : V), vs = [.ref a, v] ∧ (H a = some (exo a C_TooMany none)) ∧ ∀ (d : Addr) (H' : Hp), Off a H H' → H' a = some (exo a C_TooMany (some d)) → H' d = some (exd d [(Str.ofString "many", v)]) → Q .non H'
def sp_law_made (K : PySem.W.Frag) (C_NoRow : Addr) (C_NoText : Addr) (C_NoWords : Addr) (C_NoSign : Addr) (C_NoTree : Addr) (C_NoGiven : Addr) (C_NoPairs : Addr) (C_NoMachine : Addr) (C_NoDeed : Addr) (C_NoMark : Addr) (C_NoName : Addr) (C_NoEnd : Addr) (C_NoThing : Addr) (C_NoNumber : Addr) (C_NoStep : Addr) (C_Bare : Addr) (C_NoSeam : Addr) (C_NoBack : Addr) (C_Taken : Addr) (C_NoFold : Addr) (C_Full : Addr) (C_TooMany : Addr) : Sp := fun vs H Q E => ∃ (i : Nat) (x y : V), vs = [.int (i : Int), x, y] ∧ (i < 22) ∧ ∀ (v : V) (D : Addr) (H' : Hp), Same H H' → ([C_NoRow, C_NoText, C_NoWords, C_NoSign, C_NoTree, C_NoGiven, C_NoPairs, C_NoMachine, C_NoDeed, C_NoMark, C_NoName, C_NoEnd, C_NoThing, C_NoNumber, C_NoStep, C_Bare, C_NoSeam, C_NoBack, C_Taken, C_NoFold, C_Full, C_TooMany] : List Addr)[i]? = some D → ExV H' v D (fl5 i x y) → Q v H'
def sp_law_kinds (K : PySem.W.Frag) (C_NoRow : Addr) (C_NoText : Addr) (C_NoWords : Addr) (C_NoSign : Addr) (C_NoTree : Addr) (C_NoGiven : Addr) (C_NoPairs : Addr) (C_NoMachine : Addr) (C_NoDeed : Addr) (C_NoMark : Addr) (C_NoName : Addr) (C_NoEnd : Addr) (C_NoThing : Addr) (C_NoNumber : Addr) (C_NoStep : Addr) (C_Bare : Addr) (C_NoSeam : Addr) (C_NoBack : Addr) (C_Taken : Addr) (C_NoFold : Addr) (C_Full : Addr) (C_TooMany : Addr) : Sp := fun vs H Q E => ∃ (v : V) (D : Addr) (i : Nat) (fs : List (Str × V)), vs = [v] ∧ (ExV H v D fs) ∧ (([C_NoRow, C_NoText, C_NoWords, C_NoSign, C_NoTree, C_NoGiven, C_NoPairs, C_NoMachine, C_NoDeed, C_NoMark, C_NoName, C_NoEnd, C_NoThing, C_NoNumber, C_NoStep, C_Bare, C_NoSeam, C_NoBack, C_Taken, C_NoFold, C_Full, C_TooMany] : List Addr)[i]? = some D) ∧ ∀ (p : Addr) (H' : Hp), Same H H' → H' p = some (.lst ((List.range 22).map fun j => V.bl (decide (i = j)))) → Q (.ref p) H'
def sp_law_above (K : PySem.W.Frag) (C_NoRow : Addr) (C_NoText : Addr) (C_NoWords : Addr) (C_NoSign : Addr) (C_NoTree : Addr) (C_NoGiven : Addr) (C_NoPairs : Addr) (C_NoMachine : Addr) (C_NoDeed : Addr) (C_NoMark : Addr) (C_NoName : Addr) (C_NoEnd : Addr) (C_NoThing : Addr) (C_NoNumber : Addr) (C_NoStep : Addr) (C_Bare : Addr) (C_NoSeam : Addr) (C_NoBack : Addr) (C_Taken : Addr) (C_NoFold : Addr) (C_Full : Addr) (C_TooMany : Addr) : Sp := fun vs H Q E => ∃ (v : V) (D : Addr) (i : Nat) (fs : List (Str × V)), vs = [v] ∧ (ExV H v D fs) ∧ (([C_NoRow, C_NoText, C_NoWords, C_NoSign, C_NoTree, C_NoGiven, C_NoPairs, C_NoMachine, C_NoDeed, C_NoMark, C_NoName, C_NoEnd, C_NoThing, C_NoNumber, C_NoStep, C_Bare, C_NoSeam, C_NoBack, C_Taken, C_NoFold, C_Full, C_TooMany] : List Addr)[i]? = some D) ∧ ∀ (p : Addr) (H' : Hp), Same H H' → H' p = some (.lst ((abv i).map V.bl)) → Q (.ref p) H'
def sp_law_above_due (K : PySem.W.Frag) : Sp := fun vs H Q E => ∃ (i : Nat), vs = [.int (i : Int)] ∧ (i < 22) ∧ ∀ (p : Addr) (H' : Hp), Same H H' → H' p = some (.lst ((abv i).map V.bl)) → Q (.ref p) H'
def sp_law_fields (K : PySem.W.Frag) (C_NoRow : Addr) (C_NoText : Addr) (C_NoWords : Addr) (C_NoSign : Addr) (C_NoTree : Addr) (C_NoGiven : Addr) (C_NoPairs : Addr) (C_NoMachine : Addr) (C_NoDeed : Addr) (C_NoMark : Addr) (C_NoName : Addr) (C_NoEnd : Addr) (C_NoThing : Addr) (C_NoNumber : Addr) (C_NoStep : Addr) (C_Bare : Addr) (C_NoSeam : Addr) (C_NoBack : Addr) (C_Taken : Addr) (C_NoFold : Addr) (C_Full : Addr) (C_TooMany : Addr) : Sp := fun vs H Q E => ∃ (v : V) (D : Addr) (i : Nat) (x y : V), vs = [v, .int (i : Int)] ∧ (ExV H v D (fl5 i x y)) ∧ (([C_NoRow, C_NoText, C_NoWords, C_NoSign, C_NoTree, C_NoGiven, C_NoPairs, C_NoMachine, C_NoDeed, C_NoMark, C_NoName, C_NoEnd, C_NoThing, C_NoNumber, C_NoStep, C_Bare, C_NoSeam, C_NoBack, C_Taken, C_NoFold, C_Full, C_TooMany] : List Addr)[i]? = some D) ∧ ∀ (p : Addr) (H' : Hp), Same H H' → H' p = some (.lst ([x, y].take (fn5 i))) → Q (.ref p) H'
def sp_law (K : PySem.W.Frag) : Sp := fun vs H Q E => ∃ (a : Addr) (ns : List Int), vs = [.ref a] ∧ (SqL K H a (ns.map V.int)) ∧ (ns.length ≤ 63) ∧ ∀ H', Q (.bl true) H'
section
variable {P : Program} {w : World} {K : PySem.W.Frag} {mg : Str → Option Value} {base : Heap} {C_Bare : Addr} {C_Full : Addr} {C_NoBack : Addr} {C_NoDeed : Addr} {C_NoEnd : Addr} {C_NoFold : Addr} {C_NoGiven : Addr} {C_NoMachine : Addr} {C_NoMark : Addr} {C_NoName : Addr} {C_NoNumber : Addr} {C_NoPairs : Addr} {C_NoRow : Addr} {C_NoSeam : Addr} {C_NoSign : Addr} {C_NoStep : Addr} {C_NoText : Addr} {C_NoThing : Addr} {C_NoTree : Addr} {C_NoWords : Addr} {C_Taken : Addr} {C_TooMany : Addr}
theorem sc_law_pool : FnScope ["_law_script", "_law_k", "_law_cell", "_law_number"] ["_law_script", "_law_k"] (defScope s_law_pool) := ⟨rfl, rfl, rfl, by decide +kernel, rfl, by decide +kernel, by decide +kernel⟩
theorem ok_law_pool {f : Addr} {fd : FuncData} (F : Fun K "_law_pool" "_law_pool" s_law_pool f fd) (T : Txt K mg C_Bare C_Full C_NoBack C_NoDeed C_NoEnd C_NoFold C_NoGiven C_NoMachine C_NoMark C_NoName C_NoNumber C_NoPairs C_NoRow C_NoSeam C_NoSign C_NoStep C_NoText C_NoThing C_NoTree C_NoWords C_Taken C_TooMany) : FnOk P w K mg base CX0 1 f fd ["_law_script", "_law_k"] (sp_law_pool K) := by
  refine F.ok sc_law_pool (fun vs H Q E h => ?_) (fun cdv A outer s H vs Q E hr h => ?_)
  · obtain ⟨a, ns, i, rfl, _⟩ := h
    all_goals rfl
  · obtain ⟨a, ns, i, rfl, ha, h0, h1, k⟩ := h
    refine ⟨_, (pss_cons (ps_set (i := 2) sc_law_pool.nd rfl (Or.inl rfl) pe_int)
    (pss_cons (ps_if (pt_cmpR op_lt (pv 1) (pe_callB (call_lenK (K := K)) (by rfl) T.b_len (by decide +kernel) (pa_cons (pv 0) pa_nil)) (nomark _)) (pss_one (ps_set (i := 2) sc_law_pool.nd rfl (Or.inl rfl) (pe_ix (ix_listK (K := K)) (pv 0) (pv 1) (fun _ _ => rfl)))) pss_nil)
    (pss_cons (ps_set (i := 3) sc_law_pool.nd rfl (Or.inl rfl) (pe_op op_mod (pe_op op_pow (pe_op op_add (pe_op op_add (pe_op op_mod (pv 2) pe_int) (pe_op op_mul (pe_op op_mul pe_int (pv 1)) (pv 1))) pe_int) pe_int) pe_int))
    (pss_cons (ps_if (pt_cmpR op_lt (pv 2) (pe_op op_pow pe_int pe_int) (nomark _)) (pss_one (ps_set (i := 2) sc_law_pool.nd rfl (Or.inl rfl) pe_int)) pss_nil)
    (pss_one (ps_ret (pe_lst (pa_cons (pv 2) (pa_cons (pv 3) pa_nil))))))))), ?_⟩
    have go : ∀ c : Int, tSeq (tAsg (tOp (rI (fun x j => 0 < j) fun i j => V.int (i % j))
                (tOp (rI CPow fun i j => V.int (i ^ j.toNat))
                  (tOp (rI0 fun i j => V.int (i + j))
                    (tOp (rI0 fun i j => V.int (i + j))
                      (tOp (rI (fun x j => 0 < j) fun i j => V.int (i % j)) (tVar 2) (tC (V.int 2147483629)))
                      (tOp (rI CMul fun i j => V.int (i * j))
                        (tOp (rI CMul fun i j => V.int (i * j)) (tC (V.int 104729)) (tVar 1)) (tVar 1)))
                    (tC (V.int 11)))
                  (tC (V.int 3)))
                (tC (V.int 2147483647)))
              (gName 3))
            (tSeq
              (tIfS
                (tTest
                  (tOp (rI0 fun i j => V.bl (decide (i < j))) (tVar 2)
                    (tOp (rI CPow fun i j => V.int (i ^ j.toNat)) (tC (V.int 10)) (tC (V.int 18)))))
                (tAsg (tC (V.int 0)) (gName 2)) tNext)
              (tRet (tLst (tCons (tVar 2) (tCons (tVar 3) tNil))))) { nx := fun x H' => Q V.non H', rt := Q } [some (.ref a), some (.int i), some (.int c), none] H := fun c => by
        have z0 : 0 ≤ c % 2147483629 := Int.emod_nonneg _ (by decide)
        have z1 : c % 2147483629 < 2147483629 := Int.emod_lt_of_pos _ (by decide)
        have m0 : 0 ≤ i * i := Int.mul_nonneg h0 h0
        have m1 : i * i < 1000000 := by
          have : i * i ≤ 999 * 999 := Int.mul_le_mul (by omega) (by omega) h0 (by decide)
          omega
        have ea : 104729 * i * i = 104729 * (i * i) := Int.mul_assoc _ _ _
        refine ⟨_, rfl, _, _, rfl, rfl, (by show (0 : Int) < 2147483629; decide), _, rfl, _, _, rfl, rfl, .inl ⟨by decide, by decide⟩, _, rfl, _, _, rfl, rfl, .inr ⟨by omega, by omega⟩, _, _, rfl, rfl, _, _, rfl, rfl, _, _, rfl, rfl, ⟨by decide, by decide, by omega⟩, _, _, rfl, rfl, (by show (0 : Int) < 2147483647; decide), ?_⟩
        have y0 : 0 ≤ ((c % 2147483629 + 104729 * i * i + 11) ^ (3 : Int).toNat) % 2147483647 := Int.emod_nonneg _ (by decide)
        have y1 : ((c % 2147483629 + 104729 * i * i + 11) ^ (3 : Int).toNat) % 2147483647 < 2147483647 := Int.emod_lt_of_pos _ (by decide)
        refine ⟨_, rfl, _, _, rfl, rfl, ⟨by decide, by decide, by decide⟩, _, _, rfl, rfl, _, rfl, ?_⟩
        refine ite2 (fun _ => ?_) (fun _ => ?_)
        · exact ⟨_, rfl, _, rfl, (by show 2 ≤ sizeLine; decide), fun p hp => k p _ hp (Same.new hp) ⟨_, _, upd_same, y0, y1⟩⟩
        · exact ⟨_, rfl, _, rfl, (by show 2 ≤ sizeLine; decide), fun p hp => k p _ hp (Same.new hp) ⟨_, _, upd_same, y0, y1⟩⟩
    refine ⟨_, rfl, _, rfl, _, _, rfl, .inl ha, _, _, rfl, rfl, _, rfl, ?_⟩
    refine ite2 (fun q => ?_) (fun _ => go 0)
    have hl : i < (ns.length : Int) := by
      have q := of_decide_eq_true q
      rw [List.length_map] at q
      exact q
    obtain ⟨j, rfl⟩ : ∃ j : Nat, i = (j : Int) := ⟨i.toNat, by omega⟩
    have hj : j < ns.length := by omega
    refine ⟨_, rfl, _, rfl, _, _, _, _, rfl, rfl, ha, atI_nat (by rw [List.getElem?_map, List.getElem?_eq_getElem hj]; rfl), go _⟩
theorem sc_law_take : FnScope ["_law_pool_here", "_law_many", "_law_found"] ["_law_pool_here", "_law_many"] (defScope s_law_take) := ⟨rfl, rfl, rfl, by decide +kernel, rfl, by decide +kernel, by decide +kernel⟩
theorem ok_law_take {f : Addr} {fd : FuncData} (F : Fun K "_law_take" "_law_take" s_law_take f fd) (T : Txt K mg C_Bare C_Full C_NoBack C_NoDeed C_NoEnd C_NoFold C_NoGiven C_NoMachine C_NoMark C_NoName C_NoNumber C_NoPairs C_NoRow C_NoSeam C_NoSign C_NoStep C_NoText C_NoThing C_NoTree C_NoWords C_Taken C_TooMany) : FnOk P w K mg base CX0 1 f fd ["_law_pool_here", "_law_many"] (sp_law_take) := by
  refine F.ok sc_law_take (fun vs H Q E h => ?_) (fun cdv A outer s H vs Q E hr h => ?_)
  · obtain ⟨p, m, rfl, _⟩ := h
    all_goals rfl
  · obtain ⟨p, m, rfl, hp, h0, h1, k⟩ := h
    refine ⟨_, (pss_cons (ps_if (pt_cmpR op_gt (pe_ix (ix_listK (K := K)) (pv 0) pe_int (fun _ _ => rfl)) pe_int (nomark _)) (pss_cons (ps_set (i := 2) sc_law_take.nd rfl (Or.inl rfl) (pe_op op_mod (pe_ix (ix_listK (K := K)) (pv 0) pe_int (fun _ _ => rfl)) (pv 1)))
    (pss_cons (ps_asg (pe_op op_fdivW (pe_ix (ix_listK (K := K)) (pv 0) pe_int (fun _ _ => rfl)) (pv 1)) (pg_sub (pv 0) pe_int set_list))
    (pss_one (ps_ret (pv 2))))) pss_nil)
    (pss_cons (ps_asg (pe_op op_mod (pe_op op_add (pe_op op_mul (pe_ix (ix_listK (K := K)) (pv 0) pe_int (fun _ _ => rfl)) pe_int) pe_int) pe_int) (pg_sub (pv 0) pe_int set_list))
    (pss_one (ps_ret (pe_op op_mod (pe_op op_fdiv (pe_op op_mod (pe_op op_mul (pe_ix (ix_listK (K := K)) (pv 0) pe_int (fun _ _ => rfl)) (pe_ix (ix_listK (K := K)) (pv 0) pe_int (fun _ _ => rfl))) pe_int) pe_int) (pv 1)))))), ?_⟩
    obtain ⟨c, n, hp, n0, n1⟩ := hp
    refine ⟨_, rfl, _, _, _, _, rfl, rfl, SqL.of hp, atI0, _, _, rfl, rfl, _, rfl, ?_⟩
    refine ite2 (fun _ => ?_) (fun _ => ?_)
    · refine ⟨_, rfl, _, _, _, _, rfl, rfl, SqL.of hp, atI0, _, rfl, _, _, rfl, rfl, h0, ?_⟩
      refine ⟨_, rfl, _, _, _, _, rfl, rfl, SqL.of hp, atI0, _, rfl, _, _, rfl, rfl, wide_div h0 (b := 64) (by omega) (by decide) (by decide), _, rfl, _, _, _, 0, rfl, rfl, hp, rfl, ?_⟩
      exact ⟨_, rfl, k _ _ (Int.emod_nonneg _ (by omega)) (Int.emod_lt_of_pos _ h0) (Off.upd (Off.refl _ _)) ⟨_, n, upd_same, n0, n1⟩⟩
    · refine ⟨_, rfl, _, _, _, _, rfl, rfl, SqL.of hp, atI1, _, _, rfl, rfl, .inr ⟨by decide, by decide⟩, _, _, rfl, rfl, _, _, rfl, rfl, (by show (0 : Int) < 2147483647; decide), _, rfl, _, _, _, 1, rfl, rfl, hp, rfl, ?_⟩
      have z0 : 0 ≤ (n * 48271 + 11) % 2147483647 := Int.emod_nonneg _ (by decide)
      have z1 : (n * 48271 + 11) % 2147483647 < 2147483647 := Int.emod_lt_of_pos _ (by decide)
      refine ⟨_, rfl, _, _, _, _, rfl, rfl, SqL.of upd_same, atI1, _, rfl, _, _, _, _, rfl, rfl, SqL.of upd_same, atI1, _, _, rfl, rfl, .inl ⟨by omega, by omega⟩, _, _, rfl, rfl, (by show (0 : Int) < 2147483629; decide), _, _, rfl, rfl, ⟨by decide, by decide⟩, _, rfl, _, _, rfl, rfl, h0, ?_⟩
      exact k _ _ (Int.emod_nonneg _ (by omega)) (Int.emod_lt_of_pos _ h0) (Off.upd (Off.refl _ _)) ⟨_, _, upd_same, z0, z1⟩
theorem sc_NoSign___init__ : FnScope ["self", "place"] ["self", "place"] (defScope s_NoSign___init__) := ⟨rfl, rfl, rfl, by decide +kernel, rfl, by decide +kernel, by decide +kernel⟩
theorem ok_NoSign___init__ {f : Addr} {fd : FuncData} (F : Fun K "__init__" "NoSign.__init__" s_NoSign___init__ f fd) (T : Txt K mg C_Bare C_Full C_NoBack C_NoDeed C_NoEnd C_NoFold C_NoGiven C_NoMachine C_NoMark C_NoName C_NoNumber C_NoPairs C_NoRow C_NoSeam C_NoSign C_NoStep C_NoText C_NoThing C_NoTree C_NoWords C_Taken C_TooMany) : FnOk P w K mg base CX0 1 f fd ["self", "place"] (sp_NoSign___init__ C_NoSign) := by
  refine F.ok sc_NoSign___init__ (fun vs H Q E h => ?_) (fun cdv A outer s H vs Q E hr h => ?_)
  · obtain ⟨a, v, rfl, _⟩ := h
    all_goals rfl
  · obtain ⟨a, v, rfl, ha, k⟩ := h
    refine ⟨_, (pss_cons (ps_expr (pe_xi (B := "ValueError") (ni := "ValueError.__new__") (ii := "ValueError.__init__") (bm := [.type "ValueError", .type "Exception", .type "BaseException", .type "object"]) rfl T.b_ValueError (by rfl) (by decide) (by decide) (by kernel_rfl) T.v_ValueError (pa_cons (pv 0) (pa_cons pe_str pa_nil))))
    (pss_one (ps_xs (B := "ValueError") (ni := "ValueError.__new__") (ii := "ValueError.__init__") (bm := [.type "ValueError", .type "Exception", .type "BaseException", .type "object"]) (pv 0) (pv 1)))), ?_⟩
    refine ⟨_, rfl, a, C_NoSign, [_], rfl, (by show 1 ≤ 1000; decide), T.x_NoSign.xi, ha, ?_⟩
    exact ⟨_, rfl, _, rfl, a, C_NoSign, rfl, T.x_NoSign.xi, taker_none T.y_NoSign_place, .inl ⟨ha, fun d hd ne => k d _ (offx hd) (by rw [upd_ne ne.symm, upd_same]) upd_same⟩⟩
theorem sc_NoTree___init__ : FnScope ["self", "place"] ["self", "place"] (defScope s_NoTree___init__) := ⟨rfl, rfl, rfl, by decide +kernel, rfl, by decide +kernel, by decide +kernel⟩
theorem ok_NoTree___init__ {f : Addr} {fd : FuncData} (F : Fun K "__init__" "NoTree.__init__" s_NoTree___init__ f fd) (T : Txt K mg C_Bare C_Full C_NoBack C_NoDeed C_NoEnd C_NoFold C_NoGiven C_NoMachine C_NoMark C_NoName C_NoNumber C_NoPairs C_NoRow C_NoSeam C_NoSign C_NoStep C_NoText C_NoThing C_NoTree C_NoWords C_Taken C_TooMany) : FnOk P w K mg base CX0 1 f fd ["self", "place"] (sp_NoTree___init__ C_NoTree) := by
  refine F.ok sc_NoTree___init__ (fun vs H Q E h => ?_) (fun cdv A outer s H vs Q E hr h => ?_)
  · obtain ⟨a, v, rfl, _⟩ := h
    all_goals rfl
  · obtain ⟨a, v, rfl, ha, k⟩ := h
    refine ⟨_, (pss_cons (ps_expr (pe_xi (B := "ValueError") (ni := "ValueError.__new__") (ii := "ValueError.__init__") (bm := [.type "ValueError", .type "Exception", .type "BaseException", .type "object"]) rfl T.b_ValueError (by rfl) (by decide) (by decide) (by kernel_rfl) T.v_ValueError (pa_cons (pv 0) (pa_cons pe_str pa_nil))))
    (pss_one (ps_xs (B := "ValueError") (ni := "ValueError.__new__") (ii := "ValueError.__init__") (bm := [.type "ValueError", .type "Exception", .type "BaseException", .type "object"]) (pv 0) (pv 1)))), ?_⟩
    refine ⟨_, rfl, a, C_NoTree, [_], rfl, (by show 1 ≤ 1000; decide), T.x_NoTree.xi, ha, ?_⟩
    exact ⟨_, rfl, _, rfl, a, C_NoTree, rfl, T.x_NoTree.xi, taker_none T.y_NoTree_place, .inl ⟨ha, fun d hd ne => k d _ (offx hd) (by rw [upd_ne ne.symm, upd_same]) upd_same⟩⟩
theorem sc_NoGiven___init__ : FnScope ["self", "number"] ["self", "number"] (defScope s_NoGiven___init__) := ⟨rfl, rfl, rfl, by decide +kernel, rfl, by decide +kernel, by decide +kernel⟩
theorem ok_NoGiven___init__ {f : Addr} {fd : FuncData} (F : Fun K "__init__" "NoGiven.__init__" s_NoGiven___init__ f fd) (T : Txt K mg C_Bare C_Full C_NoBack C_NoDeed C_NoEnd C_NoFold C_NoGiven C_NoMachine C_NoMark C_NoName C_NoNumber C_NoPairs C_NoRow C_NoSeam C_NoSign C_NoStep C_NoText C_NoThing C_NoTree C_NoWords C_Taken C_TooMany) : FnOk P w K mg base CX0 1 f fd ["self", "number"] (sp_NoGiven___init__ C_NoGiven) := by
  refine F.ok sc_NoGiven___init__ (fun vs H Q E h => ?_) (fun cdv A outer s H vs Q E hr h => ?_)
  · obtain ⟨a, v, rfl, _⟩ := h
    all_goals rfl
  · obtain ⟨a, v, rfl, ha, k⟩ := h
    refine ⟨_, (pss_cons (ps_expr (pe_xi (B := "ValueError") (ni := "ValueError.__new__") (ii := "ValueError.__init__") (bm := [.type "ValueError", .type "Exception", .type "BaseException", .type "object"]) rfl T.b_ValueError (by rfl) (by decide) (by decide) (by kernel_rfl) T.v_ValueError (pa_cons (pv 0) (pa_cons pe_str pa_nil))))
    (pss_one (ps_xs (B := "ValueError") (ni := "ValueError.__new__") (ii := "ValueError.__init__") (bm := [.type "ValueError", .type "Exception", .type "BaseException", .type "object"]) (pv 0) (pv 1)))), ?_⟩
    refine ⟨_, rfl, a, C_NoGiven, [_], rfl, (by show 1 ≤ 1000; decide), T.x_NoGiven.xi, ha, ?_⟩
    exact ⟨_, rfl, _, rfl, a, C_NoGiven, rfl, T.x_NoGiven.xi, taker_none T.y_NoGiven_number, .inl ⟨ha, fun d hd ne => k d _ (offx hd) (by rw [upd_ne ne.symm, upd_same]) upd_same⟩⟩
theorem sc_NoPairs___init__ : FnScope ["self", "number"] ["self", "number"] (defScope s_NoPairs___init__) := ⟨rfl, rfl, rfl, by decide +kernel, rfl, by decide +kernel, by decide +kernel⟩
theorem ok_NoPairs___init__ {f : Addr} {fd : FuncData} (F : Fun K "__init__" "NoPairs.__init__" s_NoPairs___init__ f fd) (T : Txt K mg C_Bare C_Full C_NoBack C_NoDeed C_NoEnd C_NoFold C_NoGiven C_NoMachine C_NoMark C_NoName C_NoNumber C_NoPairs C_NoRow C_NoSeam C_NoSign C_NoStep C_NoText C_NoThing C_NoTree C_NoWords C_Taken C_TooMany) : FnOk P w K mg base CX0 1 f fd ["self", "number"] (sp_NoPairs___init__ C_NoPairs) := by
  refine F.ok sc_NoPairs___init__ (fun vs H Q E h => ?_) (fun cdv A outer s H vs Q E hr h => ?_)
  · obtain ⟨a, v, rfl, _⟩ := h
    all_goals rfl
  · obtain ⟨a, v, rfl, ha, k⟩ := h
    refine ⟨_, (pss_cons (ps_expr (pe_xi (B := "ValueError") (ni := "ValueError.__new__") (ii := "ValueError.__init__") (bm := [.type "ValueError", .type "Exception", .type "BaseException", .type "object"]) rfl T.b_ValueError (by rfl) (by decide) (by decide) (by kernel_rfl) T.v_ValueError (pa_cons (pv 0) (pa_cons pe_str pa_nil))))
    (pss_one (ps_xs (B := "ValueError") (ni := "ValueError.__new__") (ii := "ValueError.__init__") (bm := [.type "ValueError", .type "Exception", .type "BaseException", .type "object"]) (pv 0) (pv 1)))), ?_⟩
    refine ⟨_, rfl, a, C_NoPairs, [_], rfl, (by show 1 ≤ 1000; decide), T.x_NoPairs.xi, ha, ?_⟩
    exact ⟨_, rfl, _, rfl, a, C_NoPairs, rfl, T.x_NoPairs.xi, taker_none T.y_NoPairs_number, .inl ⟨ha, fun d hd ne => k d _ (offx hd) (by rw [upd_ne ne.symm, upd_same]) upd_same⟩⟩
theorem sc_NoMachine___init__ : FnScope ["self", "number"] ["self", "number"] (defScope s_NoMachine___init__) := ⟨rfl, rfl, rfl, by decide +kernel, rfl, by decide +kernel, by decide +kernel⟩
theorem ok_NoMachine___init__ {f : Addr} {fd : FuncData} (F : Fun K "__init__" "NoMachine.__init__" s_NoMachine___init__ f fd) (T : Txt K mg C_Bare C_Full C_NoBack C_NoDeed C_NoEnd C_NoFold C_NoGiven C_NoMachine C_NoMark C_NoName C_NoNumber C_NoPairs C_NoRow C_NoSeam C_NoSign C_NoStep C_NoText C_NoThing C_NoTree C_NoWords C_Taken C_TooMany) : FnOk P w K mg base CX0 1 f fd ["self", "number"] (sp_NoMachine___init__ C_NoMachine) := by
  refine F.ok sc_NoMachine___init__ (fun vs H Q E h => ?_) (fun cdv A outer s H vs Q E hr h => ?_)
  · obtain ⟨a, v, rfl, _⟩ := h
    all_goals rfl
  · obtain ⟨a, v, rfl, ha, k⟩ := h
    refine ⟨_, (pss_cons (ps_expr (pe_xi (B := "ValueError") (ni := "ValueError.__new__") (ii := "ValueError.__init__") (bm := [.type "ValueError", .type "Exception", .type "BaseException", .type "object"]) rfl T.b_ValueError (by rfl) (by decide) (by decide) (by kernel_rfl) T.v_ValueError (pa_cons (pv 0) (pa_cons pe_str pa_nil))))
    (pss_one (ps_xs (B := "ValueError") (ni := "ValueError.__new__") (ii := "ValueError.__init__") (bm := [.type "ValueError", .type "Exception", .type "BaseException", .type "object"]) (pv 0) (pv 1)))), ?_⟩
    refine ⟨_, rfl, a, C_NoMachine, [_], rfl, (by show 1 ≤ 1000; decide), T.x_NoMachine.xi, ha, ?_⟩
    exact ⟨_, rfl, _, rfl, a, C_NoMachine, rfl, T.x_NoMachine.xi, taker_none T.y_NoMachine_number, .inl ⟨ha, fun d hd ne => k d _ (offx hd) (by rw [upd_ne ne.symm, upd_same]) upd_same⟩⟩
theorem sc_NoDeed___init__ : FnScope ["self", "deed"] ["self", "deed"] (defScope s_NoDeed___init__) := ⟨rfl, rfl, rfl, by decide +kernel, rfl, by decide +kernel, by decide +kernel⟩
theorem ok_NoDeed___init__ {f : Addr} {fd : FuncData} (F : Fun K "__init__" "NoDeed.__init__" s_NoDeed___init__ f fd) (T : Txt K mg C_Bare C_Full C_NoBack C_NoDeed C_NoEnd C_NoFold C_NoGiven C_NoMachine C_NoMark C_NoName C_NoNumber C_NoPairs C_NoRow C_NoSeam C_NoSign C_NoStep C_NoText C_NoThing C_NoTree C_NoWords C_Taken C_TooMany) : FnOk P w K mg base CX0 1 f fd ["self", "deed"] (sp_NoDeed___init__ C_NoDeed) := by
  refine F.ok sc_NoDeed___init__ (fun vs H Q E h => ?_) (fun cdv A outer s H vs Q E hr h => ?_)
  · obtain ⟨a, v, rfl, _⟩ := h
    all_goals rfl
  · obtain ⟨a, v, rfl, ha, k⟩ := h
    refine ⟨_, (pss_cons (ps_expr (pe_xi (B := "KeyError") (ni := "LookupError.__new__") (ii := "KeyError.__init__") (bm := [.type "KeyError", .type "LookupError", .type "Exception", .type "BaseException", .type "object"]) rfl T.b_KeyError (by rfl) (by decide) (by decide) (by kernel_rfl) T.v_KeyError (pa_cons (pv 0) (pa_cons pe_str pa_nil))))
    (pss_one (ps_xs (B := "KeyError") (ni := "LookupError.__new__") (ii := "KeyError.__init__") (bm := [.type "KeyError", .type "LookupError", .type "Exception", .type "BaseException", .type "object"]) (pv 0) (pv 1)))), ?_⟩
    refine ⟨_, rfl, a, C_NoDeed, [_], rfl, (by show 1 ≤ 1000; decide), T.x_NoDeed.xi, ha, ?_⟩
    exact ⟨_, rfl, _, rfl, a, C_NoDeed, rfl, T.x_NoDeed.xi, taker_none T.y_NoDeed_deed, .inl ⟨ha, fun d hd ne => k d _ (offx hd) (by rw [upd_ne ne.symm, upd_same]) upd_same⟩⟩
theorem sc_NoMark___init__ : FnScope ["self", "name"] ["self", "name"] (defScope s_NoMark___init__) := ⟨rfl, rfl, rfl, by decide +kernel, rfl, by decide +kernel, by decide +kernel⟩
theorem ok_NoMark___init__ {f : Addr} {fd : FuncData} (F : Fun K "__init__" "NoMark.__init__" s_NoMark___init__ f fd) (T : Txt K mg C_Bare C_Full C_NoBack C_NoDeed C_NoEnd C_NoFold C_NoGiven C_NoMachine C_NoMark C_NoName C_NoNumber C_NoPairs C_NoRow C_NoSeam C_NoSign C_NoStep C_NoText C_NoThing C_NoTree C_NoWords C_Taken C_TooMany) : FnOk P w K mg base CX0 1 f fd ["self", "name"] (sp_NoMark___init__ C_NoMark) := by
  refine F.ok sc_NoMark___init__ (fun vs H Q E h => ?_) (fun cdv A outer s H vs Q E hr h => ?_)
  · obtain ⟨a, v, rfl, _⟩ := h
    all_goals rfl
  · obtain ⟨a, v, rfl, ha, k⟩ := h
    refine ⟨_, (pss_cons (ps_expr (pe_xi (B := "KeyError") (ni := "LookupError.__new__") (ii := "KeyError.__init__") (bm := [.type "KeyError", .type "LookupError", .type "Exception", .type "BaseException", .type "object"]) rfl T.b_KeyError (by rfl) (by decide) (by decide) (by kernel_rfl) T.v_KeyError (pa_cons (pv 0) (pa_cons pe_str pa_nil))))
    (pss_one (ps_xs (B := "KeyError") (ni := "LookupError.__new__") (ii := "KeyError.__init__") (bm := [.type "KeyError", .type "LookupError", .type "Exception", .type "BaseException", .type "object"]) (pv 0) (pv 1)))), ?_⟩
    refine ⟨_, rfl, a, C_NoMark, [_], rfl, (by show 1 ≤ 1000; decide), T.x_NoMark.xi, ha, ?_⟩
    exact ⟨_, rfl, _, rfl, a, C_NoMark, rfl, T.x_NoMark.xi, taker_none T.y_NoMark_name, .inl ⟨ha, fun d hd ne => k d _ (offx hd) (by rw [upd_ne ne.symm, upd_same]) upd_same⟩⟩
theorem sc_NoName___init__ : FnScope ["self", "name"] ["self", "name"] (defScope s_NoName___init__) := ⟨rfl, rfl, rfl, by decide +kernel, rfl, by decide +kernel, by decide +kernel⟩
theorem ok_NoName___init__ {f : Addr} {fd : FuncData} (F : Fun K "__init__" "NoName.__init__" s_NoName___init__ f fd) (T : Txt K mg C_Bare C_Full C_NoBack C_NoDeed C_NoEnd C_NoFold C_NoGiven C_NoMachine C_NoMark C_NoName C_NoNumber C_NoPairs C_NoRow C_NoSeam C_NoSign C_NoStep C_NoText C_NoThing C_NoTree C_NoWords C_Taken C_TooMany) : FnOk P w K mg base CX0 1 f fd ["self", "name"] (sp_NoName___init__ C_NoName) := by
  refine F.ok sc_NoName___init__ (fun vs H Q E h => ?_) (fun cdv A outer s H vs Q E hr h => ?_)
  · obtain ⟨a, v, rfl, _⟩ := h
    all_goals rfl
  · obtain ⟨a, v, rfl, ha, k⟩ := h
    refine ⟨_, (pss_cons (ps_expr (pe_xi (B := "KeyError") (ni := "LookupError.__new__") (ii := "KeyError.__init__") (bm := [.type "KeyError", .type "LookupError", .type "Exception", .type "BaseException", .type "object"]) rfl T.b_KeyError (by rfl) (by decide) (by decide) (by kernel_rfl) T.v_KeyError (pa_cons (pv 0) (pa_cons pe_str pa_nil))))
    (pss_one (ps_xs (B := "KeyError") (ni := "LookupError.__new__") (ii := "KeyError.__init__") (bm := [.type "KeyError", .type "LookupError", .type "Exception", .type "BaseException", .type "object"]) (pv 0) (pv 1)))), ?_⟩
    refine ⟨_, rfl, a, C_NoName, [_], rfl, (by show 1 ≤ 1000; decide), T.x_NoName.xi, ha, ?_⟩
    exact ⟨_, rfl, _, rfl, a, C_NoName, rfl, T.x_NoName.xi, taker_none T.y_NoName_name, .inl ⟨ha, fun d hd ne => k d _ (offx hd) (by rw [upd_ne ne.symm, upd_same]) upd_same⟩⟩
theorem sc_NoEnd___init__ : FnScope ["self", "place"] ["self", "place"] (defScope s_NoEnd___init__) := ⟨rfl, rfl, rfl, by decide +kernel, rfl, by decide +kernel, by decide +kernel⟩
theorem ok_NoEnd___init__ {f : Addr} {fd : FuncData} (F : Fun K "__init__" "NoEnd.__init__" s_NoEnd___init__ f fd) (T : Txt K mg C_Bare C_Full C_NoBack C_NoDeed C_NoEnd C_NoFold C_NoGiven C_NoMachine C_NoMark C_NoName C_NoNumber C_NoPairs C_NoRow C_NoSeam C_NoSign C_NoStep C_NoText C_NoThing C_NoTree C_NoWords C_Taken C_TooMany) : FnOk P w K mg base CX0 1 f fd ["self", "place"] (sp_NoEnd___init__ C_NoEnd) := by
  refine F.ok sc_NoEnd___init__ (fun vs H Q E h => ?_) (fun cdv A outer s H vs Q E hr h => ?_)
  · obtain ⟨a, v, rfl, _⟩ := h
    all_goals rfl
  · obtain ⟨a, v, rfl, ha, k⟩ := h
    refine ⟨_, (pss_cons (ps_expr (pe_xi (B := "KeyError") (ni := "LookupError.__new__") (ii := "KeyError.__init__") (bm := [.type "KeyError", .type "LookupError", .type "Exception", .type "BaseException", .type "object"]) rfl T.b_KeyError (by rfl) (by decide) (by decide) (by kernel_rfl) T.v_KeyError (pa_cons (pv 0) (pa_cons pe_str pa_nil))))
    (pss_one (ps_xs (B := "KeyError") (ni := "LookupError.__new__") (ii := "KeyError.__init__") (bm := [.type "KeyError", .type "LookupError", .type "Exception", .type "BaseException", .type "object"]) (pv 0) (pv 1)))), ?_⟩
    refine ⟨_, rfl, a, C_NoEnd, [_], rfl, (by show 1 ≤ 1000; decide), T.x_NoEnd.xi, ha, ?_⟩
    exact ⟨_, rfl, _, rfl, a, C_NoEnd, rfl, T.x_NoEnd.xi, taker_none T.y_NoEnd_place, .inl ⟨ha, fun d hd ne => k d _ (offx hd) (by rw [upd_ne ne.symm, upd_same]) upd_same⟩⟩
theorem sc_NoThing___init__ : FnScope ["self", "thing"] ["self", "thing"] (defScope s_NoThing___init__) := ⟨rfl, rfl, rfl, by decide +kernel, rfl, by decide +kernel, by decide +kernel⟩
theorem ok_NoThing___init__ {f : Addr} {fd : FuncData} (F : Fun K "__init__" "NoThing.__init__" s_NoThing___init__ f fd) (T : Txt K mg C_Bare C_Full C_NoBack C_NoDeed C_NoEnd C_NoFold C_NoGiven C_NoMachine C_NoMark C_NoName C_NoNumber C_NoPairs C_NoRow C_NoSeam C_NoSign C_NoStep C_NoText C_NoThing C_NoTree C_NoWords C_Taken C_TooMany) : FnOk P w K mg base CX0 1 f fd ["self", "thing"] (sp_NoThing___init__ C_NoThing) := by
  refine F.ok sc_NoThing___init__ (fun vs H Q E h => ?_) (fun cdv A outer s H vs Q E hr h => ?_)
  · obtain ⟨a, v, rfl, _⟩ := h
    all_goals rfl
  · obtain ⟨a, v, rfl, ha, k⟩ := h
    refine ⟨_, (pss_cons (ps_expr (pe_xi (B := "IndexError") (ni := "IndexError.__new__") (ii := "IndexError.__init__") (bm := [.type "IndexError", .type "LookupError", .type "Exception", .type "BaseException", .type "object"]) rfl T.b_IndexError (by rfl) (by decide) (by decide) (by kernel_rfl) T.v_IndexError (pa_cons (pv 0) (pa_cons pe_str pa_nil))))
    (pss_one (ps_xs (B := "IndexError") (ni := "IndexError.__new__") (ii := "IndexError.__init__") (bm := [.type "IndexError", .type "LookupError", .type "Exception", .type "BaseException", .type "object"]) (pv 0) (pv 1)))), ?_⟩
    refine ⟨_, rfl, a, C_NoThing, [_], rfl, (by show 1 ≤ 1000; decide), T.x_NoThing.xi, ha, ?_⟩
    exact ⟨_, rfl, _, rfl, a, C_NoThing, rfl, T.x_NoThing.xi, taker_none T.y_NoThing_thing, .inl ⟨ha, fun d hd ne => k d _ (offx hd) (by rw [upd_ne ne.symm, upd_same]) upd_same⟩⟩
theorem sc_NoNumber___init__ : FnScope ["self", "number"] ["self", "number"] (defScope s_NoNumber___init__) := ⟨rfl, rfl, rfl, by decide +kernel, rfl, by decide +kernel, by decide +kernel⟩
theorem ok_NoNumber___init__ {f : Addr} {fd : FuncData} (F : Fun K "__init__" "NoNumber.__init__" s_NoNumber___init__ f fd) (T : Txt K mg C_Bare C_Full C_NoBack C_NoDeed C_NoEnd C_NoFold C_NoGiven C_NoMachine C_NoMark C_NoName C_NoNumber C_NoPairs C_NoRow C_NoSeam C_NoSign C_NoStep C_NoText C_NoThing C_NoTree C_NoWords C_Taken C_TooMany) : FnOk P w K mg base CX0 1 f fd ["self", "number"] (sp_NoNumber___init__ C_NoNumber) := by
  refine F.ok sc_NoNumber___init__ (fun vs H Q E h => ?_) (fun cdv A outer s H vs Q E hr h => ?_)
  · obtain ⟨a, v, rfl, _⟩ := h
    all_goals rfl
  · obtain ⟨a, v, rfl, ha, k⟩ := h
    refine ⟨_, (pss_cons (ps_expr (pe_xi (B := "LookupError") (ni := "LookupError.__new__") (ii := "LookupError.__init__") (bm := [.type "LookupError", .type "Exception", .type "BaseException", .type "object"]) rfl T.b_LookupError (by rfl) (by decide) (by decide) (by kernel_rfl) T.v_LookupError (pa_cons (pv 0) (pa_cons pe_str pa_nil))))
    (pss_one (ps_xs (B := "LookupError") (ni := "LookupError.__new__") (ii := "LookupError.__init__") (bm := [.type "LookupError", .type "Exception", .type "BaseException", .type "object"]) (pv 0) (pv 1)))), ?_⟩
    refine ⟨_, rfl, a, C_NoNumber, [_], rfl, (by show 1 ≤ 1000; decide), T.x_NoNumber.xi, ha, ?_⟩
    exact ⟨_, rfl, _, rfl, a, C_NoNumber, rfl, T.x_NoNumber.xi, taker_none T.y_NoNumber_number, .inl ⟨ha, fun d hd ne => k d _ (offx hd) (by rw [upd_ne ne.symm, upd_same]) upd_same⟩⟩
theorem sc_NoStep___init__ : FnScope ["self", "number"] ["self", "number"] (defScope s_NoStep___init__) := ⟨rfl, rfl, rfl, by decide +kernel, rfl, by decide +kernel, by decide +kernel⟩
theorem ok_NoStep___init__ {f : Addr} {fd : FuncData} (F : Fun K "__init__" "NoStep.__init__" s_NoStep___init__ f fd) (T : Txt K mg C_Bare C_Full C_NoBack C_NoDeed C_NoEnd C_NoFold C_NoGiven C_NoMachine C_NoMark C_NoName C_NoNumber C_NoPairs C_NoRow C_NoSeam C_NoSign C_NoStep C_NoText C_NoThing C_NoTree C_NoWords C_Taken C_TooMany) : FnOk P w K mg base CX0 1 f fd ["self", "number"] (sp_NoStep___init__ C_NoStep) := by
  refine F.ok sc_NoStep___init__ (fun vs H Q E h => ?_) (fun cdv A outer s H vs Q E hr h => ?_)
  · obtain ⟨a, v, rfl, _⟩ := h
    all_goals rfl
  · obtain ⟨a, v, rfl, ha, k⟩ := h
    refine ⟨_, (pss_cons (ps_expr (pe_xi (B := "LookupError") (ni := "LookupError.__new__") (ii := "LookupError.__init__") (bm := [.type "LookupError", .type "Exception", .type "BaseException", .type "object"]) rfl T.b_LookupError (by rfl) (by decide) (by decide) (by kernel_rfl) T.v_LookupError (pa_cons (pv 0) (pa_cons pe_str pa_nil))))
    (pss_one (ps_xs (B := "LookupError") (ni := "LookupError.__new__") (ii := "LookupError.__init__") (bm := [.type "LookupError", .type "Exception", .type "BaseException", .type "object"]) (pv 0) (pv 1)))), ?_⟩
    refine ⟨_, rfl, a, C_NoStep, [_], rfl, (by show 1 ≤ 1000; decide), T.x_NoStep.xi, ha, ?_⟩
    exact ⟨_, rfl, _, rfl, a, C_NoStep, rfl, T.x_NoStep.xi, taker_none T.y_NoStep_number, .inl ⟨ha, fun d hd ne => k d _ (offx hd) (by rw [upd_ne ne.symm, upd_same]) upd_same⟩⟩
theorem sc_Bare___init__ : FnScope ["self", "deed", "thing"] ["self", "deed", "thing"] (defScope s_Bare___init__) := ⟨rfl, rfl, rfl, by decide +kernel, rfl, by decide +kernel, by decide +kernel⟩
theorem ok_Bare___init__ {f : Addr} {fd : FuncData} (F : Fun K "__init__" "Bare.__init__" s_Bare___init__ f fd) (T : Txt K mg C_Bare C_Full C_NoBack C_NoDeed C_NoEnd C_NoFold C_NoGiven C_NoMachine C_NoMark C_NoName C_NoNumber C_NoPairs C_NoRow C_NoSeam C_NoSign C_NoStep C_NoText C_NoThing C_NoTree C_NoWords C_Taken C_TooMany) : FnOk P w K mg base CX0 1 f fd ["self", "deed", "thing"] (sp_Bare___init__ C_Bare) := by
  refine F.ok sc_Bare___init__ (fun vs H Q E h => ?_) (fun cdv A outer s H vs Q E hr h => ?_)
  · obtain ⟨a, v, u, rfl, _⟩ := h
    all_goals rfl
  · obtain ⟨a, v, u, rfl, ha, k⟩ := h
    refine ⟨_, (pss_cons (ps_expr (pe_xi (B := "LookupError") (ni := "LookupError.__new__") (ii := "LookupError.__init__") (bm := [.type "LookupError", .type "Exception", .type "BaseException", .type "object"]) rfl T.b_LookupError (by rfl) (by decide) (by decide) (by kernel_rfl) T.v_LookupError (pa_cons (pv 0) (pa_cons pe_str pa_nil))))
    (pss_cons (ps_xs (B := "LookupError") (ni := "LookupError.__new__") (ii := "LookupError.__init__") (bm := [.type "LookupError", .type "Exception", .type "BaseException", .type "object"]) (pv 0) (pv 1))
    (pss_one (ps_xs (B := "LookupError") (ni := "LookupError.__new__") (ii := "LookupError.__init__") (bm := [.type "LookupError", .type "Exception", .type "BaseException", .type "object"]) (pv 0) (pv 2))))), ?_⟩
    refine ⟨_, rfl, a, C_Bare, [_], rfl, (by show 1 ≤ 1000; decide), T.x_Bare.xi, ha, ?_⟩
    refine ⟨_, rfl, _, rfl, a, C_Bare, rfl, T.x_Bare.xi, taker_none T.y_Bare_deed, .inl ⟨ha, fun d hd ne => ?_⟩⟩
    refine ⟨_, rfl, _, rfl, a, C_Bare, rfl, T.x_Bare.xi, taker_none T.y_Bare_thing, .inr ⟨d, _, (by rw [upd_ne ne.symm]; exact upd_same), upd_same, by show 1 ≤ 900; decide, k d _ (offx2 hd) (by rw [upd_ne ne.symm, upd_ne ne.symm, upd_same]) upd_same⟩⟩
theorem sc_NoSeam___init__ : FnScope ["self", "seam"] ["self", "seam"] (defScope s_NoSeam___init__) := ⟨rfl, rfl, rfl, by decide +kernel, rfl, by decide +kernel, by decide +kernel⟩
theorem ok_NoSeam___init__ {f : Addr} {fd : FuncData} (F : Fun K "__init__" "NoSeam.__init__" s_NoSeam___init__ f fd) (T : Txt K mg C_Bare C_Full C_NoBack C_NoDeed C_NoEnd C_NoFold C_NoGiven C_NoMachine C_NoMark C_NoName C_NoNumber C_NoPairs C_NoRow C_NoSeam C_NoSign C_NoStep C_NoText C_NoThing C_NoTree C_NoWords C_Taken C_TooMany) : FnOk P w K mg base CX0 1 f fd ["self", "seam"] (sp_NoSeam___init__ C_NoSeam) := by
  refine F.ok sc_NoSeam___init__ (fun vs H Q E h => ?_) (fun cdv A outer s H vs Q E hr h => ?_)
  · obtain ⟨a, v, rfl, _⟩ := h
    all_goals rfl
  · obtain ⟨a, v, rfl, ha, k⟩ := h
    refine ⟨_, (pss_cons (ps_expr (pe_xi (B := "LookupError") (ni := "LookupError.__new__") (ii := "LookupError.__init__") (bm := [.type "LookupError", .type "Exception", .type "BaseException", .type "object"]) rfl T.b_LookupError (by rfl) (by decide) (by decide) (by kernel_rfl) T.v_LookupError (pa_cons (pv 0) (pa_cons pe_str pa_nil))))
    (pss_one (ps_xs (B := "LookupError") (ni := "LookupError.__new__") (ii := "LookupError.__init__") (bm := [.type "LookupError", .type "Exception", .type "BaseException", .type "object"]) (pv 0) (pv 1)))), ?_⟩
    refine ⟨_, rfl, a, C_NoSeam, [_], rfl, (by show 1 ≤ 1000; decide), T.x_NoSeam.xi, ha, ?_⟩
    exact ⟨_, rfl, _, rfl, a, C_NoSeam, rfl, T.x_NoSeam.xi, taker_none T.y_NoSeam_seam, .inl ⟨ha, fun d hd ne => k d _ (offx hd) (by rw [upd_ne ne.symm, upd_same]) upd_same⟩⟩
theorem sc_NoBack___init__ : FnScope ["self", "many"] ["self", "many"] (defScope s_NoBack___init__) := ⟨rfl, rfl, rfl, by decide +kernel, rfl, by decide +kernel, by decide +kernel⟩
theorem ok_NoBack___init__ {f : Addr} {fd : FuncData} (F : Fun K "__init__" "NoBack.__init__" s_NoBack___init__ f fd) (T : Txt K mg C_Bare C_Full C_NoBack C_NoDeed C_NoEnd C_NoFold C_NoGiven C_NoMachine C_NoMark C_NoName C_NoNumber C_NoPairs C_NoRow C_NoSeam C_NoSign C_NoStep C_NoText C_NoThing C_NoTree C_NoWords C_Taken C_TooMany) : FnOk P w K mg base CX0 1 f fd ["self", "many"] (sp_NoBack___init__ C_NoBack) := by
  refine F.ok sc_NoBack___init__ (fun vs H Q E h => ?_) (fun cdv A outer s H vs Q E hr h => ?_)
  · obtain ⟨a, v, rfl, _⟩ := h
    all_goals rfl
  · obtain ⟨a, v, rfl, ha, k⟩ := h
    refine ⟨_, (pss_cons (ps_expr (pe_xi (B := "ArithmeticError") (ni := "ArithmeticError.__new__") (ii := "ArithmeticError.__init__") (bm := [.type "ArithmeticError", .type "Exception", .type "BaseException", .type "object"]) rfl T.b_ArithmeticError (by rfl) (by decide) (by decide) (by kernel_rfl) T.v_ArithmeticError (pa_cons (pv 0) (pa_cons pe_str pa_nil))))
    (pss_one (ps_xs (B := "ArithmeticError") (ni := "ArithmeticError.__new__") (ii := "ArithmeticError.__init__") (bm := [.type "ArithmeticError", .type "Exception", .type "BaseException", .type "object"]) (pv 0) (pv 1)))), ?_⟩
    refine ⟨_, rfl, a, C_NoBack, [_], rfl, (by show 1 ≤ 1000; decide), T.x_NoBack.xi, ha, ?_⟩
    exact ⟨_, rfl, _, rfl, a, C_NoBack, rfl, T.x_NoBack.xi, taker_none T.y_NoBack_many, .inl ⟨ha, fun d hd ne => k d _ (offx hd) (by rw [upd_ne ne.symm, upd_same]) upd_same⟩⟩
theorem sc_Taken___init__ : FnScope ["self", "deed", "thing"] ["self", "deed", "thing"] (defScope s_Taken___init__) := ⟨rfl, rfl, rfl, by decide +kernel, rfl, by decide +kernel, by decide +kernel⟩
theorem ok_Taken___init__ {f : Addr} {fd : FuncData} (F : Fun K "__init__" "Taken.__init__" s_Taken___init__ f fd) (T : Txt K mg C_Bare C_Full C_NoBack C_NoDeed C_NoEnd C_NoFold C_NoGiven C_NoMachine C_NoMark C_NoName C_NoNumber C_NoPairs C_NoRow C_NoSeam C_NoSign C_NoStep C_NoText C_NoThing C_NoTree C_NoWords C_Taken C_TooMany) : FnOk P w K mg base CX0 1 f fd ["self", "deed", "thing"] (sp_Taken___init__ C_Taken) := by
  refine F.ok sc_Taken___init__ (fun vs H Q E h => ?_) (fun cdv A outer s H vs Q E hr h => ?_)
  · obtain ⟨a, v, u, rfl, _⟩ := h
    all_goals rfl
  · obtain ⟨a, v, u, rfl, ha, k⟩ := h
    refine ⟨_, (pss_cons (ps_expr (pe_xi (B := "RuntimeError") (ni := "RuntimeError.__new__") (ii := "RuntimeError.__init__") (bm := [.type "RuntimeError", .type "Exception", .type "BaseException", .type "object"]) rfl T.b_RuntimeError (by rfl) (by decide) (by decide) (by kernel_rfl) T.v_RuntimeError (pa_cons (pv 0) (pa_cons pe_str pa_nil))))
    (pss_cons (ps_xs (B := "RuntimeError") (ni := "RuntimeError.__new__") (ii := "RuntimeError.__init__") (bm := [.type "RuntimeError", .type "Exception", .type "BaseException", .type "object"]) (pv 0) (pv 1))
    (pss_one (ps_xs (B := "RuntimeError") (ni := "RuntimeError.__new__") (ii := "RuntimeError.__init__") (bm := [.type "RuntimeError", .type "Exception", .type "BaseException", .type "object"]) (pv 0) (pv 2))))), ?_⟩
    refine ⟨_, rfl, a, C_Taken, [_], rfl, (by show 1 ≤ 1000; decide), T.x_Taken.xi, ha, ?_⟩
    refine ⟨_, rfl, _, rfl, a, C_Taken, rfl, T.x_Taken.xi, taker_none T.y_Taken_deed, .inl ⟨ha, fun d hd ne => ?_⟩⟩
    refine ⟨_, rfl, _, rfl, a, C_Taken, rfl, T.x_Taken.xi, taker_none T.y_Taken_thing, .inr ⟨d, _, (by rw [upd_ne ne.symm]; exact upd_same), upd_same, by show 1 ≤ 900; decide, k d _ (offx2 hd) (by rw [upd_ne ne.symm, upd_ne ne.symm, upd_same]) upd_same⟩⟩
theorem sc_NoFold___init__ : FnScope ["self", "one", "other"] ["self", "one", "other"] (defScope s_NoFold___init__) := ⟨rfl, rfl, rfl, by decide +kernel, rfl, by decide +kernel, by decide +kernel⟩
theorem ok_NoFold___init__ {f : Addr} {fd : FuncData} (F : Fun K "__init__" "NoFold.__init__" s_NoFold___init__ f fd) (T : Txt K mg C_Bare C_Full C_NoBack C_NoDeed C_NoEnd C_NoFold C_NoGiven C_NoMachine C_NoMark C_NoName C_NoNumber C_NoPairs C_NoRow C_NoSeam C_NoSign C_NoStep C_NoText C_NoThing C_NoTree C_NoWords C_Taken C_TooMany) : FnOk P w K mg base CX0 1 f fd ["self", "one", "other"] (sp_NoFold___init__ C_NoFold) := by
  refine F.ok sc_NoFold___init__ (fun vs H Q E h => ?_) (fun cdv A outer s H vs Q E hr h => ?_)
  · obtain ⟨a, v, u, rfl, _⟩ := h
    all_goals rfl
  · obtain ⟨a, v, u, rfl, ha, k⟩ := h
    refine ⟨_, (pss_cons (ps_expr (pe_xi (B := "RuntimeError") (ni := "RuntimeError.__new__") (ii := "RuntimeError.__init__") (bm := [.type "RuntimeError", .type "Exception", .type "BaseException", .type "object"]) rfl T.b_RuntimeError (by rfl) (by decide) (by decide) (by kernel_rfl) T.v_RuntimeError (pa_cons (pv 0) (pa_cons pe_str pa_nil))))
    (pss_cons (ps_xs (B := "RuntimeError") (ni := "RuntimeError.__new__") (ii := "RuntimeError.__init__") (bm := [.type "RuntimeError", .type "Exception", .type "BaseException", .type "object"]) (pv 0) (pv 1))
    (pss_one (ps_xs (B := "RuntimeError") (ni := "RuntimeError.__new__") (ii := "RuntimeError.__init__") (bm := [.type "RuntimeError", .type "Exception", .type "BaseException", .type "object"]) (pv 0) (pv 2))))), ?_⟩
    refine ⟨_, rfl, a, C_NoFold, [_], rfl, (by show 1 ≤ 1000; decide), T.x_NoFold.xi, ha, ?_⟩
    refine ⟨_, rfl, _, rfl, a, C_NoFold, rfl, T.x_NoFold.xi, taker_none T.y_NoFold_one, .inl ⟨ha, fun d hd ne => ?_⟩⟩
    refine ⟨_, rfl, _, rfl, a, C_NoFold, rfl, T.x_NoFold.xi, taker_none T.y_NoFold_other, .inr ⟨d, _, (by rw [upd_ne ne.symm]; exact upd_same), upd_same, by show 1 ≤ 900; decide, k d _ (offx2 hd) (by rw [upd_ne ne.symm, upd_ne ne.symm, upd_same]) upd_same⟩⟩
theorem sc_Full___init__ : FnScope ["self", "size"] ["self", "size"] (defScope s_Full___init__) := ⟨rfl, rfl, rfl, by decide +kernel, rfl, by decide +kernel, by decide +kernel⟩
theorem ok_Full___init__ {f : Addr} {fd : FuncData} (F : Fun K "__init__" "Full.__init__" s_Full___init__ f fd) (T : Txt K mg C_Bare C_Full C_NoBack C_NoDeed C_NoEnd C_NoFold C_NoGiven C_NoMachine C_NoMark C_NoName C_NoNumber C_NoPairs C_NoRow C_NoSeam C_NoSign C_NoStep C_NoText C_NoThing C_NoTree C_NoWords C_Taken C_TooMany) : FnOk P w K mg base CX0 1 f fd ["self", "size"] (sp_Full___init__ C_Full) := by
  refine F.ok sc_Full___init__ (fun vs H Q E h => ?_) (fun cdv A outer s H vs Q E hr h => ?_)
  · obtain ⟨a, v, rfl, _⟩ := h
    all_goals rfl
  · obtain ⟨a, v, rfl, ha, k⟩ := h
    refine ⟨_, (pss_cons (ps_expr (pe_xi (B := "OverflowError") (ni := "OverflowError.__new__") (ii := "OverflowError.__init__") (bm := [.type "OverflowError", .type "ArithmeticError", .type "Exception", .type "BaseException", .type "object"]) rfl T.b_OverflowError (by rfl) (by decide) (by decide) (by kernel_rfl) T.v_OverflowError (pa_cons (pv 0) (pa_cons pe_str pa_nil))))
    (pss_one (ps_xs (B := "OverflowError") (ni := "OverflowError.__new__") (ii := "OverflowError.__init__") (bm := [.type "OverflowError", .type "ArithmeticError", .type "Exception", .type "BaseException", .type "object"]) (pv 0) (pv 1)))), ?_⟩
    refine ⟨_, rfl, a, C_Full, [_], rfl, (by show 1 ≤ 1000; decide), T.x_Full.xi, ha, ?_⟩
    exact ⟨_, rfl, _, rfl, a, C_Full, rfl, T.x_Full.xi, taker_none T.y_Full_size, .inl ⟨ha, fun d hd ne => k d _ (offx hd) (by rw [upd_ne ne.symm, upd_same]) upd_same⟩⟩
theorem sc_TooMany___init__ : FnScope ["self", "many"] ["self", "many"] (defScope s_TooMany___init__) := ⟨rfl, rfl, rfl, by decide +kernel, rfl, by decide +kernel, by decide +kernel⟩
theorem ok_TooMany___init__ {f : Addr} {fd : FuncData} (F : Fun K "__init__" "TooMany.__init__" s_TooMany___init__ f fd) (T : Txt K mg C_Bare C_Full C_NoBack C_NoDeed C_NoEnd C_NoFold C_NoGiven C_NoMachine C_NoMark C_NoName C_NoNumber C_NoPairs C_NoRow C_NoSeam C_NoSign C_NoStep C_NoText C_NoThing C_NoTree C_NoWords C_Taken C_TooMany) : FnOk P w K mg base CX0 1 f fd ["self", "many"] (sp_TooMany___init__ C_TooMany) := by
  refine F.ok sc_TooMany___init__ (fun vs H Q E h => ?_) (fun cdv A outer s H vs Q E hr h => ?_)
  · obtain ⟨a, v, rfl, _⟩ := h
    all_goals rfl
  · obtain ⟨a, v, rfl, ha, k⟩ := h
    refine ⟨_, (pss_cons (ps_expr (pe_xi (B := "OverflowError") (ni := "OverflowError.__new__") (ii := "OverflowError.__init__") (bm := [.type "OverflowError", .type "ArithmeticError", .type "Exception", .type "BaseException", .type "object"]) rfl T.b_OverflowError (by rfl) (by decide) (by decide) (by kernel_rfl) T.v_OverflowError (pa_cons (pv 0) (pa_cons pe_str pa_nil))))
    (pss_one (ps_xs (B := "OverflowError") (ni := "OverflowError.__new__") (ii := "OverflowError.__init__") (bm := [.type "OverflowError", .type "ArithmeticError", .type "Exception", .type "BaseException", .type "object"]) (pv 0) (pv 1)))), ?_⟩
    refine ⟨_, rfl, a, C_TooMany, [_], rfl, (by show 1 ≤ 1000; decide), T.x_TooMany.xi, ha, ?_⟩
    exact ⟨_, rfl, _, rfl, a, C_TooMany, rfl, T.x_TooMany.xi, taker_none T.y_TooMany_many, .inl ⟨ha, fun d hd ne => k d _ (offx hd) (by rw [upd_ne ne.symm, upd_same]) upd_same⟩⟩
theorem sc_law_made : FnScope ["_law_which", "_law_one", "_law_other"] ["_law_which", "_law_one", "_law_other"] (defScope s_law_made) := ⟨rfl, rfl, rfl, by decide +kernel, rfl, by decide +kernel, by decide +kernel⟩
theorem ok_law_made {f : Addr} {fd : FuncData} (F : Fun K "_law_made" "_law_made" s_law_made f fd) (T : Txt K mg C_Bare C_Full C_NoBack C_NoDeed C_NoEnd C_NoFold C_NoGiven C_NoMachine C_NoMark C_NoName C_NoNumber C_NoPairs C_NoRow C_NoSeam C_NoSign C_NoStep C_NoText C_NoThing C_NoTree C_NoWords C_Taken C_TooMany) (kn_NoSign___init__ : KM P w K mg base CX0 1 ["self", "place"] (sp_NoSign___init__ C_NoSign) C_NoSign "__init__" []) (kn_NoTree___init__ : KM P w K mg base CX0 1 ["self", "place"] (sp_NoTree___init__ C_NoTree) C_NoTree "__init__" []) (kn_NoGiven___init__ : KM P w K mg base CX0 1 ["self", "number"] (sp_NoGiven___init__ C_NoGiven) C_NoGiven "__init__" []) (kn_NoPairs___init__ : KM P w K mg base CX0 1 ["self", "number"] (sp_NoPairs___init__ C_NoPairs) C_NoPairs "__init__" []) (kn_NoMachine___init__ : KM P w K mg base CX0 1 ["self", "number"] (sp_NoMachine___init__ C_NoMachine) C_NoMachine "__init__" []) (kn_NoDeed___init__ : KM P w K mg base CX0 1 ["self", "deed"] (sp_NoDeed___init__ C_NoDeed) C_NoDeed "__init__" []) (kn_NoMark___init__ : KM P w K mg base CX0 1 ["self", "name"] (sp_NoMark___init__ C_NoMark) C_NoMark "__init__" []) (kn_NoName___init__ : KM P w K mg base CX0 1 ["self", "name"] (sp_NoName___init__ C_NoName) C_NoName "__init__" []) (kn_NoEnd___init__ : KM P w K mg base CX0 1 ["self", "place"] (sp_NoEnd___init__ C_NoEnd) C_NoEnd "__init__" []) (kn_NoThing___init__ : KM P w K mg base CX0 1 ["self", "thing"] (sp_NoThing___init__ C_NoThing) C_NoThing "__init__" []) (kn_NoNumber___init__ : KM P w K mg base CX0 1 ["self", "number"] (sp_NoNumber___init__ C_NoNumber) C_NoNumber "__init__" []) (kn_NoStep___init__ : KM P w K mg base CX0 1 ["self", "number"] (sp_NoStep___init__ C_NoStep) C_NoStep "__init__" []) (kn_Bare___init__ : KM P w K mg base CX0 1 ["self", "deed", "thing"] (sp_Bare___init__ C_Bare) C_Bare "__init__" []) (kn_NoSeam___init__ : KM P w K mg base CX0 1 ["self", "seam"] (sp_NoSeam___init__ C_NoSeam) C_NoSeam "__init__" []) (kn_NoBack___init__ : KM P w K mg base CX0 1 ["self", "many"] (sp_NoBack___init__ C_NoBack) C_NoBack "__init__" []) (kn_Taken___init__ : KM P w K mg base CX0 1 ["self", "deed", "thing"] (sp_Taken___init__ C_Taken) C_Taken "__init__" []) (kn_NoFold___init__ : KM P w K mg base CX0 1 ["self", "one", "other"] (sp_NoFold___init__ C_NoFold) C_NoFold "__init__" []) (kn_Full___init__ : KM P w K mg base CX0 1 ["self", "size"] (sp_Full___init__ C_Full) C_Full "__init__" []) (kn_TooMany___init__ : KM P w K mg base CX0 1 ["self", "many"] (sp_TooMany___init__ C_TooMany) C_TooMany "__init__" []) : FnOk P w K mg base CX0 3 f fd ["_law_which", "_law_one", "_law_other"] (sp_law_made K C_NoRow C_NoText C_NoWords C_NoSign C_NoTree C_NoGiven C_NoPairs C_NoMachine C_NoDeed C_NoMark C_NoName C_NoEnd C_NoThing C_NoNumber C_NoStep C_Bare C_NoSeam C_NoBack C_Taken C_NoFold C_Full C_TooMany) := by
  obtain ⟨f_NoSign___init__, fd_NoSign___init__, ds_NoSign___init__, i_NoSign___init__, t_NoSign___init__, fn_NoSign___init__, k_NoSign___init__, v_NoSign___init__, b_NoSign___init__, G_NoSign___init__⟩ := kn_NoSign___init__
  obtain ⟨f_NoTree___init__, fd_NoTree___init__, ds_NoTree___init__, i_NoTree___init__, t_NoTree___init__, fn_NoTree___init__, k_NoTree___init__, v_NoTree___init__, b_NoTree___init__, G_NoTree___init__⟩ := kn_NoTree___init__
  obtain ⟨f_NoGiven___init__, fd_NoGiven___init__, ds_NoGiven___init__, i_NoGiven___init__, t_NoGiven___init__, fn_NoGiven___init__, k_NoGiven___init__, v_NoGiven___init__, b_NoGiven___init__, G_NoGiven___init__⟩ := kn_NoGiven___init__
  obtain ⟨f_NoPairs___init__, fd_NoPairs___init__, ds_NoPairs___init__, i_NoPairs___init__, t_NoPairs___init__, fn_NoPairs___init__, k_NoPairs___init__, v_NoPairs___init__, b_NoPairs___init__, G_NoPairs___init__⟩ := kn_NoPairs___init__
  obtain ⟨f_NoMachine___init__, fd_NoMachine___init__, ds_NoMachine___init__, i_NoMachine___init__, t_NoMachine___init__, fn_NoMachine___init__, k_NoMachine___init__, v_NoMachine___init__, b_NoMachine___init__, G_NoMachine___init__⟩ := kn_NoMachine___init__
  obtain ⟨f_NoDeed___init__, fd_NoDeed___init__, ds_NoDeed___init__, i_NoDeed___init__, t_NoDeed___init__, fn_NoDeed___init__, k_NoDeed___init__, v_NoDeed___init__, b_NoDeed___init__, G_NoDeed___init__⟩ := kn_NoDeed___init__
  obtain ⟨f_NoMark___init__, fd_NoMark___init__, ds_NoMark___init__, i_NoMark___init__, t_NoMark___init__, fn_NoMark___init__, k_NoMark___init__, v_NoMark___init__, b_NoMark___init__, G_NoMark___init__⟩ := kn_NoMark___init__
  obtain ⟨f_NoName___init__, fd_NoName___init__, ds_NoName___init__, i_NoName___init__, t_NoName___init__, fn_NoName___init__, k_NoName___init__, v_NoName___init__, b_NoName___init__, G_NoName___init__⟩ := kn_NoName___init__
  obtain ⟨f_NoEnd___init__, fd_NoEnd___init__, ds_NoEnd___init__, i_NoEnd___init__, t_NoEnd___init__, fn_NoEnd___init__, k_NoEnd___init__, v_NoEnd___init__, b_NoEnd___init__, G_NoEnd___init__⟩ := kn_NoEnd___init__
  obtain ⟨f_NoThing___init__, fd_NoThing___init__, ds_NoThing___init__, i_NoThing___init__, t_NoThing___init__, fn_NoThing___init__, k_NoThing___init__, v_NoThing___init__, b_NoThing___init__, G_NoThing___init__⟩ := kn_NoThing___init__
  obtain ⟨f_NoNumber___init__, fd_NoNumber___init__, ds_NoNumber___init__, i_NoNumber___init__, t_NoNumber___init__, fn_NoNumber___init__, k_NoNumber___init__, v_NoNumber___init__, b_NoNumber___init__, G_NoNumber___init__⟩ := kn_NoNumber___init__
  obtain ⟨f_NoStep___init__, fd_NoStep___init__, ds_NoStep___init__, i_NoStep___init__, t_NoStep___init__, fn_NoStep___init__, k_NoStep___init__, v_NoStep___init__, b_NoStep___init__, G_NoStep___init__⟩ := kn_NoStep___init__
  obtain ⟨f_Bare___init__, fd_Bare___init__, ds_Bare___init__, i_Bare___init__, t_Bare___init__, fn_Bare___init__, k_Bare___init__, v_Bare___init__, b_Bare___init__, G_Bare___init__⟩ := kn_Bare___init__
  obtain ⟨f_NoSeam___init__, fd_NoSeam___init__, ds_NoSeam___init__, i_NoSeam___init__, t_NoSeam___init__, fn_NoSeam___init__, k_NoSeam___init__, v_NoSeam___init__, b_NoSeam___init__, G_NoSeam___init__⟩ := kn_NoSeam___init__
  obtain ⟨f_NoBack___init__, fd_NoBack___init__, ds_NoBack___init__, i_NoBack___init__, t_NoBack___init__, fn_NoBack___init__, k_NoBack___init__, v_NoBack___init__, b_NoBack___init__, G_NoBack___init__⟩ := kn_NoBack___init__
  obtain ⟨f_Taken___init__, fd_Taken___init__, ds_Taken___init__, i_Taken___init__, t_Taken___init__, fn_Taken___init__, k_Taken___init__, v_Taken___init__, b_Taken___init__, G_Taken___init__⟩ := kn_Taken___init__
  obtain ⟨f_NoFold___init__, fd_NoFold___init__, ds_NoFold___init__, i_NoFold___init__, t_NoFold___init__, fn_NoFold___init__, k_NoFold___init__, v_NoFold___init__, b_NoFold___init__, G_NoFold___init__⟩ := kn_NoFold___init__
  obtain ⟨f_Full___init__, fd_Full___init__, ds_Full___init__, i_Full___init__, t_Full___init__, fn_Full___init__, k_Full___init__, v_Full___init__, b_Full___init__, G_Full___init__⟩ := kn_Full___init__
  obtain ⟨f_TooMany___init__, fd_TooMany___init__, ds_TooMany___init__, i_TooMany___init__, t_TooMany___init__, fn_TooMany___init__, k_TooMany___init__, v_TooMany___init__, b_TooMany___init__, G_TooMany___init__⟩ := kn_TooMany___init__
  refine F.ok sc_law_made (fun vs H Q E h => ?_) (fun cdv A outer s H vs Q E hr h => ?_)
  · obtain ⟨i, x, y, rfl, _⟩ := h
    all_goals rfl
  · obtain ⟨i, x, y, rfl, hi, k⟩ := h
    refine ⟨_, (pss_cons (ps_if (pt_cmpR op_lt (pv 0) pe_int (nomark _)) (pss_one (ps_ret (pe_ix (ix_listK (K := K)) (pe_lst (pa_cons (pe_exc1 PySem.F.excBase_ValueError T.x_NoRow.xC T.x_NoRow.gC T.x_NoRow.kC rfl pe_str) (pa_cons (pe_exc1 PySem.F.excBase_ValueError T.x_NoText.xC T.x_NoText.gC T.x_NoText.kC rfl pe_str) (pa_cons (pe_exc1 PySem.F.excBase_ValueError T.x_NoWords.xC T.x_NoWords.gC T.x_NoWords.kC rfl pe_str) (pa_cons (pe_xv T.x_NoSign.xi i_NoSign___init__ t_NoSign___init__ G_NoSign___init__ (hr.mono (by decide)) b_NoSign___init__ v_NoSign___init__ pass0 rfl T.x_NoSign.gC (pa_cons (pv 1) pa_nil)) (pa_cons (pe_xv T.x_NoTree.xi i_NoTree___init__ t_NoTree___init__ G_NoTree___init__ (hr.mono (by decide)) b_NoTree___init__ v_NoTree___init__ pass0 rfl T.x_NoTree.gC (pa_cons (pv 1) pa_nil)) pa_nil)))))) (pv 0) (fun _ _ => rfl)))) pss_nil)
    (pss_cons (ps_if (pt_cmpR op_lt (pv 0) pe_int (nomark _)) (pss_one (ps_ret (pe_ix (ix_listK (K := K)) (pe_lst (pa_cons (pe_xv T.x_NoGiven.xi i_NoGiven___init__ t_NoGiven___init__ G_NoGiven___init__ (hr.mono (by decide)) b_NoGiven___init__ v_NoGiven___init__ pass0 rfl T.x_NoGiven.gC (pa_cons (pv 1) pa_nil)) (pa_cons (pe_xv T.x_NoPairs.xi i_NoPairs___init__ t_NoPairs___init__ G_NoPairs___init__ (hr.mono (by decide)) b_NoPairs___init__ v_NoPairs___init__ pass0 rfl T.x_NoPairs.gC (pa_cons (pv 1) pa_nil)) (pa_cons (pe_xv T.x_NoMachine.xi i_NoMachine___init__ t_NoMachine___init__ G_NoMachine___init__ (hr.mono (by decide)) b_NoMachine___init__ v_NoMachine___init__ pass0 rfl T.x_NoMachine.gC (pa_cons (pv 1) pa_nil)) (pa_cons (pe_xv T.x_NoDeed.xi i_NoDeed___init__ t_NoDeed___init__ G_NoDeed___init__ (hr.mono (by decide)) b_NoDeed___init__ v_NoDeed___init__ pass0 rfl T.x_NoDeed.gC (pa_cons (pv 1) pa_nil)) (pa_cons (pe_xv T.x_NoMark.xi i_NoMark___init__ t_NoMark___init__ G_NoMark___init__ (hr.mono (by decide)) b_NoMark___init__ v_NoMark___init__ pass0 rfl T.x_NoMark.gC (pa_cons (pv 1) pa_nil)) pa_nil)))))) (pe_op op_sub (pv 0) pe_int) (fun _ _ => rfl)))) pss_nil)
    (pss_cons (ps_if (pt_cmpR op_lt (pv 0) pe_int (nomark _)) (pss_one (ps_ret (pe_ix (ix_listK (K := K)) (pe_lst (pa_cons (pe_xv T.x_NoName.xi i_NoName___init__ t_NoName___init__ G_NoName___init__ (hr.mono (by decide)) b_NoName___init__ v_NoName___init__ pass0 rfl T.x_NoName.gC (pa_cons (pv 1) pa_nil)) (pa_cons (pe_xv T.x_NoEnd.xi i_NoEnd___init__ t_NoEnd___init__ G_NoEnd___init__ (hr.mono (by decide)) b_NoEnd___init__ v_NoEnd___init__ pass0 rfl T.x_NoEnd.gC (pa_cons (pv 1) pa_nil)) (pa_cons (pe_xv T.x_NoThing.xi i_NoThing___init__ t_NoThing___init__ G_NoThing___init__ (hr.mono (by decide)) b_NoThing___init__ v_NoThing___init__ pass0 rfl T.x_NoThing.gC (pa_cons (pv 1) pa_nil)) (pa_cons (pe_xv T.x_NoNumber.xi i_NoNumber___init__ t_NoNumber___init__ G_NoNumber___init__ (hr.mono (by decide)) b_NoNumber___init__ v_NoNumber___init__ pass0 rfl T.x_NoNumber.gC (pa_cons (pv 1) pa_nil)) (pa_cons (pe_xv T.x_NoStep.xi i_NoStep___init__ t_NoStep___init__ G_NoStep___init__ (hr.mono (by decide)) b_NoStep___init__ v_NoStep___init__ pass0 rfl T.x_NoStep.gC (pa_cons (pv 1) pa_nil)) pa_nil)))))) (pe_op op_sub (pv 0) pe_int) (fun _ _ => rfl)))) pss_nil)
    (pss_cons (ps_if (pt_cmpR op_lt (pv 0) pe_int (nomark _)) (pss_one (ps_ret (pe_ix (ix_listK (K := K)) (pe_lst (pa_cons (pe_xv T.x_Bare.xi i_Bare___init__ t_Bare___init__ G_Bare___init__ (hr.mono (by decide)) b_Bare___init__ v_Bare___init__ pass0 rfl T.x_Bare.gC (pa_cons (pv 1) (pa_cons (pv 2) pa_nil))) (pa_cons (pe_xv T.x_NoSeam.xi i_NoSeam___init__ t_NoSeam___init__ G_NoSeam___init__ (hr.mono (by decide)) b_NoSeam___init__ v_NoSeam___init__ pass0 rfl T.x_NoSeam.gC (pa_cons (pv 1) pa_nil)) (pa_cons (pe_xv T.x_NoBack.xi i_NoBack___init__ t_NoBack___init__ G_NoBack___init__ (hr.mono (by decide)) b_NoBack___init__ v_NoBack___init__ pass0 rfl T.x_NoBack.gC (pa_cons (pv 1) pa_nil)) (pa_cons (pe_xv T.x_Taken.xi i_Taken___init__ t_Taken___init__ G_Taken___init__ (hr.mono (by decide)) b_Taken___init__ v_Taken___init__ pass0 rfl T.x_Taken.gC (pa_cons (pv 1) (pa_cons (pv 2) pa_nil))) pa_nil))))) (pe_op op_sub (pv 0) pe_int) (fun _ _ => rfl)))) pss_nil)
    (pss_one (ps_ret (pe_ix (ix_listK (K := K)) (pe_lst (pa_cons (pe_xv T.x_NoFold.xi i_NoFold___init__ t_NoFold___init__ G_NoFold___init__ (hr.mono (by decide)) b_NoFold___init__ v_NoFold___init__ pass0 rfl T.x_NoFold.gC (pa_cons (pv 1) (pa_cons (pv 2) pa_nil))) (pa_cons (pe_xv T.x_Full.xi i_Full___init__ t_Full___init__ G_Full___init__ (hr.mono (by decide)) b_Full___init__ v_Full___init__ pass0 rfl T.x_Full.gC (pa_cons (pv 1) pa_nil)) (pa_cons (pe_xv T.x_TooMany.xi i_TooMany___init__ t_TooMany___init__ G_TooMany___init__ (hr.mono (by decide)) b_TooMany___init__ v_TooMany___init__ pass0 rfl T.x_TooMany.gC (pa_cons (pv 1) pa_nil)) pa_nil)))) (pe_op op_sub (pv 0) pe_int) (fun _ _ => rfl)))))))), ?_⟩
    have cx : ∀ (J : Hp) (b : Addr) (C : Addr) (d : Addr) (J' : Hp) (fs : List (Str × V)), J b = none → Off b (upd J b (exo b C none)) J' → J' b = some (exo b C (some d)) → J' d = some (exd d fs) → Same J J' ∧ ExV J' (.ref b) C fs := fun J b C d J' fs nb o g1 g2 =>
      ⟨Off.same nb (Same.new nb) o, b, rfl, .inr ⟨d, g1, g2⟩⟩
    have c0 : ∀ (J : Hp) (b C : Addr), J b = none → Same J (upd J b (ExO (.ref C) b)) ∧ ExV (upd J b (ExO (.ref C) b)) (.ref b) C [] := fun J b C nb => ⟨Same.new nb, b, rfl, .inl ⟨upd_same, rfl⟩⟩
    refine ⟨_, rfl, _, _, rfl, rfl, _, rfl, ?_⟩
    by_cases h5 : i < 5
    · rw [decide_eq_true (show (i : Int) < 5 by omega)]
      refine iteT ?_
      refine fun e0 n0 => ?_
      obtain ⟨s0, v0⟩ := c0 H e0 C_NoRow n0
      generalize upd H e0 (ExO (.ref C_NoRow) e0) = J0 at *
      refine fun e1 n1 => ?_
      obtain ⟨s1, v1⟩ := c0 J0 e1 C_NoText n1
      generalize upd J0 e1 (ExO (.ref C_NoText) e1) = J1 at *
      refine fun e2 n2 => ?_
      obtain ⟨s2, v2⟩ := c0 J1 e2 C_NoWords n2
      generalize upd J1 e2 (ExO (.ref C_NoWords) e2) = J2 at *
      refine ⟨_, rfl, by show 1 ≤ 1000; decide, fun e3 n3 => ⟨e3, x, rfl, upd_same, fun d3 J3 o3 a3 b3 => ⟨rfl, ?_⟩⟩⟩
      obtain ⟨s3, v3⟩ := cx J2 e3 C_NoSign d3 J3 _ n3 o3 a3 b3
      refine ⟨_, rfl, by show 1 ≤ 1000; decide, fun e4 n4 => ⟨e4, x, rfl, upd_same, fun d4 J4 o4 a4 b4 => ⟨rfl, ?_⟩⟩⟩
      obtain ⟨s4, v4⟩ := cx J3 e4 C_NoTree d4 J4 _ n4 o4 a4 b4
      refine ⟨by show 5 ≤ sizeLine; decide, fun L nL => ?_⟩
      have sL := Same.new (o := .lst [V.ref e0, V.ref e1, V.ref e2, V.ref e3, V.ref e4]) nL
      by_cases q0 : i = 0
      · subst q0
        exact ⟨_, rfl, _, _, _, _, rfl, rfl, SqL.of upd_same, (show atI [V.ref e0, V.ref e1, V.ref e2, V.ref e3, V.ref e4] (0 : Int) = _ from atI_nat (j := 0) rfl), k (.ref e0) C_NoRow _ (Same.trans s0 (Same.trans s1 (Same.trans s2 (Same.trans s3 (Same.trans s4 sL))))) rfl (v0.same (Same.trans s1 (Same.trans s2 (Same.trans s3 (Same.trans s4 sL)))))⟩
      by_cases q1 : i = 1
      · subst q1
        exact ⟨_, rfl, _, _, _, _, rfl, rfl, SqL.of upd_same, (show atI [V.ref e0, V.ref e1, V.ref e2, V.ref e3, V.ref e4] (1 : Int) = _ from atI_nat (j := 1) rfl), k (.ref e1) C_NoText _ (Same.trans s0 (Same.trans s1 (Same.trans s2 (Same.trans s3 (Same.trans s4 sL))))) rfl (v1.same (Same.trans s2 (Same.trans s3 (Same.trans s4 sL))))⟩
      by_cases q2 : i = 2
      · subst q2
        exact ⟨_, rfl, _, _, _, _, rfl, rfl, SqL.of upd_same, (show atI [V.ref e0, V.ref e1, V.ref e2, V.ref e3, V.ref e4] (2 : Int) = _ from atI_nat (j := 2) rfl), k (.ref e2) C_NoWords _ (Same.trans s0 (Same.trans s1 (Same.trans s2 (Same.trans s3 (Same.trans s4 sL))))) rfl (v2.same (Same.trans s3 (Same.trans s4 sL)))⟩
      by_cases q3 : i = 3
      · subst q3
        exact ⟨_, rfl, _, _, _, _, rfl, rfl, SqL.of upd_same, (show atI [V.ref e0, V.ref e1, V.ref e2, V.ref e3, V.ref e4] (3 : Int) = _ from atI_nat (j := 3) rfl), k (.ref e3) C_NoSign _ (Same.trans s0 (Same.trans s1 (Same.trans s2 (Same.trans s3 (Same.trans s4 sL))))) rfl (v3.same (Same.trans s4 sL))⟩
      obtain rfl : i = 4 := by omega
      exact ⟨_, rfl, _, _, _, _, rfl, rfl, SqL.of upd_same, (show atI [V.ref e0, V.ref e1, V.ref e2, V.ref e3, V.ref e4] (4 : Int) = _ from atI_nat (j := 4) rfl), k (.ref e4) C_NoTree _ (Same.trans s0 (Same.trans s1 (Same.trans s2 (Same.trans s3 (Same.trans s4 sL))))) rfl (v4.same sL)⟩
    rw [decide_eq_false (show ¬ (i : Int) < 5 by omega)]
    refine iteF ?_
    refine ⟨_, rfl, _, _, rfl, rfl, _, rfl, ?_⟩
    by_cases h10 : i < 10
    · rw [decide_eq_true (show (i : Int) < 10 by omega)]
      refine iteT ?_
      refine ⟨_, rfl, by show 1 ≤ 1000; decide, fun e5 n5 => ⟨e5, x, rfl, upd_same, fun d5 J5 o5 a5 b5 => ⟨rfl, ?_⟩⟩⟩
      obtain ⟨s5, v5⟩ := cx H e5 C_NoGiven d5 J5 _ n5 o5 a5 b5
      refine ⟨_, rfl, by show 1 ≤ 1000; decide, fun e6 n6 => ⟨e6, x, rfl, upd_same, fun d6 J6 o6 a6 b6 => ⟨rfl, ?_⟩⟩⟩
      obtain ⟨s6, v6⟩ := cx J5 e6 C_NoPairs d6 J6 _ n6 o6 a6 b6
      refine ⟨_, rfl, by show 1 ≤ 1000; decide, fun e7 n7 => ⟨e7, x, rfl, upd_same, fun d7 J7 o7 a7 b7 => ⟨rfl, ?_⟩⟩⟩
      obtain ⟨s7, v7⟩ := cx J6 e7 C_NoMachine d7 J7 _ n7 o7 a7 b7
      refine ⟨_, rfl, by show 1 ≤ 1000; decide, fun e8 n8 => ⟨e8, x, rfl, upd_same, fun d8 J8 o8 a8 b8 => ⟨rfl, ?_⟩⟩⟩
      obtain ⟨s8, v8⟩ := cx J7 e8 C_NoDeed d8 J8 _ n8 o8 a8 b8
      refine ⟨_, rfl, by show 1 ≤ 1000; decide, fun e9 n9 => ⟨e9, x, rfl, upd_same, fun d9 J9 o9 a9 b9 => ⟨rfl, ?_⟩⟩⟩
      obtain ⟨s9, v9⟩ := cx J8 e9 C_NoMark d9 J9 _ n9 o9 a9 b9
      refine ⟨by show 5 ≤ sizeLine; decide, fun L nL => ?_⟩
      have sL := Same.new (o := .lst [V.ref e5, V.ref e6, V.ref e7, V.ref e8, V.ref e9]) nL
      by_cases q5 : i = 5
      · subst q5
        exact ⟨_, rfl, _, _, rfl, rfl, _, _, _, _, rfl, rfl, SqL.of upd_same, (show atI [V.ref e5, V.ref e6, V.ref e7, V.ref e8, V.ref e9] (0 : Int) = _ from atI_nat (j := 0) rfl), k (.ref e5) C_NoGiven _ (Same.trans s5 (Same.trans s6 (Same.trans s7 (Same.trans s8 (Same.trans s9 sL))))) rfl (v5.same (Same.trans s6 (Same.trans s7 (Same.trans s8 (Same.trans s9 sL)))))⟩
      by_cases q6 : i = 6
      · subst q6
        exact ⟨_, rfl, _, _, rfl, rfl, _, _, _, _, rfl, rfl, SqL.of upd_same, (show atI [V.ref e5, V.ref e6, V.ref e7, V.ref e8, V.ref e9] (1 : Int) = _ from atI_nat (j := 1) rfl), k (.ref e6) C_NoPairs _ (Same.trans s5 (Same.trans s6 (Same.trans s7 (Same.trans s8 (Same.trans s9 sL))))) rfl (v6.same (Same.trans s7 (Same.trans s8 (Same.trans s9 sL))))⟩
      by_cases q7 : i = 7
      · subst q7
        exact ⟨_, rfl, _, _, rfl, rfl, _, _, _, _, rfl, rfl, SqL.of upd_same, (show atI [V.ref e5, V.ref e6, V.ref e7, V.ref e8, V.ref e9] (2 : Int) = _ from atI_nat (j := 2) rfl), k (.ref e7) C_NoMachine _ (Same.trans s5 (Same.trans s6 (Same.trans s7 (Same.trans s8 (Same.trans s9 sL))))) rfl (v7.same (Same.trans s8 (Same.trans s9 sL)))⟩
      by_cases q8 : i = 8
      · subst q8
        exact ⟨_, rfl, _, _, rfl, rfl, _, _, _, _, rfl, rfl, SqL.of upd_same, (show atI [V.ref e5, V.ref e6, V.ref e7, V.ref e8, V.ref e9] (3 : Int) = _ from atI_nat (j := 3) rfl), k (.ref e8) C_NoDeed _ (Same.trans s5 (Same.trans s6 (Same.trans s7 (Same.trans s8 (Same.trans s9 sL))))) rfl (v8.same (Same.trans s9 sL))⟩
      obtain rfl : i = 9 := by omega
      exact ⟨_, rfl, _, _, rfl, rfl, _, _, _, _, rfl, rfl, SqL.of upd_same, (show atI [V.ref e5, V.ref e6, V.ref e7, V.ref e8, V.ref e9] (4 : Int) = _ from atI_nat (j := 4) rfl), k (.ref e9) C_NoMark _ (Same.trans s5 (Same.trans s6 (Same.trans s7 (Same.trans s8 (Same.trans s9 sL))))) rfl (v9.same sL)⟩
    rw [decide_eq_false (show ¬ (i : Int) < 10 by omega)]
    refine iteF ?_
    refine ⟨_, rfl, _, _, rfl, rfl, _, rfl, ?_⟩
    by_cases h15 : i < 15
    · rw [decide_eq_true (show (i : Int) < 15 by omega)]
      refine iteT ?_
      refine ⟨_, rfl, by show 1 ≤ 1000; decide, fun e10 n10 => ⟨e10, x, rfl, upd_same, fun d10 J10 o10 a10 b10 => ⟨rfl, ?_⟩⟩⟩
      obtain ⟨s10, v10⟩ := cx H e10 C_NoName d10 J10 _ n10 o10 a10 b10
      refine ⟨_, rfl, by show 1 ≤ 1000; decide, fun e11 n11 => ⟨e11, x, rfl, upd_same, fun d11 J11 o11 a11 b11 => ⟨rfl, ?_⟩⟩⟩
      obtain ⟨s11, v11⟩ := cx J10 e11 C_NoEnd d11 J11 _ n11 o11 a11 b11
      refine ⟨_, rfl, by show 1 ≤ 1000; decide, fun e12 n12 => ⟨e12, x, rfl, upd_same, fun d12 J12 o12 a12 b12 => ⟨rfl, ?_⟩⟩⟩
      obtain ⟨s12, v12⟩ := cx J11 e12 C_NoThing d12 J12 _ n12 o12 a12 b12
      refine ⟨_, rfl, by show 1 ≤ 1000; decide, fun e13 n13 => ⟨e13, x, rfl, upd_same, fun d13 J13 o13 a13 b13 => ⟨rfl, ?_⟩⟩⟩
      obtain ⟨s13, v13⟩ := cx J12 e13 C_NoNumber d13 J13 _ n13 o13 a13 b13
      refine ⟨_, rfl, by show 1 ≤ 1000; decide, fun e14 n14 => ⟨e14, x, rfl, upd_same, fun d14 J14 o14 a14 b14 => ⟨rfl, ?_⟩⟩⟩
      obtain ⟨s14, v14⟩ := cx J13 e14 C_NoStep d14 J14 _ n14 o14 a14 b14
      refine ⟨by show 5 ≤ sizeLine; decide, fun L nL => ?_⟩
      have sL := Same.new (o := .lst [V.ref e10, V.ref e11, V.ref e12, V.ref e13, V.ref e14]) nL
      by_cases q10 : i = 10
      · subst q10
        exact ⟨_, rfl, _, _, rfl, rfl, _, _, _, _, rfl, rfl, SqL.of upd_same, (show atI [V.ref e10, V.ref e11, V.ref e12, V.ref e13, V.ref e14] (0 : Int) = _ from atI_nat (j := 0) rfl), k (.ref e10) C_NoName _ (Same.trans s10 (Same.trans s11 (Same.trans s12 (Same.trans s13 (Same.trans s14 sL))))) rfl (v10.same (Same.trans s11 (Same.trans s12 (Same.trans s13 (Same.trans s14 sL)))))⟩
      by_cases q11 : i = 11
      · subst q11
        exact ⟨_, rfl, _, _, rfl, rfl, _, _, _, _, rfl, rfl, SqL.of upd_same, (show atI [V.ref e10, V.ref e11, V.ref e12, V.ref e13, V.ref e14] (1 : Int) = _ from atI_nat (j := 1) rfl), k (.ref e11) C_NoEnd _ (Same.trans s10 (Same.trans s11 (Same.trans s12 (Same.trans s13 (Same.trans s14 sL))))) rfl (v11.same (Same.trans s12 (Same.trans s13 (Same.trans s14 sL))))⟩
      by_cases q12 : i = 12
      · subst q12
        exact ⟨_, rfl, _, _, rfl, rfl, _, _, _, _, rfl, rfl, SqL.of upd_same, (show atI [V.ref e10, V.ref e11, V.ref e12, V.ref e13, V.ref e14] (2 : Int) = _ from atI_nat (j := 2) rfl), k (.ref e12) C_NoThing _ (Same.trans s10 (Same.trans s11 (Same.trans s12 (Same.trans s13 (Same.trans s14 sL))))) rfl (v12.same (Same.trans s13 (Same.trans s14 sL)))⟩
      by_cases q13 : i = 13
      · subst q13
        exact ⟨_, rfl, _, _, rfl, rfl, _, _, _, _, rfl, rfl, SqL.of upd_same, (show atI [V.ref e10, V.ref e11, V.ref e12, V.ref e13, V.ref e14] (3 : Int) = _ from atI_nat (j := 3) rfl), k (.ref e13) C_NoNumber _ (Same.trans s10 (Same.trans s11 (Same.trans s12 (Same.trans s13 (Same.trans s14 sL))))) rfl (v13.same (Same.trans s14 sL))⟩
      obtain rfl : i = 14 := by omega
      exact ⟨_, rfl, _, _, rfl, rfl, _, _, _, _, rfl, rfl, SqL.of upd_same, (show atI [V.ref e10, V.ref e11, V.ref e12, V.ref e13, V.ref e14] (4 : Int) = _ from atI_nat (j := 4) rfl), k (.ref e14) C_NoStep _ (Same.trans s10 (Same.trans s11 (Same.trans s12 (Same.trans s13 (Same.trans s14 sL))))) rfl (v14.same sL)⟩
    rw [decide_eq_false (show ¬ (i : Int) < 15 by omega)]
    refine iteF ?_
    refine ⟨_, rfl, _, _, rfl, rfl, _, rfl, ?_⟩
    by_cases h19 : i < 19
    · rw [decide_eq_true (show (i : Int) < 19 by omega)]
      refine iteT ?_
      refine ⟨_, rfl, _, rfl, by show 2 ≤ 1000; decide, fun e15 n15 => ⟨e15, x, y, rfl, upd_same, fun d15 J15 o15 a15 b15 => ⟨rfl, ?_⟩⟩⟩
      obtain ⟨s15, v15⟩ := cx H e15 C_Bare d15 J15 _ n15 o15 a15 b15
      refine ⟨_, rfl, by show 1 ≤ 1000; decide, fun e16 n16 => ⟨e16, x, rfl, upd_same, fun d16 J16 o16 a16 b16 => ⟨rfl, ?_⟩⟩⟩
      obtain ⟨s16, v16⟩ := cx J15 e16 C_NoSeam d16 J16 _ n16 o16 a16 b16
      refine ⟨_, rfl, by show 1 ≤ 1000; decide, fun e17 n17 => ⟨e17, x, rfl, upd_same, fun d17 J17 o17 a17 b17 => ⟨rfl, ?_⟩⟩⟩
      obtain ⟨s17, v17⟩ := cx J16 e17 C_NoBack d17 J17 _ n17 o17 a17 b17
      refine ⟨_, rfl, _, rfl, by show 2 ≤ 1000; decide, fun e18 n18 => ⟨e18, x, y, rfl, upd_same, fun d18 J18 o18 a18 b18 => ⟨rfl, ?_⟩⟩⟩
      obtain ⟨s18, v18⟩ := cx J17 e18 C_Taken d18 J18 _ n18 o18 a18 b18
      refine ⟨by show 4 ≤ sizeLine; decide, fun L nL => ?_⟩
      have sL := Same.new (o := .lst [V.ref e15, V.ref e16, V.ref e17, V.ref e18]) nL
      by_cases q15 : i = 15
      · subst q15
        exact ⟨_, rfl, _, _, rfl, rfl, _, _, _, _, rfl, rfl, SqL.of upd_same, (show atI [V.ref e15, V.ref e16, V.ref e17, V.ref e18] (0 : Int) = _ from atI_nat (j := 0) rfl), k (.ref e15) C_Bare _ (Same.trans s15 (Same.trans s16 (Same.trans s17 (Same.trans s18 sL)))) rfl (v15.same (Same.trans s16 (Same.trans s17 (Same.trans s18 sL))))⟩
      by_cases q16 : i = 16
      · subst q16
        exact ⟨_, rfl, _, _, rfl, rfl, _, _, _, _, rfl, rfl, SqL.of upd_same, (show atI [V.ref e15, V.ref e16, V.ref e17, V.ref e18] (1 : Int) = _ from atI_nat (j := 1) rfl), k (.ref e16) C_NoSeam _ (Same.trans s15 (Same.trans s16 (Same.trans s17 (Same.trans s18 sL)))) rfl (v16.same (Same.trans s17 (Same.trans s18 sL)))⟩
      by_cases q17 : i = 17
      · subst q17
        exact ⟨_, rfl, _, _, rfl, rfl, _, _, _, _, rfl, rfl, SqL.of upd_same, (show atI [V.ref e15, V.ref e16, V.ref e17, V.ref e18] (2 : Int) = _ from atI_nat (j := 2) rfl), k (.ref e17) C_NoBack _ (Same.trans s15 (Same.trans s16 (Same.trans s17 (Same.trans s18 sL)))) rfl (v17.same (Same.trans s18 sL))⟩
      obtain rfl : i = 18 := by omega
      exact ⟨_, rfl, _, _, rfl, rfl, _, _, _, _, rfl, rfl, SqL.of upd_same, (show atI [V.ref e15, V.ref e16, V.ref e17, V.ref e18] (3 : Int) = _ from atI_nat (j := 3) rfl), k (.ref e18) C_Taken _ (Same.trans s15 (Same.trans s16 (Same.trans s17 (Same.trans s18 sL)))) rfl (v18.same sL)⟩
    rw [decide_eq_false (show ¬ (i : Int) < 19 by omega)]
    refine iteF ?_
    refine ⟨_, rfl, _, rfl, by show 2 ≤ 1000; decide, fun e19 n19 => ⟨e19, x, y, rfl, upd_same, fun d19 J19 o19 a19 b19 => ⟨rfl, ?_⟩⟩⟩
    obtain ⟨s19, v19⟩ := cx H e19 C_NoFold d19 J19 _ n19 o19 a19 b19
    refine ⟨_, rfl, by show 1 ≤ 1000; decide, fun e20 n20 => ⟨e20, x, rfl, upd_same, fun d20 J20 o20 a20 b20 => ⟨rfl, ?_⟩⟩⟩
    obtain ⟨s20, v20⟩ := cx J19 e20 C_Full d20 J20 _ n20 o20 a20 b20
    refine ⟨_, rfl, by show 1 ≤ 1000; decide, fun e21 n21 => ⟨e21, x, rfl, upd_same, fun d21 J21 o21 a21 b21 => ⟨rfl, ?_⟩⟩⟩
    obtain ⟨s21, v21⟩ := cx J20 e21 C_TooMany d21 J21 _ n21 o21 a21 b21
    refine ⟨by show 3 ≤ sizeLine; decide, fun L nL => ?_⟩
    have sL := Same.new (o := .lst [V.ref e19, V.ref e20, V.ref e21]) nL
    by_cases q19 : i = 19
    · subst q19
      exact ⟨_, rfl, _, _, rfl, rfl, _, _, _, _, rfl, rfl, SqL.of upd_same, (show atI [V.ref e19, V.ref e20, V.ref e21] (0 : Int) = _ from atI_nat (j := 0) rfl), k (.ref e19) C_NoFold _ (Same.trans s19 (Same.trans s20 (Same.trans s21 sL))) rfl (v19.same (Same.trans s20 (Same.trans s21 sL)))⟩
    by_cases q20 : i = 20
    · subst q20
      exact ⟨_, rfl, _, _, rfl, rfl, _, _, _, _, rfl, rfl, SqL.of upd_same, (show atI [V.ref e19, V.ref e20, V.ref e21] (1 : Int) = _ from atI_nat (j := 1) rfl), k (.ref e20) C_Full _ (Same.trans s19 (Same.trans s20 (Same.trans s21 sL))) rfl (v20.same (Same.trans s21 sL))⟩
    obtain rfl : i = 21 := by omega
    exact ⟨_, rfl, _, _, rfl, rfl, _, _, _, _, rfl, rfl, SqL.of upd_same, (show atI [V.ref e19, V.ref e20, V.ref e21] (2 : Int) = _ from atI_nat (j := 2) rfl), k (.ref e21) C_TooMany _ (Same.trans s19 (Same.trans s20 (Same.trans s21 sL))) rfl (v21.same sL)⟩
theorem sc_law_kinds : FnScope ["_law_e", "_law_found"] ["_law_e"] (defScope s_law_kinds) := ⟨rfl, rfl, rfl, by decide +kernel, rfl, by decide +kernel, by decide +kernel⟩
theorem ok_law_kinds {f : Addr} {fd : FuncData} (F : Fun K "_law_kinds" "_law_kinds" s_law_kinds f fd) (T : Txt K mg C_Bare C_Full C_NoBack C_NoDeed C_NoEnd C_NoFold C_NoGiven C_NoMachine C_NoMark C_NoName C_NoNumber C_NoPairs C_NoRow C_NoSeam C_NoSign C_NoStep C_NoText C_NoThing C_NoTree C_NoWords C_Taken C_TooMany) : FnOk P w K mg base CX0 1 f fd ["_law_e"] (sp_law_kinds K C_NoRow C_NoText C_NoWords C_NoSign C_NoTree C_NoGiven C_NoPairs C_NoMachine C_NoDeed C_NoMark C_NoName C_NoEnd C_NoThing C_NoNumber C_NoStep C_Bare C_NoSeam C_NoBack C_Taken C_NoFold C_Full C_TooMany) := by
  refine F.ok sc_law_kinds (fun vs H Q E h => ?_) (fun cdv A outer s H vs Q E hr h => ?_)
  · obtain ⟨v, D, i, fs, rfl, _⟩ := h
    all_goals rfl
  · obtain ⟨v, D, i, fs, rfl, hx, hD, k⟩ := h
    refine ⟨_, (pss_cons (ps_set (i := 1) sc_law_kinds.nd rfl (Or.inl rfl) (pe_lst (pa_cons (pe_callB (call_isV (K := K)) (by rfl) T.b_isinstance (by decide +kernel) (pa_cons (pv 0) (pa_cons (pe_glob (v := .ref C_NoRow) rfl T.x_NoRow.gC rfl) pa_nil))) (pa_cons (pe_callB (call_isV (K := K)) (by rfl) T.b_isinstance (by decide +kernel) (pa_cons (pv 0) (pa_cons (pe_glob (v := .ref C_NoText) rfl T.x_NoText.gC rfl) pa_nil))) (pa_cons (pe_callB (call_isV (K := K)) (by rfl) T.b_isinstance (by decide +kernel) (pa_cons (pv 0) (pa_cons (pe_glob (v := .ref C_NoWords) rfl T.x_NoWords.gC rfl) pa_nil))) (pa_cons (pe_callB (call_isV (K := K)) (by rfl) T.b_isinstance (by decide +kernel) (pa_cons (pv 0) (pa_cons (pe_glob (v := .ref C_NoSign) rfl T.x_NoSign.gC rfl) pa_nil))) pa_nil))))))
    (pss_cons (ps_set (i := 1) sc_law_kinds.nd rfl (Or.inl rfl) (pe_op op_cat (pv 1) (pe_lst (pa_cons (pe_callB (call_isV (K := K)) (by rfl) T.b_isinstance (by decide +kernel) (pa_cons (pv 0) (pa_cons (pe_glob (v := .ref C_NoTree) rfl T.x_NoTree.gC rfl) pa_nil))) (pa_cons (pe_callB (call_isV (K := K)) (by rfl) T.b_isinstance (by decide +kernel) (pa_cons (pv 0) (pa_cons (pe_glob (v := .ref C_NoGiven) rfl T.x_NoGiven.gC rfl) pa_nil))) (pa_cons (pe_callB (call_isV (K := K)) (by rfl) T.b_isinstance (by decide +kernel) (pa_cons (pv 0) (pa_cons (pe_glob (v := .ref C_NoPairs) rfl T.x_NoPairs.gC rfl) pa_nil))) (pa_cons (pe_callB (call_isV (K := K)) (by rfl) T.b_isinstance (by decide +kernel) (pa_cons (pv 0) (pa_cons (pe_glob (v := .ref C_NoMachine) rfl T.x_NoMachine.gC rfl) pa_nil))) pa_nil)))))))
    (pss_cons (ps_set (i := 1) sc_law_kinds.nd rfl (Or.inl rfl) (pe_op op_cat (pv 1) (pe_lst (pa_cons (pe_callB (call_isV (K := K)) (by rfl) T.b_isinstance (by decide +kernel) (pa_cons (pv 0) (pa_cons (pe_glob (v := .ref C_NoDeed) rfl T.x_NoDeed.gC rfl) pa_nil))) (pa_cons (pe_callB (call_isV (K := K)) (by rfl) T.b_isinstance (by decide +kernel) (pa_cons (pv 0) (pa_cons (pe_glob (v := .ref C_NoMark) rfl T.x_NoMark.gC rfl) pa_nil))) (pa_cons (pe_callB (call_isV (K := K)) (by rfl) T.b_isinstance (by decide +kernel) (pa_cons (pv 0) (pa_cons (pe_glob (v := .ref C_NoName) rfl T.x_NoName.gC rfl) pa_nil))) (pa_cons (pe_callB (call_isV (K := K)) (by rfl) T.b_isinstance (by decide +kernel) (pa_cons (pv 0) (pa_cons (pe_glob (v := .ref C_NoEnd) rfl T.x_NoEnd.gC rfl) pa_nil))) pa_nil)))))))
    (pss_cons (ps_set (i := 1) sc_law_kinds.nd rfl (Or.inl rfl) (pe_op op_cat (pv 1) (pe_lst (pa_cons (pe_callB (call_isV (K := K)) (by rfl) T.b_isinstance (by decide +kernel) (pa_cons (pv 0) (pa_cons (pe_glob (v := .ref C_NoThing) rfl T.x_NoThing.gC rfl) pa_nil))) (pa_cons (pe_callB (call_isV (K := K)) (by rfl) T.b_isinstance (by decide +kernel) (pa_cons (pv 0) (pa_cons (pe_glob (v := .ref C_NoNumber) rfl T.x_NoNumber.gC rfl) pa_nil))) (pa_cons (pe_callB (call_isV (K := K)) (by rfl) T.b_isinstance (by decide +kernel) (pa_cons (pv 0) (pa_cons (pe_glob (v := .ref C_NoStep) rfl T.x_NoStep.gC rfl) pa_nil))) (pa_cons (pe_callB (call_isV (K := K)) (by rfl) T.b_isinstance (by decide +kernel) (pa_cons (pv 0) (pa_cons (pe_glob (v := .ref C_Bare) rfl T.x_Bare.gC rfl) pa_nil))) pa_nil)))))))
    (pss_cons (ps_set (i := 1) sc_law_kinds.nd rfl (Or.inl rfl) (pe_op op_cat (pv 1) (pe_lst (pa_cons (pe_callB (call_isV (K := K)) (by rfl) T.b_isinstance (by decide +kernel) (pa_cons (pv 0) (pa_cons (pe_glob (v := .ref C_NoSeam) rfl T.x_NoSeam.gC rfl) pa_nil))) (pa_cons (pe_callB (call_isV (K := K)) (by rfl) T.b_isinstance (by decide +kernel) (pa_cons (pv 0) (pa_cons (pe_glob (v := .ref C_NoBack) rfl T.x_NoBack.gC rfl) pa_nil))) (pa_cons (pe_callB (call_isV (K := K)) (by rfl) T.b_isinstance (by decide +kernel) (pa_cons (pv 0) (pa_cons (pe_glob (v := .ref C_Taken) rfl T.x_Taken.gC rfl) pa_nil))) (pa_cons (pe_callB (call_isV (K := K)) (by rfl) T.b_isinstance (by decide +kernel) (pa_cons (pv 0) (pa_cons (pe_glob (v := .ref C_NoFold) rfl T.x_NoFold.gC rfl) pa_nil))) pa_nil)))))))
    (pss_one (ps_ret (pe_op op_cat (pv 1) (pe_lst (pa_cons (pe_callB (call_isV (K := K)) (by rfl) T.b_isinstance (by decide +kernel) (pa_cons (pv 0) (pa_cons (pe_glob (v := .ref C_Full) rfl T.x_Full.gC rfl) pa_nil))) (pa_cons (pe_callB (call_isV (K := K)) (by rfl) T.b_isinstance (by decide +kernel) (pa_cons (pv 0) (pa_cons (pe_glob (v := .ref C_TooMany) rfl T.x_TooMany.gC rfl) pa_nil))) pa_nil))))))))))), ?_⟩
    have hi : i < 22 := by
      have := (List.getElem?_eq_some_iff.mp hD).1
      exact this
    have okD : ExcC K D := by
      have m := List.mem_of_getElem? hD
      simp only [List.mem_cons, List.not_mem_nil, or_false] at m
      rcases m with rfl | rfl | rfl | rfl | rfl | rfl | rfl | rfl | rfl | rfl | rfl | rfl | rfl | rfl | rfl | rfl | rfl | rfl | rfl | rfl | rfl | rfl
      · exact T.x_NoRow.ok
      · exact T.x_NoText.ok
      · exact T.x_NoWords.ok
      · exact T.x_NoSign.ok
      · exact T.x_NoTree.ok
      · exact T.x_NoGiven.ok
      · exact T.x_NoPairs.ok
      · exact T.x_NoMachine.ok
      · exact T.x_NoDeed.ok
      · exact T.x_NoMark.ok
      · exact T.x_NoName.ok
      · exact T.x_NoEnd.ok
      · exact T.x_NoThing.ok
      · exact T.x_NoNumber.ok
      · exact T.x_NoStep.ok
      · exact T.x_Bare.ok
      · exact T.x_NoSeam.ok
      · exact T.x_NoBack.ok
      · exact T.x_Taken.ok
      · exact T.x_NoFold.ok
      · exact T.x_Full.ok
      · exact T.x_TooMany.ok
    have sub : ∀ (j : Nat) (C : Addr), ([C_NoRow, C_NoText, C_NoWords, C_NoSign, C_NoTree, C_NoGiven, C_NoPairs, C_NoMachine, C_NoDeed, C_NoMark, C_NoName, C_NoEnd, C_NoThing, C_NoNumber, C_NoStep, C_Bare, C_NoSeam, C_NoBack, C_Taken, C_NoFold, C_Full, C_TooMany] : List Addr)[j]? = some C → PySem.W.subIn K (.ref D) (.ref C) = some (decide (i = j)) := fun j C hC => by
      have hj : j < 22 := (List.getElem?_eq_some_iff.mp hC).1
      have e1 := congrArg (fun l => (l[i]?).bind (·[j]?)) T.subs
      rw [List.getElem?_map, List.getElem?_map, hD, List.getElem?_range hi, Option.map_some, Option.map_some, Option.bind_some, Option.bind_some, List.getElem?_map, List.getElem?_map, hC, List.getElem?_range hj, Option.map_some, Option.map_some] at e1
      exact Option.some.inj e1
    refine ⟨_, rfl, v, .ref C_NoRow, D, fs, .ref C_NoRow, _, rfl, hx.same (Same.refl H), okD, .own C_NoRow, kit_exC (sub 0 C_NoRow rfl) T.x_NoRow.iC T.x_NoRow.tC T.x_NoRow.sC, ?_⟩
    refine ⟨_, rfl, v, .ref C_NoText, D, fs, .ref C_NoText, _, rfl, hx.same (Same.refl H), okD, .own C_NoText, kit_exC (sub 1 C_NoText rfl) T.x_NoText.iC T.x_NoText.tC T.x_NoText.sC, ?_⟩
    refine ⟨_, rfl, v, .ref C_NoWords, D, fs, .ref C_NoWords, _, rfl, hx.same (Same.refl H), okD, .own C_NoWords, kit_exC (sub 2 C_NoWords rfl) T.x_NoWords.iC T.x_NoWords.tC T.x_NoWords.sC, ?_⟩
    refine ⟨_, rfl, v, .ref C_NoSign, D, fs, .ref C_NoSign, _, rfl, hx.same (Same.refl H), okD, .own C_NoSign, kit_exC (sub 3 C_NoSign rfl) T.x_NoSign.iC T.x_NoSign.tC T.x_NoSign.sC, ?_⟩
    refine ⟨by show 4 ≤ sizeLine; decide, fun p0 n0 => ?_⟩
    have t0 := Same.new (o := .lst [V.bl (decide (i = 0)), V.bl (decide (i = 1)), V.bl (decide (i = 2)), V.bl (decide (i = 3))]) n0
    have g0 : (upd H p0 (.lst [V.bl (decide (i = 0)), V.bl (decide (i = 1)), V.bl (decide (i = 2)), V.bl (decide (i = 3))])) p0 = some (.lst [V.bl (decide (i = 0)), V.bl (decide (i = 1)), V.bl (decide (i = 2)), V.bl (decide (i = 3))]) := upd_same
    generalize upd H p0 (.lst [V.bl (decide (i = 0)), V.bl (decide (i = 1)), V.bl (decide (i = 2)), V.bl (decide (i = 3))]) = J0 at *
    refine ⟨_, rfl, _, rfl, v, .ref C_NoTree, D, fs, .ref C_NoTree, _, rfl, hx.same t0, okD, .own C_NoTree, kit_exC (sub 4 C_NoTree rfl) T.x_NoTree.iC T.x_NoTree.tC T.x_NoTree.sC, ?_⟩
    refine ⟨_, rfl, v, .ref C_NoGiven, D, fs, .ref C_NoGiven, _, rfl, hx.same t0, okD, .own C_NoGiven, kit_exC (sub 5 C_NoGiven rfl) T.x_NoGiven.iC T.x_NoGiven.tC T.x_NoGiven.sC, ?_⟩
    refine ⟨_, rfl, v, .ref C_NoPairs, D, fs, .ref C_NoPairs, _, rfl, hx.same t0, okD, .own C_NoPairs, kit_exC (sub 6 C_NoPairs rfl) T.x_NoPairs.iC T.x_NoPairs.tC T.x_NoPairs.sC, ?_⟩
    refine ⟨_, rfl, v, .ref C_NoMachine, D, fs, .ref C_NoMachine, _, rfl, hx.same t0, okD, .own C_NoMachine, kit_exC (sub 7 C_NoMachine rfl) T.x_NoMachine.iC T.x_NoMachine.tC T.x_NoMachine.sC, ?_⟩
    refine ⟨by show 4 ≤ sizeLine; decide, fun p1 n1 => ?_⟩
    have t1 := Same.new (o := .lst [V.bl (decide (i = 4)), V.bl (decide (i = 5)), V.bl (decide (i = 6)), V.bl (decide (i = 7))]) n1
    refine ⟨_, _, _, _, rfl, rfl, t1 _ _ g0, upd_same, by show 8 ≤ sizeLine; decide, fun r1 m1 => ?_⟩
    have u1 := Same.trans t1 (Same.new (o := .lst ([V.bl (decide (i = 0)), V.bl (decide (i = 1)), V.bl (decide (i = 2)), V.bl (decide (i = 3))] ++ [V.bl (decide (i = 4)), V.bl (decide (i = 5)), V.bl (decide (i = 6)), V.bl (decide (i = 7))])) m1)
    have g1 : (upd (upd J0 p1 (.lst [V.bl (decide (i = 4)), V.bl (decide (i = 5)), V.bl (decide (i = 6)), V.bl (decide (i = 7))])) r1 (.lst ([V.bl (decide (i = 0)), V.bl (decide (i = 1)), V.bl (decide (i = 2)), V.bl (decide (i = 3))] ++ [V.bl (decide (i = 4)), V.bl (decide (i = 5)), V.bl (decide (i = 6)), V.bl (decide (i = 7))]))) r1 = some (.lst [V.bl (decide (i = 0)), V.bl (decide (i = 1)), V.bl (decide (i = 2)), V.bl (decide (i = 3)), V.bl (decide (i = 4)), V.bl (decide (i = 5)), V.bl (decide (i = 6)), V.bl (decide (i = 7))]) := upd_same
    generalize upd (upd J0 p1 (.lst [V.bl (decide (i = 4)), V.bl (decide (i = 5)), V.bl (decide (i = 6)), V.bl (decide (i = 7))])) r1 (.lst ([V.bl (decide (i = 0)), V.bl (decide (i = 1)), V.bl (decide (i = 2)), V.bl (decide (i = 3))] ++ [V.bl (decide (i = 4)), V.bl (decide (i = 5)), V.bl (decide (i = 6)), V.bl (decide (i = 7))])) = J1 at *
    have w1 := Same.trans t0 u1
    refine ⟨_, rfl, _, rfl, v, .ref C_NoDeed, D, fs, .ref C_NoDeed, _, rfl, hx.same w1, okD, .own C_NoDeed, kit_exC (sub 8 C_NoDeed rfl) T.x_NoDeed.iC T.x_NoDeed.tC T.x_NoDeed.sC, ?_⟩
    refine ⟨_, rfl, v, .ref C_NoMark, D, fs, .ref C_NoMark, _, rfl, hx.same w1, okD, .own C_NoMark, kit_exC (sub 9 C_NoMark rfl) T.x_NoMark.iC T.x_NoMark.tC T.x_NoMark.sC, ?_⟩
    refine ⟨_, rfl, v, .ref C_NoName, D, fs, .ref C_NoName, _, rfl, hx.same w1, okD, .own C_NoName, kit_exC (sub 10 C_NoName rfl) T.x_NoName.iC T.x_NoName.tC T.x_NoName.sC, ?_⟩
    refine ⟨_, rfl, v, .ref C_NoEnd, D, fs, .ref C_NoEnd, _, rfl, hx.same w1, okD, .own C_NoEnd, kit_exC (sub 11 C_NoEnd rfl) T.x_NoEnd.iC T.x_NoEnd.tC T.x_NoEnd.sC, ?_⟩
    refine ⟨by show 4 ≤ sizeLine; decide, fun p2 n2 => ?_⟩
    have t2 := Same.new (o := .lst [V.bl (decide (i = 8)), V.bl (decide (i = 9)), V.bl (decide (i = 10)), V.bl (decide (i = 11))]) n2
    refine ⟨_, _, _, _, rfl, rfl, t2 _ _ g1, upd_same, by show 12 ≤ sizeLine; decide, fun r2 m2 => ?_⟩
    have u2 := Same.trans t2 (Same.new (o := .lst ([V.bl (decide (i = 0)), V.bl (decide (i = 1)), V.bl (decide (i = 2)), V.bl (decide (i = 3)), V.bl (decide (i = 4)), V.bl (decide (i = 5)), V.bl (decide (i = 6)), V.bl (decide (i = 7))] ++ [V.bl (decide (i = 8)), V.bl (decide (i = 9)), V.bl (decide (i = 10)), V.bl (decide (i = 11))])) m2)
    have g2 : (upd (upd J1 p2 (.lst [V.bl (decide (i = 8)), V.bl (decide (i = 9)), V.bl (decide (i = 10)), V.bl (decide (i = 11))])) r2 (.lst ([V.bl (decide (i = 0)), V.bl (decide (i = 1)), V.bl (decide (i = 2)), V.bl (decide (i = 3)), V.bl (decide (i = 4)), V.bl (decide (i = 5)), V.bl (decide (i = 6)), V.bl (decide (i = 7))] ++ [V.bl (decide (i = 8)), V.bl (decide (i = 9)), V.bl (decide (i = 10)), V.bl (decide (i = 11))]))) r2 = some (.lst [V.bl (decide (i = 0)), V.bl (decide (i = 1)), V.bl (decide (i = 2)), V.bl (decide (i = 3)), V.bl (decide (i = 4)), V.bl (decide (i = 5)), V.bl (decide (i = 6)), V.bl (decide (i = 7)), V.bl (decide (i = 8)), V.bl (decide (i = 9)), V.bl (decide (i = 10)), V.bl (decide (i = 11))]) := upd_same
    generalize upd (upd J1 p2 (.lst [V.bl (decide (i = 8)), V.bl (decide (i = 9)), V.bl (decide (i = 10)), V.bl (decide (i = 11))])) r2 (.lst ([V.bl (decide (i = 0)), V.bl (decide (i = 1)), V.bl (decide (i = 2)), V.bl (decide (i = 3)), V.bl (decide (i = 4)), V.bl (decide (i = 5)), V.bl (decide (i = 6)), V.bl (decide (i = 7))] ++ [V.bl (decide (i = 8)), V.bl (decide (i = 9)), V.bl (decide (i = 10)), V.bl (decide (i = 11))])) = J2 at *
    have w2 := Same.trans w1 u2
    refine ⟨_, rfl, _, rfl, v, .ref C_NoThing, D, fs, .ref C_NoThing, _, rfl, hx.same w2, okD, .own C_NoThing, kit_exC (sub 12 C_NoThing rfl) T.x_NoThing.iC T.x_NoThing.tC T.x_NoThing.sC, ?_⟩
    refine ⟨_, rfl, v, .ref C_NoNumber, D, fs, .ref C_NoNumber, _, rfl, hx.same w2, okD, .own C_NoNumber, kit_exC (sub 13 C_NoNumber rfl) T.x_NoNumber.iC T.x_NoNumber.tC T.x_NoNumber.sC, ?_⟩
    refine ⟨_, rfl, v, .ref C_NoStep, D, fs, .ref C_NoStep, _, rfl, hx.same w2, okD, .own C_NoStep, kit_exC (sub 14 C_NoStep rfl) T.x_NoStep.iC T.x_NoStep.tC T.x_NoStep.sC, ?_⟩
    refine ⟨_, rfl, v, .ref C_Bare, D, fs, .ref C_Bare, _, rfl, hx.same w2, okD, .own C_Bare, kit_exC (sub 15 C_Bare rfl) T.x_Bare.iC T.x_Bare.tC T.x_Bare.sC, ?_⟩
    refine ⟨by show 4 ≤ sizeLine; decide, fun p3 n3 => ?_⟩
    have t3 := Same.new (o := .lst [V.bl (decide (i = 12)), V.bl (decide (i = 13)), V.bl (decide (i = 14)), V.bl (decide (i = 15))]) n3
    refine ⟨_, _, _, _, rfl, rfl, t3 _ _ g2, upd_same, by show 16 ≤ sizeLine; decide, fun r3 m3 => ?_⟩
    have u3 := Same.trans t3 (Same.new (o := .lst ([V.bl (decide (i = 0)), V.bl (decide (i = 1)), V.bl (decide (i = 2)), V.bl (decide (i = 3)), V.bl (decide (i = 4)), V.bl (decide (i = 5)), V.bl (decide (i = 6)), V.bl (decide (i = 7)), V.bl (decide (i = 8)), V.bl (decide (i = 9)), V.bl (decide (i = 10)), V.bl (decide (i = 11))] ++ [V.bl (decide (i = 12)), V.bl (decide (i = 13)), V.bl (decide (i = 14)), V.bl (decide (i = 15))])) m3)
    have g3 : (upd (upd J2 p3 (.lst [V.bl (decide (i = 12)), V.bl (decide (i = 13)), V.bl (decide (i = 14)), V.bl (decide (i = 15))])) r3 (.lst ([V.bl (decide (i = 0)), V.bl (decide (i = 1)), V.bl (decide (i = 2)), V.bl (decide (i = 3)), V.bl (decide (i = 4)), V.bl (decide (i = 5)), V.bl (decide (i = 6)), V.bl (decide (i = 7)), V.bl (decide (i = 8)), V.bl (decide (i = 9)), V.bl (decide (i = 10)), V.bl (decide (i = 11))] ++ [V.bl (decide (i = 12)), V.bl (decide (i = 13)), V.bl (decide (i = 14)), V.bl (decide (i = 15))]))) r3 = some (.lst [V.bl (decide (i = 0)), V.bl (decide (i = 1)), V.bl (decide (i = 2)), V.bl (decide (i = 3)), V.bl (decide (i = 4)), V.bl (decide (i = 5)), V.bl (decide (i = 6)), V.bl (decide (i = 7)), V.bl (decide (i = 8)), V.bl (decide (i = 9)), V.bl (decide (i = 10)), V.bl (decide (i = 11)), V.bl (decide (i = 12)), V.bl (decide (i = 13)), V.bl (decide (i = 14)), V.bl (decide (i = 15))]) := upd_same
    generalize upd (upd J2 p3 (.lst [V.bl (decide (i = 12)), V.bl (decide (i = 13)), V.bl (decide (i = 14)), V.bl (decide (i = 15))])) r3 (.lst ([V.bl (decide (i = 0)), V.bl (decide (i = 1)), V.bl (decide (i = 2)), V.bl (decide (i = 3)), V.bl (decide (i = 4)), V.bl (decide (i = 5)), V.bl (decide (i = 6)), V.bl (decide (i = 7)), V.bl (decide (i = 8)), V.bl (decide (i = 9)), V.bl (decide (i = 10)), V.bl (decide (i = 11))] ++ [V.bl (decide (i = 12)), V.bl (decide (i = 13)), V.bl (decide (i = 14)), V.bl (decide (i = 15))])) = J3 at *
    have w3 := Same.trans w2 u3
    refine ⟨_, rfl, _, rfl, v, .ref C_NoSeam, D, fs, .ref C_NoSeam, _, rfl, hx.same w3, okD, .own C_NoSeam, kit_exC (sub 16 C_NoSeam rfl) T.x_NoSeam.iC T.x_NoSeam.tC T.x_NoSeam.sC, ?_⟩
    refine ⟨_, rfl, v, .ref C_NoBack, D, fs, .ref C_NoBack, _, rfl, hx.same w3, okD, .own C_NoBack, kit_exC (sub 17 C_NoBack rfl) T.x_NoBack.iC T.x_NoBack.tC T.x_NoBack.sC, ?_⟩
    refine ⟨_, rfl, v, .ref C_Taken, D, fs, .ref C_Taken, _, rfl, hx.same w3, okD, .own C_Taken, kit_exC (sub 18 C_Taken rfl) T.x_Taken.iC T.x_Taken.tC T.x_Taken.sC, ?_⟩
    refine ⟨_, rfl, v, .ref C_NoFold, D, fs, .ref C_NoFold, _, rfl, hx.same w3, okD, .own C_NoFold, kit_exC (sub 19 C_NoFold rfl) T.x_NoFold.iC T.x_NoFold.tC T.x_NoFold.sC, ?_⟩
    refine ⟨by show 4 ≤ sizeLine; decide, fun p4 n4 => ?_⟩
    have t4 := Same.new (o := .lst [V.bl (decide (i = 16)), V.bl (decide (i = 17)), V.bl (decide (i = 18)), V.bl (decide (i = 19))]) n4
    refine ⟨_, _, _, _, rfl, rfl, t4 _ _ g3, upd_same, by show 20 ≤ sizeLine; decide, fun r4 m4 => ?_⟩
    have u4 := Same.trans t4 (Same.new (o := .lst ([V.bl (decide (i = 0)), V.bl (decide (i = 1)), V.bl (decide (i = 2)), V.bl (decide (i = 3)), V.bl (decide (i = 4)), V.bl (decide (i = 5)), V.bl (decide (i = 6)), V.bl (decide (i = 7)), V.bl (decide (i = 8)), V.bl (decide (i = 9)), V.bl (decide (i = 10)), V.bl (decide (i = 11)), V.bl (decide (i = 12)), V.bl (decide (i = 13)), V.bl (decide (i = 14)), V.bl (decide (i = 15))] ++ [V.bl (decide (i = 16)), V.bl (decide (i = 17)), V.bl (decide (i = 18)), V.bl (decide (i = 19))])) m4)
    have g4 : (upd (upd J3 p4 (.lst [V.bl (decide (i = 16)), V.bl (decide (i = 17)), V.bl (decide (i = 18)), V.bl (decide (i = 19))])) r4 (.lst ([V.bl (decide (i = 0)), V.bl (decide (i = 1)), V.bl (decide (i = 2)), V.bl (decide (i = 3)), V.bl (decide (i = 4)), V.bl (decide (i = 5)), V.bl (decide (i = 6)), V.bl (decide (i = 7)), V.bl (decide (i = 8)), V.bl (decide (i = 9)), V.bl (decide (i = 10)), V.bl (decide (i = 11)), V.bl (decide (i = 12)), V.bl (decide (i = 13)), V.bl (decide (i = 14)), V.bl (decide (i = 15))] ++ [V.bl (decide (i = 16)), V.bl (decide (i = 17)), V.bl (decide (i = 18)), V.bl (decide (i = 19))]))) r4 = some (.lst [V.bl (decide (i = 0)), V.bl (decide (i = 1)), V.bl (decide (i = 2)), V.bl (decide (i = 3)), V.bl (decide (i = 4)), V.bl (decide (i = 5)), V.bl (decide (i = 6)), V.bl (decide (i = 7)), V.bl (decide (i = 8)), V.bl (decide (i = 9)), V.bl (decide (i = 10)), V.bl (decide (i = 11)), V.bl (decide (i = 12)), V.bl (decide (i = 13)), V.bl (decide (i = 14)), V.bl (decide (i = 15)), V.bl (decide (i = 16)), V.bl (decide (i = 17)), V.bl (decide (i = 18)), V.bl (decide (i = 19))]) := upd_same
    generalize upd (upd J3 p4 (.lst [V.bl (decide (i = 16)), V.bl (decide (i = 17)), V.bl (decide (i = 18)), V.bl (decide (i = 19))])) r4 (.lst ([V.bl (decide (i = 0)), V.bl (decide (i = 1)), V.bl (decide (i = 2)), V.bl (decide (i = 3)), V.bl (decide (i = 4)), V.bl (decide (i = 5)), V.bl (decide (i = 6)), V.bl (decide (i = 7)), V.bl (decide (i = 8)), V.bl (decide (i = 9)), V.bl (decide (i = 10)), V.bl (decide (i = 11)), V.bl (decide (i = 12)), V.bl (decide (i = 13)), V.bl (decide (i = 14)), V.bl (decide (i = 15))] ++ [V.bl (decide (i = 16)), V.bl (decide (i = 17)), V.bl (decide (i = 18)), V.bl (decide (i = 19))])) = J4 at *
    have w4 := Same.trans w3 u4
    refine ⟨_, rfl, _, rfl, v, .ref C_Full, D, fs, .ref C_Full, _, rfl, hx.same w4, okD, .own C_Full, kit_exC (sub 20 C_Full rfl) T.x_Full.iC T.x_Full.tC T.x_Full.sC, ?_⟩
    refine ⟨_, rfl, v, .ref C_TooMany, D, fs, .ref C_TooMany, _, rfl, hx.same w4, okD, .own C_TooMany, kit_exC (sub 21 C_TooMany rfl) T.x_TooMany.iC T.x_TooMany.tC T.x_TooMany.sC, ?_⟩
    refine ⟨by show 2 ≤ sizeLine; decide, fun p5 n5 => ?_⟩
    have t5 := Same.new (o := .lst [V.bl (decide (i = 20)), V.bl (decide (i = 21))]) n5
    refine ⟨_, _, _, _, rfl, rfl, t5 _ _ g4, upd_same, by show 22 ≤ sizeLine; decide, fun r5 m5 => ?_⟩
    have u5 := Same.trans t5 (Same.new (o := .lst ([V.bl (decide (i = 0)), V.bl (decide (i = 1)), V.bl (decide (i = 2)), V.bl (decide (i = 3)), V.bl (decide (i = 4)), V.bl (decide (i = 5)), V.bl (decide (i = 6)), V.bl (decide (i = 7)), V.bl (decide (i = 8)), V.bl (decide (i = 9)), V.bl (decide (i = 10)), V.bl (decide (i = 11)), V.bl (decide (i = 12)), V.bl (decide (i = 13)), V.bl (decide (i = 14)), V.bl (decide (i = 15)), V.bl (decide (i = 16)), V.bl (decide (i = 17)), V.bl (decide (i = 18)), V.bl (decide (i = 19))] ++ [V.bl (decide (i = 20)), V.bl (decide (i = 21))])) m5)
    have g5 : (upd (upd J4 p5 (.lst [V.bl (decide (i = 20)), V.bl (decide (i = 21))])) r5 (.lst ([V.bl (decide (i = 0)), V.bl (decide (i = 1)), V.bl (decide (i = 2)), V.bl (decide (i = 3)), V.bl (decide (i = 4)), V.bl (decide (i = 5)), V.bl (decide (i = 6)), V.bl (decide (i = 7)), V.bl (decide (i = 8)), V.bl (decide (i = 9)), V.bl (decide (i = 10)), V.bl (decide (i = 11)), V.bl (decide (i = 12)), V.bl (decide (i = 13)), V.bl (decide (i = 14)), V.bl (decide (i = 15)), V.bl (decide (i = 16)), V.bl (decide (i = 17)), V.bl (decide (i = 18)), V.bl (decide (i = 19))] ++ [V.bl (decide (i = 20)), V.bl (decide (i = 21))]))) r5 = some (.lst [V.bl (decide (i = 0)), V.bl (decide (i = 1)), V.bl (decide (i = 2)), V.bl (decide (i = 3)), V.bl (decide (i = 4)), V.bl (decide (i = 5)), V.bl (decide (i = 6)), V.bl (decide (i = 7)), V.bl (decide (i = 8)), V.bl (decide (i = 9)), V.bl (decide (i = 10)), V.bl (decide (i = 11)), V.bl (decide (i = 12)), V.bl (decide (i = 13)), V.bl (decide (i = 14)), V.bl (decide (i = 15)), V.bl (decide (i = 16)), V.bl (decide (i = 17)), V.bl (decide (i = 18)), V.bl (decide (i = 19)), V.bl (decide (i = 20)), V.bl (decide (i = 21))]) := upd_same
    generalize upd (upd J4 p5 (.lst [V.bl (decide (i = 20)), V.bl (decide (i = 21))])) r5 (.lst ([V.bl (decide (i = 0)), V.bl (decide (i = 1)), V.bl (decide (i = 2)), V.bl (decide (i = 3)), V.bl (decide (i = 4)), V.bl (decide (i = 5)), V.bl (decide (i = 6)), V.bl (decide (i = 7)), V.bl (decide (i = 8)), V.bl (decide (i = 9)), V.bl (decide (i = 10)), V.bl (decide (i = 11)), V.bl (decide (i = 12)), V.bl (decide (i = 13)), V.bl (decide (i = 14)), V.bl (decide (i = 15)), V.bl (decide (i = 16)), V.bl (decide (i = 17)), V.bl (decide (i = 18)), V.bl (decide (i = 19))] ++ [V.bl (decide (i = 20)), V.bl (decide (i = 21))])) = J5 at *
    have w5 := Same.trans w4 u5
    exact k r5 J5 w5 g5
theorem sc_law_above : FnScope ["_law_e", "_law_found"] ["_law_e"] (defScope s_law_above) := ⟨rfl, rfl, rfl, by decide +kernel, rfl, by decide +kernel, by decide +kernel⟩
theorem ok_law_above {f : Addr} {fd : FuncData} (F : Fun K "_law_above" "_law_above" s_law_above f fd) (T : Txt K mg C_Bare C_Full C_NoBack C_NoDeed C_NoEnd C_NoFold C_NoGiven C_NoMachine C_NoMark C_NoName C_NoNumber C_NoPairs C_NoRow C_NoSeam C_NoSign C_NoStep C_NoText C_NoThing C_NoTree C_NoWords C_Taken C_TooMany) : FnOk P w K mg base CX0 1 f fd ["_law_e"] (sp_law_above K C_NoRow C_NoText C_NoWords C_NoSign C_NoTree C_NoGiven C_NoPairs C_NoMachine C_NoDeed C_NoMark C_NoName C_NoEnd C_NoThing C_NoNumber C_NoStep C_Bare C_NoSeam C_NoBack C_Taken C_NoFold C_Full C_TooMany) := by
  refine F.ok sc_law_above (fun vs H Q E h => ?_) (fun cdv A outer s H vs Q E hr h => ?_)
  · obtain ⟨v, D, i, fs, rfl, _⟩ := h
    all_goals rfl
  · obtain ⟨v, D, i, fs, rfl, hx, hD, k⟩ := h
    refine ⟨_, (pss_cons (ps_set (i := 1) sc_law_above.nd rfl (Or.inl rfl) (pe_lst (pa_cons (pe_callB (call_isV (K := K)) (by rfl) T.b_isinstance (by decide +kernel) (pa_cons (pv 0) (pa_cons (pe_bltn (v := .ty "ValueError") (by rfl) T.b_ValueError (by decide +kernel) rfl) pa_nil))) (pa_cons (pe_callB (call_isV (K := K)) (by rfl) T.b_isinstance (by decide +kernel) (pa_cons (pv 0) (pa_cons (pe_bltn (v := .ty "KeyError") (by rfl) T.b_KeyError (by decide +kernel) rfl) pa_nil))) (pa_cons (pe_callB (call_isV (K := K)) (by rfl) T.b_isinstance (by decide +kernel) (pa_cons (pv 0) (pa_cons (pe_bltn (v := .ty "IndexError") (by rfl) T.b_IndexError (by decide +kernel) rfl) pa_nil))) pa_nil)))))
    (pss_cons (ps_set (i := 1) sc_law_above.nd rfl (Or.inl rfl) (pe_op op_cat (pv 1) (pe_lst (pa_cons (pe_callB (call_isV (K := K)) (by rfl) T.b_isinstance (by decide +kernel) (pa_cons (pv 0) (pa_cons (pe_bltn (v := .ty "LookupError") (by rfl) T.b_LookupError (by decide +kernel) rfl) pa_nil))) (pa_cons (pe_callB (call_isV (K := K)) (by rfl) T.b_isinstance (by decide +kernel) (pa_cons (pv 0) (pa_cons (pe_bltn (v := .ty "ArithmeticError") (by rfl) T.b_ArithmeticError (by decide +kernel) rfl) pa_nil))) (pa_cons (pe_callB (call_isV (K := K)) (by rfl) T.b_isinstance (by decide +kernel) (pa_cons (pv 0) (pa_cons (pe_bltn (v := .ty "OverflowError") (by rfl) T.b_OverflowError (by decide +kernel) rfl) pa_nil))) pa_nil))))))
    (pss_one (ps_ret (pe_op op_cat (pv 1) (pe_lst (pa_cons (pe_callB (call_isV (K := K)) (by rfl) T.b_isinstance (by decide +kernel) (pa_cons (pv 0) (pa_cons (pe_bltn (v := .ty "RuntimeError") (by rfl) T.b_RuntimeError (by decide +kernel) rfl) pa_nil))) pa_nil))))))), ?_⟩
    have hi : i < 22 := by
      have := (List.getElem?_eq_some_iff.mp hD).1
      exact this
    have okD : ExcC K D := by
      have m := List.mem_of_getElem? hD
      simp only [List.mem_cons, List.not_mem_nil, or_false] at m
      rcases m with rfl | rfl | rfl | rfl | rfl | rfl | rfl | rfl | rfl | rfl | rfl | rfl | rfl | rfl | rfl | rfl | rfl | rfl | rfl | rfl | rfl | rfl
      · exact T.x_NoRow.ok
      · exact T.x_NoText.ok
      · exact T.x_NoWords.ok
      · exact T.x_NoSign.ok
      · exact T.x_NoTree.ok
      · exact T.x_NoGiven.ok
      · exact T.x_NoPairs.ok
      · exact T.x_NoMachine.ok
      · exact T.x_NoDeed.ok
      · exact T.x_NoMark.ok
      · exact T.x_NoName.ok
      · exact T.x_NoEnd.ok
      · exact T.x_NoThing.ok
      · exact T.x_NoNumber.ok
      · exact T.x_NoStep.ok
      · exact T.x_Bare.ok
      · exact T.x_NoSeam.ok
      · exact T.x_NoBack.ok
      · exact T.x_Taken.ok
      · exact T.x_NoFold.ok
      · exact T.x_Full.ok
      · exact T.x_TooMany.ok
    have sub : ∀ (j : Nat) (t : String) (b : Bool), (["ValueError", "KeyError", "IndexError", "LookupError", "ArithmeticError", "OverflowError", "RuntimeError"] : List String)[j]? = some t → (abv i)[j]? = some b → PySem.W.subIn K (.ref D) (.type t) = some b := fun j t b hC hb => by
      have e1 := congrArg (fun l => (l[i]?).bind (·[j]?)) T.sups
      rw [List.getElem?_map, List.getElem?_map, hD, List.getElem?_range hi, Option.map_some, Option.map_some, Option.bind_some, Option.bind_some, List.getElem?_map, List.getElem?_map, hC, Option.map_some] at e1
      rw [show ([decide (i < 8), decide (8 ≤ i ∧ i < 12), decide (i = 12), decide (8 ≤ i ∧ i < 17), decide (i = 17 ∨ i = 20 ∨ i = 21), decide (19 < i), decide (i = 18 ∨ i = 19)] : List Bool) = abv i from rfl, hb] at e1
      exact Option.some.inj e1
    refine ⟨_, rfl, v, .ty "ValueError", D, fs, .type "ValueError", _, rfl, hx.same (Same.refl H), okD, .ty "ValueError", kit_exT (sub 0 "ValueError" _ rfl rfl), ?_⟩
    refine ⟨_, rfl, v, .ty "KeyError", D, fs, .type "KeyError", _, rfl, hx.same (Same.refl H), okD, .ty "KeyError", kit_exT (sub 1 "KeyError" _ rfl rfl), ?_⟩
    refine ⟨_, rfl, v, .ty "IndexError", D, fs, .type "IndexError", _, rfl, hx.same (Same.refl H), okD, .ty "IndexError", kit_exT (sub 2 "IndexError" _ rfl rfl), ?_⟩
    refine ⟨by show 3 ≤ sizeLine; decide, fun p0 n0 => ?_⟩
    have t0 := Same.new (o := .lst [V.bl (decide (i < 8)), V.bl (decide (8 ≤ i ∧ i < 12)), V.bl (decide (i = 12))]) n0
    have g0 : (upd H p0 (.lst [V.bl (decide (i < 8)), V.bl (decide (8 ≤ i ∧ i < 12)), V.bl (decide (i = 12))])) p0 = some (.lst [V.bl (decide (i < 8)), V.bl (decide (8 ≤ i ∧ i < 12)), V.bl (decide (i = 12))]) := upd_same
    generalize upd H p0 (.lst [V.bl (decide (i < 8)), V.bl (decide (8 ≤ i ∧ i < 12)), V.bl (decide (i = 12))]) = J0 at *
    refine ⟨_, rfl, _, rfl, v, .ty "LookupError", D, fs, .type "LookupError", _, rfl, hx.same t0, okD, .ty "LookupError", kit_exT (sub 3 "LookupError" _ rfl rfl), ?_⟩
    refine ⟨_, rfl, v, .ty "ArithmeticError", D, fs, .type "ArithmeticError", _, rfl, hx.same t0, okD, .ty "ArithmeticError", kit_exT (sub 4 "ArithmeticError" _ rfl rfl), ?_⟩
    refine ⟨_, rfl, v, .ty "OverflowError", D, fs, .type "OverflowError", _, rfl, hx.same t0, okD, .ty "OverflowError", kit_exT (sub 5 "OverflowError" _ rfl rfl), ?_⟩
    refine ⟨by show 3 ≤ sizeLine; decide, fun p1 n1 => ?_⟩
    have t1 := Same.new (o := .lst [V.bl (decide (8 ≤ i ∧ i < 17)), V.bl (decide (i = 17 ∨ i = 20 ∨ i = 21)), V.bl (decide (19 < i))]) n1
    refine ⟨_, _, _, _, rfl, rfl, t1 _ _ g0, upd_same, by show 6 ≤ sizeLine; decide, fun r1 m1 => ?_⟩
    have u1 := Same.trans t1 (Same.new (o := .lst ([V.bl (decide (i < 8)), V.bl (decide (8 ≤ i ∧ i < 12)), V.bl (decide (i = 12))] ++ [V.bl (decide (8 ≤ i ∧ i < 17)), V.bl (decide (i = 17 ∨ i = 20 ∨ i = 21)), V.bl (decide (19 < i))])) m1)
    have g1 : (upd (upd J0 p1 (.lst [V.bl (decide (8 ≤ i ∧ i < 17)), V.bl (decide (i = 17 ∨ i = 20 ∨ i = 21)), V.bl (decide (19 < i))])) r1 (.lst ([V.bl (decide (i < 8)), V.bl (decide (8 ≤ i ∧ i < 12)), V.bl (decide (i = 12))] ++ [V.bl (decide (8 ≤ i ∧ i < 17)), V.bl (decide (i = 17 ∨ i = 20 ∨ i = 21)), V.bl (decide (19 < i))]))) r1 = some (.lst [V.bl (decide (i < 8)), V.bl (decide (8 ≤ i ∧ i < 12)), V.bl (decide (i = 12)), V.bl (decide (8 ≤ i ∧ i < 17)), V.bl (decide (i = 17 ∨ i = 20 ∨ i = 21)), V.bl (decide (19 < i))]) := upd_same
    generalize upd (upd J0 p1 (.lst [V.bl (decide (8 ≤ i ∧ i < 17)), V.bl (decide (i = 17 ∨ i = 20 ∨ i = 21)), V.bl (decide (19 < i))])) r1 (.lst ([V.bl (decide (i < 8)), V.bl (decide (8 ≤ i ∧ i < 12)), V.bl (decide (i = 12))] ++ [V.bl (decide (8 ≤ i ∧ i < 17)), V.bl (decide (i = 17 ∨ i = 20 ∨ i = 21)), V.bl (decide (19 < i))])) = J1 at *
    have w1 := Same.trans t0 u1
    refine ⟨_, rfl, _, rfl, v, .ty "RuntimeError", D, fs, .type "RuntimeError", _, rfl, hx.same w1, okD, .ty "RuntimeError", kit_exT (sub 6 "RuntimeError" _ rfl rfl), ?_⟩
    refine ⟨by show 1 ≤ sizeLine; decide, fun p2 n2 => ?_⟩
    have t2 := Same.new (o := .lst [V.bl (decide (i = 18 ∨ i = 19))]) n2
    refine ⟨_, _, _, _, rfl, rfl, t2 _ _ g1, upd_same, by show 7 ≤ sizeLine; decide, fun r2 m2 => ?_⟩
    have u2 := Same.trans t2 (Same.new (o := .lst ([V.bl (decide (i < 8)), V.bl (decide (8 ≤ i ∧ i < 12)), V.bl (decide (i = 12)), V.bl (decide (8 ≤ i ∧ i < 17)), V.bl (decide (i = 17 ∨ i = 20 ∨ i = 21)), V.bl (decide (19 < i))] ++ [V.bl (decide (i = 18 ∨ i = 19))])) m2)
    have g2 : (upd (upd J1 p2 (.lst [V.bl (decide (i = 18 ∨ i = 19))])) r2 (.lst ([V.bl (decide (i < 8)), V.bl (decide (8 ≤ i ∧ i < 12)), V.bl (decide (i = 12)), V.bl (decide (8 ≤ i ∧ i < 17)), V.bl (decide (i = 17 ∨ i = 20 ∨ i = 21)), V.bl (decide (19 < i))] ++ [V.bl (decide (i = 18 ∨ i = 19))]))) r2 = some (.lst [V.bl (decide (i < 8)), V.bl (decide (8 ≤ i ∧ i < 12)), V.bl (decide (i = 12)), V.bl (decide (8 ≤ i ∧ i < 17)), V.bl (decide (i = 17 ∨ i = 20 ∨ i = 21)), V.bl (decide (19 < i)), V.bl (decide (i = 18 ∨ i = 19))]) := upd_same
    generalize upd (upd J1 p2 (.lst [V.bl (decide (i = 18 ∨ i = 19))])) r2 (.lst ([V.bl (decide (i < 8)), V.bl (decide (8 ≤ i ∧ i < 12)), V.bl (decide (i = 12)), V.bl (decide (8 ≤ i ∧ i < 17)), V.bl (decide (i = 17 ∨ i = 20 ∨ i = 21)), V.bl (decide (19 < i))] ++ [V.bl (decide (i = 18 ∨ i = 19))])) = J2 at *
    have w2 := Same.trans w1 u2
    exact k r2 J2 w2 g2
theorem sc_law_above_due : FnScope ["_law_which"] ["_law_which"] (defScope s_law_above_due) := ⟨rfl, rfl, rfl, by decide +kernel, rfl, by decide +kernel, by decide +kernel⟩
theorem ok_law_above_due {f : Addr} {fd : FuncData} (F : Fun K "_law_above_due" "_law_above_due" s_law_above_due f fd) (T : Txt K mg C_Bare C_Full C_NoBack C_NoDeed C_NoEnd C_NoFold C_NoGiven C_NoMachine C_NoMark C_NoName C_NoNumber C_NoPairs C_NoRow C_NoSeam C_NoSign C_NoStep C_NoText C_NoThing C_NoTree C_NoWords C_Taken C_TooMany) : FnOk P w K mg base CX0 1 f fd ["_law_which"] (sp_law_above_due K) := by
  refine F.ok sc_law_above_due (fun vs H Q E h => ?_) (fun cdv A outer s H vs Q E hr h => ?_)
  · obtain ⟨i, rfl, _⟩ := h
    all_goals rfl
  · obtain ⟨i, rfl, hi, k⟩ := h
    refine ⟨_, (pss_cons (ps_if (pt_cmpR op_lt (pv 0) pe_int (nomark _)) (pss_one (ps_ret (pe_lst (pa_cons pe_bl (pa_cons pe_bl (pa_cons pe_bl (pa_cons pe_bl (pa_cons pe_bl (pa_cons pe_bl (pa_cons pe_bl pa_nil)))))))))) pss_nil)
    (pss_cons (ps_if (pt_cmpR op_lt (pv 0) pe_int (nomark _)) (pss_one (ps_ret (pe_lst (pa_cons pe_bl (pa_cons pe_bl (pa_cons pe_bl (pa_cons pe_bl (pa_cons pe_bl (pa_cons pe_bl (pa_cons pe_bl pa_nil)))))))))) pss_nil)
    (pss_cons (ps_if (pt_cmpR op_lt (pv 0) pe_int (nomark _)) (pss_one (ps_ret (pe_lst (pa_cons pe_bl (pa_cons pe_bl (pa_cons (pe_cmpR op_eq (pv 0) pe_int (nomark _)) (pa_cons pe_bl (pa_cons pe_bl (pa_cons pe_bl (pa_cons pe_bl pa_nil)))))))))) pss_nil)
    (pss_one (ps_ret (pe_lst (pa_cons pe_bl (pa_cons pe_bl (pa_cons pe_bl (pa_cons pe_bl (pa_cons (pe_cmpR (op_inK (K := K)) (pv 0) (pe_tup (pa_cons pe_int (pa_cons pe_int (pa_cons pe_int pa_nil)))) (by rfl)) (pa_cons (pe_cmpR op_gt (pv 0) pe_int (nomark _)) (pa_cons (pe_cmpR (op_inK (K := K)) (pv 0) (pe_tup (pa_cons pe_int (pa_cons pe_int pa_nil))) (by rfl)) pa_nil))))))))))))), ?_⟩
    refine ⟨_, rfl, _, _, rfl, rfl, _, rfl, ?_⟩
    by_cases h8 : i < 8
    · rw [decide_eq_true (show (i : Int) < 8 by omega)]
      refine iteT ⟨by show 7 ≤ sizeLine; decide, fun p hp => k p _ (Same.new hp) ?_⟩
      rw [upd_same, (show ∀ j, j < 8 → abv j = [true, false, false, false, false, false, false] by decide) i h8]
      rfl
    rw [decide_eq_false (show ¬ (i : Int) < 8 by omega)]
    refine iteF ⟨_, rfl, _, _, rfl, rfl, _, rfl, ?_⟩
    by_cases h12 : i < 12
    · rw [decide_eq_true (show (i : Int) < 12 by omega)]
      refine iteT ⟨by show 7 ≤ sizeLine; decide, fun p hp => k p _ (Same.new hp) ?_⟩
      rw [upd_same, (show ∀ j, j < 12 → 8 ≤ j → abv j = [false, true, false, true, false, false, false] by decide) i h12 (by omega)]
      rfl
    rw [decide_eq_false (show ¬ (i : Int) < 12 by omega)]
    refine iteF ⟨_, rfl, _, _, rfl, rfl, _, rfl, ?_⟩
    by_cases h17 : i < 17
    · rw [decide_eq_true (show (i : Int) < 17 by omega)]
      refine iteT ⟨_, rfl, rfl, by show 7 ≤ sizeLine; decide, fun p hp => k p _ (Same.new hp) ?_⟩
      rw [upd_same, (show ∀ j, j < 17 → 12 ≤ j → abv j = [false, false, decide (j = 12), true, false, false, false] by decide) i h17 (by omega), show decide (V.int (i : Int) = V.int 12) = decide (i = 12) from decide_eq_decide.mpr ⟨fun e => by injection e with e; omega, fun e => by rw [e]; rfl⟩]
      rfl
    rw [decide_eq_false (show ¬ (i : Int) < 17 by omega)]
    refine iteF ⟨_, rfl, by show 3 ≤ sizeLine; decide, fun t1 n1 => ?_⟩
    have s1 := Same.new (o := .tup [V.int 17, V.int 20, V.int 21]) n1
    refine ⟨t1, _, rfl, .inr (SqT.of upd_same), rfl, flat_nats [17, 20, 21], _, rfl, _, _, rfl, rfl, _, rfl, by show 2 ≤ sizeLine; decide, fun t2 n2 => ?_⟩
    have s2 := Same.trans s1 (Same.new (o := .tup [V.int 18, V.int 19]) n2)
    refine ⟨t2, _, rfl, .inr (SqT.of upd_same), rfl, flat_nats [18, 19], by show 7 ≤ sizeLine; decide, fun p hp => k p _ (Same.trans s2 (Same.new hp)) ?_⟩
    rw [upd_same, if_neg (by decide), if_neg (by decide), show inV (V.int (i : Int)) [V.int 17, V.int 20, V.int 21] = decide (i ∈ ([17, 20, 21] : List Nat)) from in_nats i [17, 20, 21], show inV (V.int (i : Int)) [V.int 18, V.int 19] = decide (i ∈ ([18, 19] : List Nat)) from in_nats i [18, 19],
      (show ∀ j, j < 22 → 17 ≤ j → abv j = [false, false, false, false, decide (j ∈ ([17, 20, 21] : List Nat)), decide (19 < j), decide (j ∈ ([18, 19] : List Nat))] by decide) i hi (by omega),
      show decide (19 < i) = decide ((19 : Int) < (i : Int)) from decide_eq_decide.mpr (by omega)]
    rfl
theorem sc_law_fields : FnScope ["_law_e", "_law_which"] ["_law_e", "_law_which"] (defScope s_law_fields) := ⟨rfl, rfl, rfl, by decide +kernel, rfl, by decide +kernel, by decide +kernel⟩
theorem ok_law_fields {f : Addr} {fd : FuncData} (F : Fun K "_law_fields" "_law_fields" s_law_fields f fd) (T : Txt K mg C_Bare C_Full C_NoBack C_NoDeed C_NoEnd C_NoFold C_NoGiven C_NoMachine C_NoMark C_NoName C_NoNumber C_NoPairs C_NoRow C_NoSeam C_NoSign C_NoStep C_NoText C_NoThing C_NoTree C_NoWords C_Taken C_TooMany) : FnOk P w K mg base CX0 1 f fd ["_law_e", "_law_which"] (sp_law_fields K C_NoRow C_NoText C_NoWords C_NoSign C_NoTree C_NoGiven C_NoPairs C_NoMachine C_NoDeed C_NoMark C_NoName C_NoEnd C_NoThing C_NoNumber C_NoStep C_Bare C_NoSeam C_NoBack C_Taken C_NoFold C_Full C_TooMany) := by
  refine F.ok sc_law_fields (fun vs H Q E h => ?_) (fun cdv A outer s H vs Q E hr h => ?_)
  · obtain ⟨v, D, i, x, y, rfl, _⟩ := h
    all_goals rfl
  · obtain ⟨v, D, i, x, y, rfl, hx, hD, k⟩ := h
    refine ⟨_, (pss_cons (ps_if (pt_cmpR (op_inK (K := K)) (pv 1) (pe_tup (pa_cons pe_int (pa_cons pe_int (pa_cons pe_int pa_nil)))) (by rfl)) (pss_one (ps_ret (pe_lst (pa_cons (pe_xfV (K := K) (pv 0)) pa_nil)))) pss_nil)
    (pss_cons (ps_if (pt_cmpR (op_inK (K := K)) (pv 1) (pe_tup (pa_cons pe_int (pa_cons pe_int (pa_cons pe_int (pa_cons pe_int (pa_cons pe_int pa_nil)))))) (by rfl)) (pss_one (ps_ret (pe_lst (pa_cons (pe_xfV (K := K) (pv 0)) pa_nil)))) pss_nil)
    (pss_cons (ps_if (pt_cmpR (op_inK (K := K)) (pv 1) (pe_tup (pa_cons pe_int (pa_cons pe_int pa_nil))) (by rfl)) (pss_one (ps_ret (pe_lst (pa_cons (pe_xfV (K := K) (pv 0)) (pa_cons (pe_xfV (K := K) (pv 0)) pa_nil))))) pss_nil)
    (pss_cons (ps_if (pt_cmpR op_eq (pv 1) pe_int (nomark _)) (pss_one (ps_ret (pe_lst (pa_cons (pe_xfV (K := K) (pv 0)) pa_nil)))) pss_nil)
    (pss_cons (ps_if (pt_cmpR (op_inK (K := K)) (pv 1) (pe_tup (pa_cons pe_int (pa_cons pe_int pa_nil))) (by rfl)) (pss_one (ps_ret (pe_lst (pa_cons (pe_xfV (K := K) (pv 0)) pa_nil)))) pss_nil)
    (pss_cons (ps_if (pt_cmpR op_eq (pv 1) pe_int (nomark _)) (pss_one (ps_ret (pe_lst (pa_cons (pe_xfV (K := K) (pv 0)) pa_nil)))) pss_nil)
    (pss_cons (ps_if (pt_cmpR (op_inK (K := K)) (pv 1) (pe_tup (pa_cons pe_int (pa_cons pe_int pa_nil))) (by rfl)) (pss_one (ps_ret (pe_lst (pa_cons (pe_xfV (K := K) (pv 0)) pa_nil)))) pss_nil)
    (pss_cons (ps_if (pt_cmpR op_eq (pv 1) pe_int (nomark _)) (pss_one (ps_ret (pe_lst (pa_cons (pe_xfV (K := K) (pv 0)) (pa_cons (pe_xfV (K := K) (pv 0)) pa_nil))))) pss_nil)
    (pss_cons (ps_if (pt_cmpR op_lt (pv 1) pe_int (nomark _)) (pss_one (ps_ret (pe_lst pa_nil))) pss_nil)
    (pss_cons (ps_if (pt_cmpR op_eq (pv 1) pe_int (nomark _)) (pss_one (ps_ret (pe_lst (pa_cons (pe_xfV (K := K) (pv 0)) pa_nil)))) pss_nil)
    (pss_one (ps_ret (pe_lst (pa_cons (pe_xfV (K := K) (pv 0)) pa_nil)))))))))))))), ?_⟩
    have hi : i < 22 := (List.getElem?_eq_some_iff.mp hD).1
    have inn : ∀ l : List Nat, inV (V.int (i : Int)) (l.map fun (n : Nat) => V.int (n : Int)) = decide (i ∈ l) := fun l => in_nats i l
    have flt : ∀ l : List Nat, (l.map fun (n : Nat) => V.int (n : Int)).all flatV = true := fun l => flat_nats l
    refine ⟨_, rfl, by show 3 ≤ sizeLine; decide, fun t0 n0 => ?_⟩
    have s0 := Same.trans (Same.refl H) (Same.new (o := .tup [V.int 3, V.int 4, V.int 11]) n0)
    refine ⟨t0, _, rfl, .inr (SqT.of upd_same), rfl, flt [3, 4, 11], _, rfl, ?_⟩
    rw [if_neg (by decide), show inV (V.int (i : Int)) [V.int 3, V.int 4, V.int 11] = decide (i ∈ ([3, 4, 11] : List Nat)) from inn [3, 4, 11]]
    by_cases h0 : i ∈ ([3, 4, 11] : List Nat)
    · rw [decide_eq_true h0]
      refine iteT ?_
      simp only [List.mem_cons, List.not_mem_nil, or_false] at h0
      rcases h0 with rfl | rfl | rfl
      · obtain rfl : C_NoSign = D := Option.some.inj hD
        have hv : ExV H v C_NoSign [(Str.ofString "place", x)] := hx
        exact ⟨_, rfl, C_NoSign, [(Str.ofString "place", x)], _, hv.same s0, T.x_NoSign.xf, T.y_NoSign_place, (by rfl), by show 1 ≤ sizeLine; decide, fun p hp => k p _ (Same.trans s0 (Same.new hp)) upd_same⟩
      · obtain rfl : C_NoTree = D := Option.some.inj hD
        have hv : ExV H v C_NoTree [(Str.ofString "place", x)] := hx
        exact ⟨_, rfl, C_NoTree, [(Str.ofString "place", x)], _, hv.same s0, T.x_NoTree.xf, T.y_NoTree_place, (by rfl), by show 1 ≤ sizeLine; decide, fun p hp => k p _ (Same.trans s0 (Same.new hp)) upd_same⟩
      · obtain rfl : C_NoEnd = D := Option.some.inj hD
        have hv : ExV H v C_NoEnd [(Str.ofString "place", x)] := hx
        exact ⟨_, rfl, C_NoEnd, [(Str.ofString "place", x)], _, hv.same s0, T.x_NoEnd.xf, T.y_NoEnd_place, (by rfl), by show 1 ≤ sizeLine; decide, fun p hp => k p _ (Same.trans s0 (Same.new hp)) upd_same⟩
    rw [decide_eq_false h0]
    refine iteF ?_
    simp only [List.mem_cons, List.not_mem_nil, or_false, not_or] at h0
    refine ⟨_, rfl, by show 5 ≤ sizeLine; decide, fun t1 n1 => ?_⟩
    have s1 := Same.trans s0 (Same.new (o := .tup [V.int 5, V.int 6, V.int 7, V.int 13, V.int 14]) n1)
    refine ⟨t1, _, rfl, .inr (SqT.of upd_same), rfl, flt [5, 6, 7, 13, 14], _, rfl, ?_⟩
    rw [if_neg (by decide), show inV (V.int (i : Int)) [V.int 5, V.int 6, V.int 7, V.int 13, V.int 14] = decide (i ∈ ([5, 6, 7, 13, 14] : List Nat)) from inn [5, 6, 7, 13, 14]]
    by_cases h1 : i ∈ ([5, 6, 7, 13, 14] : List Nat)
    · rw [decide_eq_true h1]
      refine iteT ?_
      simp only [List.mem_cons, List.not_mem_nil, or_false] at h1
      rcases h1 with rfl | rfl | rfl | rfl | rfl
      · obtain rfl : C_NoGiven = D := Option.some.inj hD
        have hv : ExV H v C_NoGiven [(Str.ofString "number", x)] := hx
        exact ⟨_, rfl, C_NoGiven, [(Str.ofString "number", x)], _, hv.same s1, T.x_NoGiven.xf, T.y_NoGiven_number, (by rfl), by show 1 ≤ sizeLine; decide, fun p hp => k p _ (Same.trans s1 (Same.new hp)) upd_same⟩
      · obtain rfl : C_NoPairs = D := Option.some.inj hD
        have hv : ExV H v C_NoPairs [(Str.ofString "number", x)] := hx
        exact ⟨_, rfl, C_NoPairs, [(Str.ofString "number", x)], _, hv.same s1, T.x_NoPairs.xf, T.y_NoPairs_number, (by rfl), by show 1 ≤ sizeLine; decide, fun p hp => k p _ (Same.trans s1 (Same.new hp)) upd_same⟩
      · obtain rfl : C_NoMachine = D := Option.some.inj hD
        have hv : ExV H v C_NoMachine [(Str.ofString "number", x)] := hx
        exact ⟨_, rfl, C_NoMachine, [(Str.ofString "number", x)], _, hv.same s1, T.x_NoMachine.xf, T.y_NoMachine_number, (by rfl), by show 1 ≤ sizeLine; decide, fun p hp => k p _ (Same.trans s1 (Same.new hp)) upd_same⟩
      · obtain rfl : C_NoNumber = D := Option.some.inj hD
        have hv : ExV H v C_NoNumber [(Str.ofString "number", x)] := hx
        exact ⟨_, rfl, C_NoNumber, [(Str.ofString "number", x)], _, hv.same s1, T.x_NoNumber.xf, T.y_NoNumber_number, (by rfl), by show 1 ≤ sizeLine; decide, fun p hp => k p _ (Same.trans s1 (Same.new hp)) upd_same⟩
      · obtain rfl : C_NoStep = D := Option.some.inj hD
        have hv : ExV H v C_NoStep [(Str.ofString "number", x)] := hx
        exact ⟨_, rfl, C_NoStep, [(Str.ofString "number", x)], _, hv.same s1, T.x_NoStep.xf, T.y_NoStep_number, (by rfl), by show 1 ≤ sizeLine; decide, fun p hp => k p _ (Same.trans s1 (Same.new hp)) upd_same⟩
    rw [decide_eq_false h1]
    refine iteF ?_
    simp only [List.mem_cons, List.not_mem_nil, or_false, not_or] at h1
    refine ⟨_, rfl, by show 2 ≤ sizeLine; decide, fun t2 n2 => ?_⟩
    have s2 := Same.trans s1 (Same.new (o := .tup [V.int 15, V.int 18]) n2)
    refine ⟨t2, _, rfl, .inr (SqT.of upd_same), rfl, flt [15, 18], _, rfl, ?_⟩
    rw [if_neg (by decide), show inV (V.int (i : Int)) [V.int 15, V.int 18] = decide (i ∈ ([15, 18] : List Nat)) from inn [15, 18]]
    by_cases h2 : i ∈ ([15, 18] : List Nat)
    · rw [decide_eq_true h2]
      refine iteT ?_
      simp only [List.mem_cons, List.not_mem_nil, or_false] at h2
      rcases h2 with rfl | rfl
      · obtain rfl : C_Bare = D := Option.some.inj hD
        have hv : ExV H v C_Bare [(Str.ofString "thing", y), (Str.ofString "deed", x)] := hx
        exact ⟨_, rfl, C_Bare, [(Str.ofString "thing", y), (Str.ofString "deed", x)], _, hv.same s2, T.x_Bare.xf, T.y_Bare_deed, (by rfl), _, rfl, C_Bare, [(Str.ofString "thing", y), (Str.ofString "deed", x)], _, hv.same s2, T.x_Bare.xf, T.y_Bare_thing, (by rfl), by show 2 ≤ sizeLine; decide, fun p hp => k p _ (Same.trans s2 (Same.new hp)) upd_same⟩
      · obtain rfl : C_Taken = D := Option.some.inj hD
        have hv : ExV H v C_Taken [(Str.ofString "thing", y), (Str.ofString "deed", x)] := hx
        exact ⟨_, rfl, C_Taken, [(Str.ofString "thing", y), (Str.ofString "deed", x)], _, hv.same s2, T.x_Taken.xf, T.y_Taken_deed, (by rfl), _, rfl, C_Taken, [(Str.ofString "thing", y), (Str.ofString "deed", x)], _, hv.same s2, T.x_Taken.xf, T.y_Taken_thing, (by rfl), by show 2 ≤ sizeLine; decide, fun p hp => k p _ (Same.trans s2 (Same.new hp)) upd_same⟩
    rw [decide_eq_false h2]
    refine iteF ?_
    simp only [List.mem_cons, List.not_mem_nil, or_false, not_or] at h2
    refine ⟨_, rfl, rfl, _, rfl, ?_⟩
    by_cases h3 : i = 8
    · subst h3
      refine iteT ?_
      obtain rfl : C_NoDeed = D := Option.some.inj hD
      have hv : ExV H v C_NoDeed [(Str.ofString "deed", x)] := hx
      exact ⟨_, rfl, C_NoDeed, [(Str.ofString "deed", x)], _, hv.same s2, T.x_NoDeed.xf, T.y_NoDeed_deed, (by rfl), by show 1 ≤ sizeLine; decide, fun p hp => k p _ (Same.trans s2 (Same.new hp)) upd_same⟩
    rw [decide_eq_false (show ¬ V.int (i : Int) = .int 8 from fun e => h3 (by injection e with e; omega))]
    refine iteF ?_
    refine ⟨_, rfl, by show 2 ≤ sizeLine; decide, fun t4 n4 => ?_⟩
    have s4 := Same.trans s2 (Same.new (o := .tup [V.int 9, V.int 10]) n4)
    refine ⟨t4, _, rfl, .inr (SqT.of upd_same), rfl, flt [9, 10], _, rfl, ?_⟩
    rw [if_neg (by decide), show inV (V.int (i : Int)) [V.int 9, V.int 10] = decide (i ∈ ([9, 10] : List Nat)) from inn [9, 10]]
    by_cases h4 : i ∈ ([9, 10] : List Nat)
    · rw [decide_eq_true h4]
      refine iteT ?_
      simp only [List.mem_cons, List.not_mem_nil, or_false] at h4
      rcases h4 with rfl | rfl
      · obtain rfl : C_NoMark = D := Option.some.inj hD
        have hv : ExV H v C_NoMark [(Str.ofString "name", x)] := hx
        exact ⟨_, rfl, C_NoMark, [(Str.ofString "name", x)], _, hv.same s4, T.x_NoMark.xf, T.y_NoMark_name, (by rfl), by show 1 ≤ sizeLine; decide, fun p hp => k p _ (Same.trans s4 (Same.new hp)) upd_same⟩
      · obtain rfl : C_NoName = D := Option.some.inj hD
        have hv : ExV H v C_NoName [(Str.ofString "name", x)] := hx
        exact ⟨_, rfl, C_NoName, [(Str.ofString "name", x)], _, hv.same s4, T.x_NoName.xf, T.y_NoName_name, (by rfl), by show 1 ≤ sizeLine; decide, fun p hp => k p _ (Same.trans s4 (Same.new hp)) upd_same⟩
    rw [decide_eq_false h4]
    refine iteF ?_
    simp only [List.mem_cons, List.not_mem_nil, or_false, not_or] at h4
    refine ⟨_, rfl, rfl, _, rfl, ?_⟩
    by_cases h5 : i = 12
    · subst h5
      refine iteT ?_
      obtain rfl : C_NoThing = D := Option.some.inj hD
      have hv : ExV H v C_NoThing [(Str.ofString "thing", x)] := hx
      exact ⟨_, rfl, C_NoThing, [(Str.ofString "thing", x)], _, hv.same s4, T.x_NoThing.xf, T.y_NoThing_thing, (by rfl), by show 1 ≤ sizeLine; decide, fun p hp => k p _ (Same.trans s4 (Same.new hp)) upd_same⟩
    rw [decide_eq_false (show ¬ V.int (i : Int) = .int 12 from fun e => h5 (by injection e with e; omega))]
    refine iteF ?_
    refine ⟨_, rfl, by show 2 ≤ sizeLine; decide, fun t6 n6 => ?_⟩
    have s6 := Same.trans s4 (Same.new (o := .tup [V.int 17, V.int 21]) n6)
    refine ⟨t6, _, rfl, .inr (SqT.of upd_same), rfl, flt [17, 21], _, rfl, ?_⟩
    rw [if_neg (by decide), show inV (V.int (i : Int)) [V.int 17, V.int 21] = decide (i ∈ ([17, 21] : List Nat)) from inn [17, 21]]
    by_cases h6 : i ∈ ([17, 21] : List Nat)
    · rw [decide_eq_true h6]
      refine iteT ?_
      simp only [List.mem_cons, List.not_mem_nil, or_false] at h6
      rcases h6 with rfl | rfl
      · obtain rfl : C_NoBack = D := Option.some.inj hD
        have hv : ExV H v C_NoBack [(Str.ofString "many", x)] := hx
        exact ⟨_, rfl, C_NoBack, [(Str.ofString "many", x)], _, hv.same s6, T.x_NoBack.xf, T.y_NoBack_many, (by rfl), by show 1 ≤ sizeLine; decide, fun p hp => k p _ (Same.trans s6 (Same.new hp)) upd_same⟩
      · obtain rfl : C_TooMany = D := Option.some.inj hD
        have hv : ExV H v C_TooMany [(Str.ofString "many", x)] := hx
        exact ⟨_, rfl, C_TooMany, [(Str.ofString "many", x)], _, hv.same s6, T.x_TooMany.xf, T.y_TooMany_many, (by rfl), by show 1 ≤ sizeLine; decide, fun p hp => k p _ (Same.trans s6 (Same.new hp)) upd_same⟩
    rw [decide_eq_false h6]
    refine iteF ?_
    simp only [List.mem_cons, List.not_mem_nil, or_false, not_or] at h6
    refine ⟨_, rfl, rfl, _, rfl, ?_⟩
    by_cases h7 : i = 19
    · subst h7
      refine iteT ?_
      obtain rfl : C_NoFold = D := Option.some.inj hD
      have hv : ExV H v C_NoFold [(Str.ofString "other", y), (Str.ofString "one", x)] := hx
      exact ⟨_, rfl, C_NoFold, [(Str.ofString "other", y), (Str.ofString "one", x)], _, hv.same s6, T.x_NoFold.xf, T.y_NoFold_one, (by rfl), _, rfl, C_NoFold, [(Str.ofString "other", y), (Str.ofString "one", x)], _, hv.same s6, T.x_NoFold.xf, T.y_NoFold_other, (by rfl), by show 2 ≤ sizeLine; decide, fun p hp => k p _ (Same.trans s6 (Same.new hp)) upd_same⟩
    rw [decide_eq_false (show ¬ V.int (i : Int) = .int 19 from fun e => h7 (by injection e with e; omega))]
    refine iteF ?_
    refine ⟨_, rfl, _, _, rfl, rfl, _, rfl, ?_⟩
    by_cases h8 : i < 3
    · rw [decide_eq_true (show (i : Int) < 3 by omega)]
      refine iteT ?_
      by_cases e0 : i = 0
      · subst e0
        exact ⟨by show 0 ≤ sizeLine; decide, fun p hp => k p _ (Same.trans s6 (Same.new hp)) upd_same⟩
      by_cases e1 : i = 1
      · subst e1
        exact ⟨by show 0 ≤ sizeLine; decide, fun p hp => k p _ (Same.trans s6 (Same.new hp)) upd_same⟩
      obtain rfl : i = 2 := by omega
      exact ⟨by show 0 ≤ sizeLine; decide, fun p hp => k p _ (Same.trans s6 (Same.new hp)) upd_same⟩
    rw [decide_eq_false (show ¬ (i : Int) < 3 by omega)]
    refine iteF ?_
    refine ⟨_, rfl, rfl, _, rfl, ?_⟩
    by_cases h9 : i = 16
    · subst h9
      refine iteT ?_
      obtain rfl : C_NoSeam = D := Option.some.inj hD
      have hv : ExV H v C_NoSeam [(Str.ofString "seam", x)] := hx
      exact ⟨_, rfl, C_NoSeam, [(Str.ofString "seam", x)], _, hv.same s6, T.x_NoSeam.xf, T.y_NoSeam_seam, (by rfl), by show 1 ≤ sizeLine; decide, fun p hp => k p _ (Same.trans s6 (Same.new hp)) upd_same⟩
    rw [decide_eq_false (show ¬ V.int (i : Int) = .int 16 from fun e => h9 (by injection e with e; omega))]
    refine iteF ?_
    obtain rfl : i = 20 := by omega
    obtain rfl : C_Full = D := Option.some.inj hD
    have hv : ExV H v C_Full [(Str.ofString "size", x)] := hx
    exact ⟨_, rfl, C_Full, [(Str.ofString "size", x)], _, hv.same s6, T.x_Full.xf, T.y_Full_size, (by rfl), by show 1 ≤ sizeLine; decide, fun p hp => k p _ (Same.trans s6 (Same.new hp)) upd_same⟩
theorem sc_law : FnScope ["_law_script", "_law_k", "_law_pool_here", "_law_which", "_law_some", "_law_one", "_law_other", "_law_error", "_law_second", "_law_many", "_law_number"] ["_law_script"] (defScope s_law) := ⟨rfl, rfl, rfl, by decide +kernel, rfl, by decide +kernel, by decide +kernel⟩
theorem ok_law {f : Addr} {fd : FuncData} (F : Fun K "law" "law" s_law f fd) (T : Txt K mg C_Bare C_Full C_NoBack C_NoDeed C_NoEnd C_NoFold C_NoGiven C_NoMachine C_NoMark C_NoName C_NoNumber C_NoPairs C_NoRow C_NoSeam C_NoSign C_NoStep C_NoText C_NoThing C_NoTree C_NoWords C_Taken C_TooMany) (kn_law_pool : KN P w K mg base CX0 1 ["_law_script", "_law_k"] (sp_law_pool K) "_law_pool" []) (kn_law_take : KN P w K mg base CX0 1 ["_law_pool_here", "_law_many"] (sp_law_take) "_law_take" []) (kn_law_made : KN P w K mg base CX0 3 ["_law_which", "_law_one", "_law_other"] (sp_law_made K C_NoRow C_NoText C_NoWords C_NoSign C_NoTree C_NoGiven C_NoPairs C_NoMachine C_NoDeed C_NoMark C_NoName C_NoEnd C_NoThing C_NoNumber C_NoStep C_Bare C_NoSeam C_NoBack C_Taken C_NoFold C_Full C_TooMany) "_law_made" []) (kn_law_kinds : KN P w K mg base CX0 1 ["_law_e"] (sp_law_kinds K C_NoRow C_NoText C_NoWords C_NoSign C_NoTree C_NoGiven C_NoPairs C_NoMachine C_NoDeed C_NoMark C_NoName C_NoEnd C_NoThing C_NoNumber C_NoStep C_Bare C_NoSeam C_NoBack C_Taken C_NoFold C_Full C_TooMany) "_law_kinds" []) (kn_law_above : KN P w K mg base CX0 1 ["_law_e"] (sp_law_above K C_NoRow C_NoText C_NoWords C_NoSign C_NoTree C_NoGiven C_NoPairs C_NoMachine C_NoDeed C_NoMark C_NoName C_NoEnd C_NoThing C_NoNumber C_NoStep C_Bare C_NoSeam C_NoBack C_Taken C_NoFold C_Full C_TooMany) "_law_above" []) (kn_law_above_due : KN P w K mg base CX0 1 ["_law_which"] (sp_law_above_due K) "_law_above_due" []) (kn_law_fields : KN P w K mg base CX0 1 ["_law_e", "_law_which"] (sp_law_fields K C_NoRow C_NoText C_NoWords C_NoSign C_NoTree C_NoGiven C_NoPairs C_NoMachine C_NoDeed C_NoMark C_NoName C_NoEnd C_NoThing C_NoNumber C_NoStep C_Bare C_NoSeam C_NoBack C_Taken C_NoFold C_Full C_TooMany) "_law_fields" []) : FnOk P w K mg base CX0 4 f fd ["_law_script"] (sp_law K) := by
  obtain ⟨f_law_pool, fd_law_pool, ds_law_pool, m_law_pool, k_law_pool, v_law_pool, b_law_pool, G_law_pool⟩ := kn_law_pool
  obtain ⟨f_law_take, fd_law_take, ds_law_take, m_law_take, k_law_take, v_law_take, b_law_take, G_law_take⟩ := kn_law_take
  obtain ⟨f_law_made, fd_law_made, ds_law_made, m_law_made, k_law_made, v_law_made, b_law_made, G_law_made⟩ := kn_law_made
  obtain ⟨f_law_kinds, fd_law_kinds, ds_law_kinds, m_law_kinds, k_law_kinds, v_law_kinds, b_law_kinds, G_law_kinds⟩ := kn_law_kinds
  obtain ⟨f_law_above, fd_law_above, ds_law_above, m_law_above, k_law_above, v_law_above, b_law_above, G_law_above⟩ := kn_law_above
  obtain ⟨f_law_above_due, fd_law_above_due, ds_law_above_due, m_law_above_due, k_law_above_due, v_law_above_due, b_law_above_due, G_law_above_due⟩ := kn_law_above_due
  obtain ⟨f_law_fields, fd_law_fields, ds_law_fields, m_law_fields, k_law_fields, v_law_fields, b_law_fields, G_law_fields⟩ := kn_law_fields
  refine F.ok sc_law (fun vs H Q E h => ?_) (fun cdv A outer s H vs Q E hr h => ?_)
  · obtain ⟨a, ns, rfl, _⟩ := h
    all_goals rfl
  · obtain ⟨a, ns, rfl, hS, hlen, k⟩ := h
    refine ⟨_, (pss_cons (ps_for PassesOwn.never rfl (pi_range1 (by rfl) T.b_range (pa_cons (pe_callB (call_max2 rfl) (by rfl) T.b_max (by decide +kernel) (pa_cons pe_int (pa_cons (pe_callB (call_min2 rfl) (by rfl) T.b_min (by decide +kernel) (pa_cons (pe_callB (call_lenK (K := K)) (by rfl) T.b_len (by decide +kernel) (pa_cons (pv 0) pa_nil)) (pa_cons pe_int pa_nil))) pa_nil))) pa_nil)) (pg_name (i := 1) sc_law.nd rfl (Or.inl rfl)) (pss_cons (ps_set (i := 2) sc_law.nd rfl (Or.inl rfl) (pe_call G_law_pool (hr.mono (by decide)) rfl m_law_pool k_law_pool b_law_pool v_law_pool pass0 (pa_cons (pv 0) (pa_cons (pv 1) pa_nil))))
    (pss_one (ps_for PassesOwn.never rfl (pi_range1 (by rfl) T.b_range (pa_cons pe_int pa_nil)) (pg_name (i := 3) sc_law.nd rfl (Or.inr rfl)) (pss_cons (ps_set (i := 4) sc_law.nd rfl (Or.inl rfl) (pe_lst (pa_cons (pe_call G_law_take (hr.mono (by decide)) rfl m_law_take k_law_take b_law_take v_law_take pass0 (pa_cons (pv 2) (pa_cons pe_int pa_nil))) (pa_cons (pe_ix ix_str pe_str (pe_call G_law_take (hr.mono (by decide)) rfl m_law_take k_law_take b_law_take v_law_take pass0 (pa_cons (pv 2) (pa_cons pe_int pa_nil))) (fun _ _ => rfl)) (pa_cons pe_non (pa_cons (pe_tup (pa_cons (pe_call G_law_take (hr.mono (by decide)) rfl m_law_take k_law_take b_law_take v_law_take pass0 (pa_cons (pv 2) (pa_cons pe_int pa_nil))) (pa_cons pe_str pa_nil))) pa_nil))))))
    (pss_cons (ps_set (i := 5) sc_law.nd rfl (Or.inl rfl) (pe_ix (ix_listK (K := K)) (pv 4) (pe_call G_law_take (hr.mono (by decide)) rfl m_law_take k_law_take b_law_take v_law_take pass0 (pa_cons (pv 2) (pa_cons pe_int pa_nil))) (fun _ _ => rfl)))
    (pss_cons (ps_set (i := 6) sc_law.nd rfl (Or.inl rfl) (pe_ix (ix_listK (K := K)) (pv 4) (pe_call G_law_take (hr.mono (by decide)) rfl m_law_take k_law_take b_law_take v_law_take pass0 (pa_cons (pv 2) (pa_cons pe_int pa_nil))) (fun _ _ => rfl)))
    (pss_cons (ps_set (i := 7) sc_law.nd rfl (Or.inl rfl) (pe_call G_law_made (hr.mono (by decide)) rfl m_law_made k_law_made b_law_made v_law_made pass0 (pa_cons (pv 3) (pa_cons (pv 5) (pa_cons (pv 6) pa_nil)))))
    (pss_cons (ps_set (i := 8) sc_law.nd rfl (Or.inl rfl) (pe_call G_law_made (hr.mono (by decide)) rfl m_law_made k_law_made b_law_made v_law_made pass0 (pa_cons (pv 3) (pa_cons pe_str (pa_cons pe_str pa_nil)))))
    (pss_cons (ps_if (pt_cmpR (op_neDK (K := K) hr.units) (pe_call G_law_kinds (hr.mono (by decide)) rfl m_law_kinds k_law_kinds b_law_kinds v_law_kinds pass0 (pa_cons (pv 7) pa_nil)) (pe_lc (own := [("_law_number", 10)]) (g := gName 10) (tt := tYes) rfl sc_law.nd (pi_range1 (by rfl) T.b_range (pa_cons pe_int pa_nil)) (blkOk_by (own := [("_law_number", 10)]) (N := ["_law_script", "_law_k", "_law_pool_here", "_law_which", "_law_some", "_law_one", "_law_other", "_law_error", "_law_second", "_law_many", "_law_number"]) (sc := defScope s_law) (by decide +kernel)) (fun _ _ _ _ _ => (pg_name (i := 10) sc_law.nd rfl (Or.inl rfl))) (fun _ _ _ _ _ => pts_nil) (fun _ _ _ _ _ => (pe_cmpR op_eq (pv 10) (pv 3) (nomark _)))) (nomark _)) (pss_one (ps_ret pe_bl)) pss_nil)
    (pss_cons (ps_if (pt_cmpR (op_neDK (K := K) hr.units) (pe_call G_law_above (hr.mono (by decide)) rfl m_law_above k_law_above b_law_above v_law_above pass0 (pa_cons (pv 7) pa_nil)) (pe_call G_law_above_due (hr.mono (by decide)) rfl m_law_above_due k_law_above_due b_law_above_due v_law_above_due pass0 (pa_cons (pv 3) pa_nil)) (nomark _)) (pss_one (ps_ret pe_bl)) pss_nil)
    (pss_cons (ps_set (i := 9) sc_law.nd rfl (Or.inl rfl) (pe_ix (ix_listK (K := K)) (pe_lst (pa_cons pe_int (pa_cons pe_int (pa_cons pe_int pa_nil)))) (pe_op op_add (pe_callTy call_int1 (by rfl) T.b_int (by decide +kernel) (pa_cons (pe_cmpR op_gt (pv 3) pe_int (nomark _)) pa_nil)) (pe_callTy call_int1 (by rfl) T.b_int (by decide +kernel) (pa_cons (pe_cmpR (op_inK (K := K)) (pv 3) (pe_tup (pa_cons pe_int (pa_cons pe_int (pa_cons pe_int pa_nil)))) (by rfl)) pa_nil))) (fun _ _ => rfl)))
    (pss_one (ps_if (PW.pt (pw_or (pt_cmpR (op_neDK (K := K) hr.units) (pe_call G_law_fields (hr.mono (by decide)) rfl m_law_fields k_law_fields b_law_fields v_law_fields pass0 (pa_cons (pv 7) (pa_cons (pv 3) pa_nil))) (pe_slice (sl_listK (K := K)) (pe_lst (pa_cons (pv 5) (pa_cons (pv 6) pa_nil))) po_none (po_some (pv 9))) (nomark _)) (pw_or1 (pt_cmpR (op_neDK (K := K) hr.units) (pe_call G_law_fields (hr.mono (by decide)) rfl m_law_fields k_law_fields b_law_fields v_law_fields pass0 (pa_cons (pv 8) (pa_cons (pv 3) pa_nil))) (pe_slice (sl_listK (K := K)) (pe_lst (pa_cons pe_str (pa_cons pe_str pa_nil))) po_none (po_some (pv 9))) (nomark _))))) (pss_one (ps_ret pe_bl)) pss_nil))))))))))))))
    (pss_one (ps_ret pe_bl))), ?_⟩
    have tn := turns_ok (ns.map V.int).length 12 (by decide)
    refine ⟨_, rfl, _, _, rfl, .inl hS, _, _, rfl, _, _, rfl, _, rfl, by omega, by omega, for_range (lo := 0) (n := _) (fun i σ H' => ∃ x1 x2 x3 x4 x5 x6 x7 x8 x9 x10, σ = [some (.ref a), x1, x2, x3, x4, x5, x6, x7, x8, x9, x10] ∧ Same H H')
      ⟨none, none, none, none, none, none, none, none, none, none, rfl, Same.refl H⟩ ?_ ?_⟩
    rotate_left
    · rintro σ H1 ⟨x1, x2, x3, x4, x5, x6, x7, x8, x9, x10, rfl, s1⟩
      exact k H1
    rintro i σ H1 hi ⟨x1, x2, x3, x4, x5, x6, x7, x8, x9, x10, rfl, s1⟩
    refine ⟨_, rfl, _, rfl, a, ns, _, rfl, s1.seq hS, by omega, by omega, fun p H2 np s2 hp => ?_⟩
    have hpn : H p = none := Same.free s1 np
    have s02 := Same.trans s1 s2
    dsimp only [gName, List.set_cons_zero, List.set_cons_succ]
    refine ⟨_, rfl, by decide, by decide, for_range (lo := 0) (n := _) (fun j σ H' => ∃ x3 x4 x5 x6 x7 x8 x9 x10, σ = [some (.ref a), some (.int (0 + (i : Int))), some (.ref p), x3, x4, x5, x6, x7, x8, x9, x10] ∧ Same H H' ∧ Pool H' p)
      ⟨_, _, _, _, _, _, _, _, rfl, s02, hp⟩ ?_ ?_⟩
    rotate_left
    · rintro σ H3 ⟨x3, x4, x5, x6, x7, x8, x9, x10, rfl, s3, _⟩
      exact ⟨_, _, _, _, _, _, _, _, _, _, rfl, s3⟩
    clear s2 hp s02 np
    rintro j σ H2 hj ⟨x3, x4, x5, x6, x7, x8, x9, x10, rfl, s02, hp⟩
    have hj : j < 22 := hj
    refine ⟨_, rfl, p, 100, rfl, hp, by decide, by decide, fun v1 H3 v10 v11 o3 p3 => ?_⟩
    refine ⟨_, rfl, p, 3, rfl, p3, by decide, by decide, fun v2 H4 v20 v21 o4 p4 => ?_⟩
    obtain ⟨c, hc, okc⟩ : ∃ c : Nat, atI (Str.ofString "abc").cps.toList v2 = some c ∧ PyData.strOk (S [c]) = true := by
      have : v2 = 0 ∨ v2 = 1 ∨ v2 = 2 := by omega
      rcases this with rfl | rfl | rfl
      · exact ⟨97, by decide +kernel, by decide +kernel⟩
      · exact ⟨98, by decide +kernel, by decide +kernel⟩
      · exact ⟨99, by decide +kernel, by decide +kernel⟩
    refine ⟨_, _, c, rfl, rfl, by decide, hc, ?_⟩
    refine ⟨_, rfl, p, 9, rfl, p4, by decide, by decide, fun v3 H5 v30 v31 o5 p5 => ⟨by show 2 ≤ sizeLine; decide, fun t nt => ⟨by show 4 ≤ sizeLine; decide, fun L nL => ?_⟩⟩⟩
    have e6 := Same.new (o := .tup [V.int v3, V.str (Str.ofString "a")]) nt
    have e7 := Same.new (o := .lst [V.int v1, V.str ⟨#[c]⟩, V.non, V.ref t]) nL
    have gt : (upd (upd H5 t (.tup [V.int v3, V.str (Str.ofString "a")])) L (.lst [V.int v1, V.str ⟨#[c]⟩, V.non, V.ref t])) t = some (.tup [V.int v3, V.str (Str.ofString "a")]) := e7 _ _ upd_same
    have gL : (upd (upd H5 t (.tup [V.int v3, V.str (Str.ofString "a")])) L (.lst [V.int v1, V.str ⟨#[c]⟩, V.non, V.ref t])) L = some (.lst [V.int v1, V.str ⟨#[c]⟩, V.non, V.ref t]) := upd_same
    have o7 : Off p H2 (upd (upd H5 t (.tup [V.int v3, V.str (Str.ofString "a")])) L (.lst [V.int v1, V.str ⟨#[c]⟩, V.non, V.ref t])) := (o3.trans (o4.trans o5)).trans (off_of (Same.trans e6 e7))
    have p7 := p5.same (Same.trans e6 e7)
    have ntp : t ≠ p := (p5.ne nt).symm
    have nLp : L ≠ p := ((p5.same e6).ne nL).symm
    have s07 := Off.same hpn s02 o7
    generalize upd (upd H5 t (.tup [V.int v3, V.str (Str.ofString "a")])) L (.lst [V.int v1, V.str ⟨#[c]⟩, V.non, V.ref t]) = H7 at *
    clear e6 e7 o7 o3 o4 o5 p3 p4 p5 nt nL hp s02
    have one : ∀ (v : Int) (H' : Hp), 0 ≤ v → v < 4 → H' t = some (.tup [V.int v3, V.str (Str.ofString "a")]) → ∃ y, atI [V.int v1, V.str ⟨#[c]⟩, V.non, V.ref t] v = some y ∧ One5 H' y := fun v H' h0 h1 g => by
      have : v = 0 ∨ v = 1 ∨ v = 2 ∨ v = 3 := by omega
      rcases this with rfl | rfl | rfl | rfl
      · exact ⟨_, rfl, .int _⟩
      · exact ⟨_, rfl, .str okc⟩
      · exact ⟨_, rfl, .non⟩
      · exact ⟨_, rfl, .tup _ g⟩
    refine ⟨_, rfl, _, rfl, p, 4, rfl, p7, by decide, by decide, fun v4 H8 v40 v41 o8 p8 => ?_⟩
    have gt8 := o8 _ _ ntp gt
    have gL8 := o8 _ _ nLp gL
    obtain ⟨x, hx, ox⟩ := one v4 H8 v40 v41 gt8
    refine ⟨_, _, _, _, rfl, rfl, SqL.of gL8, hx, ?_⟩
    refine ⟨_, rfl, _, rfl, p, 4, rfl, p8, by decide, by decide, fun v5 H9 v50 v51 o9 p9 => ?_⟩
    have gt9 := o9 _ _ ntp gt8
    have gL9 := o9 _ _ nLp gL8
    obtain ⟨y, hy, oy⟩ := one v5 H9 v50 v51 gt9
    obtain ⟨x', hx', ox'⟩ := one v4 H9 v40 v41 gt9
    obtain rfl : x = x' := Option.some.inj (hx.symm.trans hx')
    refine ⟨_, _, _, _, rfl, rfl, SqL.of gL9, hy, ?_⟩
    have s09 := Off.same hpn (Off.same hpn s07 o8) o9
    clear hx' ox o8 o9 p8 p7 s07 gL8 gt8 hx hy gL gt gL9 one
    dsimp only [List.set_cons_zero, List.set_cons_succ]
    have e0 : (0 : Int) + (j : Int) = (j : Int) := Int.zero_add _
    rw [e0]
    refine ⟨_, rfl, _, rfl, _, rfl, j, x, y, rfl, hj, fun e D H10 s10 hD he => ?_⟩
    refine ⟨_, rfl, j, _, _, rfl, hj, fun e2 D2 H11 s11 hD2 he2 => ?_⟩
    have he := he.same s11
    have s9b := Same.trans s10 s11
    dsimp only [gName, List.set_cons_zero, List.set_cons_succ]
    refine ⟨_, rfl, e, D, j, _, rfl, he, hD, fun pk H12 s12 gk => ?_⟩
    refine ⟨_, rfl, by decide, by decide, fun Dc nD => ?_⟩
    refine lc_range (lo := 0) (n := _) (fun m H' => Same H12 H' ∧ H' Dc = some (.lst ((List.range m).map fun (z : Nat) => V.bl (decide (j = z))))) ⟨Same.new nD, upd_same⟩ ?_ ?_
    · rintro m Hm hm ⟨sm, gm⟩
      refine ⟨rfl, _, rfl, _, rfl, rfl, _, gm, ?_, ?_, ?_⟩
      · rw [List.length_map, List.length_range]
        exact Nat.lt_of_lt_of_le (by have : m < 22 := hm; omega : m < 1000) (by decide)
      · intro b o hb
        rw [upd_ne (ne_of_none hb nD)]
        exact sm _ _ hb
      · rw [upd_same, List.range_succ, List.map_append]
        rw [show decide (V.int ((0 : Int) + (m : Int)) = V.int (j : Int)) = decide (j = m) from decide_eq_decide.mpr ⟨fun h => by injection h with h; omega, fun h => by rw [h]; simp⟩]
        rfl
    rintro H13 ⟨s13, g13⟩
    have s9d := Same.trans s9b (Same.trans s12 s13)
    have gk13 := s13 _ _ gk
    have em : ((List.range 22).map fun (z : Nat) => V.bl (decide (j = z))) = ((List.range 22).map fun z => decide (j = z)).map V.bl := by rw [List.map_map]; rfl
    have g13 : H13 Dc = some (.lst (((List.range 22).map fun z => decide (j = z)).map V.bl)) := by rw [← em]; exact g13
    rw [em] at gk13
    refine ⟨_, _, .lst (SqL.of gk13) (dp_bools _), .lst (SqL.of g13) (dp_bools _), shaped_bools _, shaped_bools _, _, rfl, ?_⟩
    rw [eqv_self5 (shaped_bools _)]
    refine iteF ?_
    have he13 := he.same (Same.trans s12 s13)
    have he23 := he2.same (Same.trans s12 s13)
    clear gk13 g13 gk s12 s13 he he2 em
    refine ⟨_, rfl, e, D, j, _, rfl, he13, hD, fun pa H14 s14 ga => ?_⟩
    refine ⟨_, rfl, j, rfl, hj, fun pb H15 s15 gb => ?_⟩
    have ga := s15 _ _ ga
    have s9f := Same.trans s9d (Same.trans s14 s15)
    have he15 := he13.same (Same.trans s14 s15)
    have he25 := he23.same (Same.trans s14 s15)
    refine ⟨_, _, .lst (SqL.of ga) (dp_bools _), .lst (SqL.of gb) (dp_bools _), shaped_bools _, shaped_bools _, _, rfl, ?_⟩
    rw [eqv_self5 (shaped_bools _)]
    refine iteF ?_
    clear ga gb s14 s15 he13 he23 s9d
    refine ⟨by show 3 ≤ sizeLine; decide, fun L2 nL2 => ?_⟩
    have q2 := Same.new (o := .lst [V.int 0, V.int 1, V.int 2]) nL2
    refine ⟨_, rfl, _, _, rfl, rfl, .inr ⟨_, rfl, ?_⟩⟩
    refine ⟨_, rfl, by show 3 ≤ sizeLine; decide, fun t3 nt3 => ?_⟩
    have e3 := Same.new (o := .tup [V.int 15, V.int 18, V.int 19]) nt3
    refine ⟨t3, _, rfl, .inr (SqT.of upd_same), rfl, flat_nats [15, 18, 19], ?_⟩
    refine .inr ⟨_, rfl, _, _, rfl, rfl, _, _, _, _, rfl, rfl, SqL.of (e3 _ _ upd_same), (by rw [if_neg (show ¬ (false = true) by decide), show inV (V.int (j : Int)) [V.int 15, V.int 18, V.int 19] = decide (j ∈ ([15, 18, 19] : List Nat)) from in_nats j [15, 18, 19]]; exact many5 hj), ?_⟩
    have s9g := Same.trans s9f (Same.trans q2 e3)
    have he16 := he15.same (Same.trans q2 e3)
    have he26 := he25.same (Same.trans q2 e3)
    generalize upd (upd H15 L2 (.lst [V.int 0, V.int 1, V.int 2])) t3 (.tup [V.int 15, V.int 18, V.int 19]) = H16 at *
    clear he15 he25 s9f q2 e3 s9b
    refine ⟨_, rfl, _, rfl, e, D, j, x, y, rfl, he16, hD, fun pf H17 s17 gf => ?_⟩
    have ox17 := (ox'.same s9g).same s17
    have oy17 := (oy.same s9g).same s17
    refine ⟨_, rfl, _, rfl, by show 2 ≤ sizeLine; decide, fun l3 nl3 => ?_⟩
    have e4 := Same.new (o := .lst [x, y]) nl3
    refine ⟨_, rfl, _, rfl, l3, _, rfl, SqL.of upd_same, fun l4 nl4 => ?_⟩
    have e5 := Same.trans e4 (Same.new (o := .lst (cutV [x, y] none (some (fn5 j : Int)))) nl4)
    obtain ⟨ds, dds, sds⟩ := pair5 (K := K) (ox17.same e5) (oy17.same e5) (fn5 j)
    refine ⟨_, _, .lst (SqL.of (e5 _ _ gf)) dds, .lst (SqL.of upd_same) (by rw [cut5t] at dds ⊢; exact dds), sds, sds, _, rfl, ?_⟩
    rw [eqv_self5 sds]
    refine iteF ?_
    have s9h := Same.trans s9g (Same.trans s17 e5)
    have he27 := he26.same (Same.trans s17 e5)
    generalize upd (upd H17 l3 (.lst [x, y])) l4 (.lst (cutV [x, y] none (some (fn5 j : Int)))) = H18 at *
    clear gf dds sds e4 e5 he16 he26 ox17 oy17 s9g s17
    refine ⟨_, rfl, _, rfl, e2, D2, j, _, _, rfl, he27, hD2, fun pg H19 s19 gg => ?_⟩
    refine ⟨by show 2 ≤ sizeLine; decide, fun l5 nl5 => ⟨_, rfl, _, rfl, l5, _, rfl, SqL.of upd_same, fun l6 nl6 => ?_⟩⟩
    have e6 := Same.trans (Same.new (o := .lst [V.str (Str.ofString "zz"), V.str (Str.ofString "yy")]) nl5) (Same.new (o := .lst (cutV [V.str (Str.ofString "zz"), V.str (Str.ofString "yy")] none (some (fn5 j : Int)))) nl6)
    obtain ⟨es, des, ses⟩ := pair5 (K := K) (H := upd (upd H19 l5 (.lst [V.str (Str.ofString "zz"), V.str (Str.ofString "yy")])) l6 (.lst (cutV [V.str (Str.ofString "zz"), V.str (Str.ofString "yy")] none (some (fn5 j : Int))))) (x := .str (Str.ofString "zz")) (y := .str (Str.ofString "yy")) (One5.str (by decide +kernel)) (One5.str (by decide +kernel)) (fn5 j)
    refine ⟨_, _, .lst (SqL.of (e6 _ _ gg)) des, .lst (SqL.of upd_same) (by rw [cut5t] at des ⊢; exact des), ses, ses, _, rfl, ?_⟩
    rw [eqv_self5 ses]
    have sZ := Same.trans s9h (Same.trans s19 e6)
    exact iteF ⟨_, _, _, _, _, _, _, _, rfl, Same.trans s09 sZ, p9.same sZ⟩
end
theorem all_mk {l : PySem.W.OpenLaw} {w : World} {K : PySem.W.Frag} {h : Heap} {mg : Str → Option Value} {fa : Addr} (X : K.In h) (G : h.Ns mainGlobals mg) (hfa : mg "law" = some (.ref fa)) (c : He.SaysP hd_ps w K) :
    ∃ fd : FuncData, (∀ (s : Shared) (v : Value), BindsTo s fd ⟨[v], []⟩ [("_law_script", v)]) ∧ ∀ base : Heap, K.In base → base.Ns mainGlobals mg → FnOk l.prog w K mg base CX0 4 fa fd ["_law_script"] (sp_law K) := by
  obtain ⟨z_ArithmeticError, z_IndexError, z_KeyError, z_LookupError, z_OverflowError, z_RuntimeError, z_ValueError, z_int, z_isinstance, z_len, z_max, z_min⟩ : HdEx0 K := of_decide_eq_true ((c.part 1 (p := hd_p1) rfl).fact 0 (f := fun K => decide (HdEx0 K)) rfl)
  have z_range : HdEx1 K := of_decide_eq_true ((c.part 1 (p := hd_p1) rfl).fact 1 (f := fun K => decide (HdEx1 K)) rfl)
  obtain ⟨aC_Bare, xC_Bare, kC_Bare, bC_Bare, tC_Bare, iC_Bare, sC_Bare, hg_Bare, hk_Bare, hd_Bare, ha_Bare, hm_Bare⟩ : HdEx2 K := of_decide_eq_true ((c.part 1 (p := hd_p1) rfl).fact 2 (f := fun K => decide (HdEx2 K)) rfl)
  obtain ⟨oC_Bare, sa_Bare⟩ : HdEx3 K := of_decide_eq_true ((c.part 1 (p := hd_p1) rfl).fact 3 (f := fun K => decide (HdEx3 K)) rfl)
  obtain ⟨aC_Full, xC_Full, kC_Full, bC_Full, tC_Full, iC_Full, sC_Full, hg_Full, hk_Full, hd_Full, ha_Full, hm_Full⟩ : HdEx4 K := of_decide_eq_true ((c.part 1 (p := hd_p1) rfl).fact 4 (f := fun K => decide (HdEx4 K)) rfl)
  obtain ⟨oC_Full, sa_Full⟩ : HdEx5 K := of_decide_eq_true ((c.part 1 (p := hd_p1) rfl).fact 5 (f := fun K => decide (HdEx5 K)) rfl)
  obtain ⟨aC_NoBack, xC_NoBack, kC_NoBack, bC_NoBack, tC_NoBack, iC_NoBack, sC_NoBack, hg_NoBack, hk_NoBack, hd_NoBack, ha_NoBack, hm_NoBack⟩ : HdEx6 K := of_decide_eq_true ((c.part 1 (p := hd_p1) rfl).fact 6 (f := fun K => decide (HdEx6 K)) rfl)
  obtain ⟨oC_NoBack, sa_NoBack⟩ : HdEx7 K := of_decide_eq_true ((c.part 1 (p := hd_p1) rfl).fact 7 (f := fun K => decide (HdEx7 K)) rfl)
  obtain ⟨aC_NoDeed, xC_NoDeed, kC_NoDeed, bC_NoDeed, tC_NoDeed, iC_NoDeed, sC_NoDeed, hg_NoDeed, hk_NoDeed, hd_NoDeed, ha_NoDeed, hm_NoDeed⟩ : HdEx8 K := of_decide_eq_true ((c.part 1 (p := hd_p1) rfl).fact 8 (f := fun K => decide (HdEx8 K)) rfl)
  obtain ⟨oC_NoDeed, sa_NoDeed⟩ : HdEx9 K := of_decide_eq_true ((c.part 1 (p := hd_p1) rfl).fact 9 (f := fun K => decide (HdEx9 K)) rfl)
  obtain ⟨aC_NoEnd, xC_NoEnd, kC_NoEnd, bC_NoEnd, tC_NoEnd, iC_NoEnd, sC_NoEnd, hg_NoEnd, hk_NoEnd, hd_NoEnd, ha_NoEnd, hm_NoEnd⟩ : HdEx10 K := of_decide_eq_true ((c.part 1 (p := hd_p1) rfl).fact 10 (f := fun K => decide (HdEx10 K)) rfl)
  obtain ⟨oC_NoEnd, sa_NoEnd⟩ : HdEx11 K := of_decide_eq_true ((c.part 1 (p := hd_p1) rfl).fact 11 (f := fun K => decide (HdEx11 K)) rfl)
  obtain ⟨aC_NoFold, xC_NoFold, kC_NoFold, bC_NoFold, tC_NoFold, iC_NoFold, sC_NoFold, hg_NoFold, hk_NoFold, hd_NoFold, ha_NoFold, hm_NoFold⟩ : HdEx12 K := of_decide_eq_true ((c.part 1 (p := hd_p1) rfl).fact 12 (f := fun K => decide (HdEx12 K)) rfl)
  obtain ⟨oC_NoFold, sa_NoFold⟩ : HdEx13 K := of_decide_eq_true ((c.part 1 (p := hd_p1) rfl).fact 13 (f := fun K => decide (HdEx13 K)) rfl)
  obtain ⟨aC_NoGiven, xC_NoGiven, kC_NoGiven, bC_NoGiven, tC_NoGiven, iC_NoGiven, sC_NoGiven, hg_NoGiven, hk_NoGiven, hd_NoGiven, ha_NoGiven, hm_NoGiven⟩ : HdEx14 K := of_decide_eq_true ((c.part 1 (p := hd_p1) rfl).fact 14 (f := fun K => decide (HdEx14 K)) rfl)
  obtain ⟨oC_NoGiven, sa_NoGiven⟩ : HdEx15 K := of_decide_eq_true ((c.part 1 (p := hd_p1) rfl).fact 15 (f := fun K => decide (HdEx15 K)) rfl)
  obtain ⟨aC_NoMachine, xC_NoMachine, kC_NoMachine, bC_NoMachine, tC_NoMachine, iC_NoMachine, sC_NoMachine, hg_NoMachine, hk_NoMachine, hd_NoMachine, ha_NoMachine, hm_NoMachine⟩ : HdEx16 K := of_decide_eq_true ((c.part 1 (p := hd_p1) rfl).fact 16 (f := fun K => decide (HdEx16 K)) rfl)
  obtain ⟨oC_NoMachine, sa_NoMachine⟩ : HdEx17 K := of_decide_eq_true ((c.part 1 (p := hd_p1) rfl).fact 17 (f := fun K => decide (HdEx17 K)) rfl)
  obtain ⟨aC_NoMark, xC_NoMark, kC_NoMark, bC_NoMark, tC_NoMark, iC_NoMark, sC_NoMark, hg_NoMark, hk_NoMark, hd_NoMark, ha_NoMark, hm_NoMark⟩ : HdEx18 K := of_decide_eq_true ((c.part 1 (p := hd_p1) rfl).fact 18 (f := fun K => decide (HdEx18 K)) rfl)
  obtain ⟨oC_NoMark, sa_NoMark⟩ : HdEx19 K := of_decide_eq_true ((c.part 1 (p := hd_p1) rfl).fact 19 (f := fun K => decide (HdEx19 K)) rfl)
  obtain ⟨aC_NoName, xC_NoName, kC_NoName, bC_NoName, tC_NoName, iC_NoName, sC_NoName, hg_NoName, hk_NoName, hd_NoName, ha_NoName, hm_NoName⟩ : HdEx20 K := of_decide_eq_true ((c.part 1 (p := hd_p1) rfl).fact 20 (f := fun K => decide (HdEx20 K)) rfl)
  obtain ⟨oC_NoName, sa_NoName⟩ : HdEx21 K := of_decide_eq_true ((c.part 1 (p := hd_p1) rfl).fact 21 (f := fun K => decide (HdEx21 K)) rfl)
  obtain ⟨aC_NoNumber, xC_NoNumber, kC_NoNumber, bC_NoNumber, tC_NoNumber, iC_NoNumber, sC_NoNumber, hg_NoNumber, hk_NoNumber, hd_NoNumber, ha_NoNumber, hm_NoNumber⟩ : HdEx22 K := of_decide_eq_true ((c.part 1 (p := hd_p1) rfl).fact 22 (f := fun K => decide (HdEx22 K)) rfl)
  obtain ⟨oC_NoNumber, sa_NoNumber⟩ : HdEx23 K := of_decide_eq_true ((c.part 1 (p := hd_p1) rfl).fact 23 (f := fun K => decide (HdEx23 K)) rfl)
  obtain ⟨aC_NoPairs, xC_NoPairs, kC_NoPairs, bC_NoPairs, tC_NoPairs, iC_NoPairs, sC_NoPairs, hg_NoPairs, hk_NoPairs, hd_NoPairs, ha_NoPairs, hm_NoPairs⟩ : HdEx24 K := of_decide_eq_true ((c.part 1 (p := hd_p1) rfl).fact 24 (f := fun K => decide (HdEx24 K)) rfl)
  obtain ⟨oC_NoPairs, sa_NoPairs⟩ : HdEx25 K := of_decide_eq_true ((c.part 1 (p := hd_p1) rfl).fact 25 (f := fun K => decide (HdEx25 K)) rfl)
  obtain ⟨aC_NoRow, xC_NoRow, kC_NoRow, bC_NoRow, tC_NoRow, iC_NoRow, sC_NoRow, hg_NoRow, hk_NoRow, hd_NoRow, ha_NoRow, hm_NoRow⟩ : HdEx26 K := of_decide_eq_true ((c.part 1 (p := hd_p1) rfl).fact 26 (f := fun K => decide (HdEx26 K)) rfl)
  obtain ⟨aC_NoSeam, xC_NoSeam, kC_NoSeam, bC_NoSeam, tC_NoSeam, iC_NoSeam, sC_NoSeam, hg_NoSeam, hk_NoSeam, hd_NoSeam, ha_NoSeam, hm_NoSeam⟩ : HdEx27 K := of_decide_eq_true ((c.part 1 (p := hd_p1) rfl).fact 27 (f := fun K => decide (HdEx27 K)) rfl)
  obtain ⟨oC_NoSeam, sa_NoSeam⟩ : HdEx28 K := of_decide_eq_true ((c.part 1 (p := hd_p1) rfl).fact 28 (f := fun K => decide (HdEx28 K)) rfl)
  obtain ⟨aC_NoSign, xC_NoSign, kC_NoSign, bC_NoSign, tC_NoSign, iC_NoSign, sC_NoSign, hg_NoSign, hk_NoSign, hd_NoSign, ha_NoSign, hm_NoSign⟩ : HdEx29 K := of_decide_eq_true ((c.part 1 (p := hd_p1) rfl).fact 29 (f := fun K => decide (HdEx29 K)) rfl)
  obtain ⟨oC_NoSign, sa_NoSign⟩ : HdEx30 K := of_decide_eq_true ((c.part 1 (p := hd_p1) rfl).fact 30 (f := fun K => decide (HdEx30 K)) rfl)
  obtain ⟨aC_NoStep, xC_NoStep, kC_NoStep, bC_NoStep, tC_NoStep, iC_NoStep, sC_NoStep, hg_NoStep, hk_NoStep, hd_NoStep, ha_NoStep, hm_NoStep⟩ : HdEx31 K := of_decide_eq_true ((c.part 1 (p := hd_p1) rfl).fact 31 (f := fun K => decide (HdEx31 K)) rfl)
  obtain ⟨oC_NoStep, sa_NoStep⟩ : HdEx32 K := of_decide_eq_true ((c.part 1 (p := hd_p1) rfl).fact 32 (f := fun K => decide (HdEx32 K)) rfl)
  obtain ⟨aC_NoText, xC_NoText, kC_NoText, bC_NoText, tC_NoText, iC_NoText, sC_NoText, hg_NoText, hk_NoText, hd_NoText, ha_NoText, hm_NoText⟩ : HdEx33 K := of_decide_eq_true ((c.part 1 (p := hd_p1) rfl).fact 33 (f := fun K => decide (HdEx33 K)) rfl)
  obtain ⟨aC_NoThing, xC_NoThing, kC_NoThing, bC_NoThing, tC_NoThing, iC_NoThing, sC_NoThing, hg_NoThing, hk_NoThing, hd_NoThing, ha_NoThing, hm_NoThing⟩ : HdEx34 K := of_decide_eq_true ((c.part 1 (p := hd_p1) rfl).fact 34 (f := fun K => decide (HdEx34 K)) rfl)
  obtain ⟨oC_NoThing, sa_NoThing⟩ : HdEx35 K := of_decide_eq_true ((c.part 1 (p := hd_p1) rfl).fact 35 (f := fun K => decide (HdEx35 K)) rfl)
  obtain ⟨aC_NoTree, xC_NoTree, kC_NoTree, bC_NoTree, tC_NoTree, iC_NoTree, sC_NoTree, hg_NoTree, hk_NoTree, hd_NoTree, ha_NoTree, hm_NoTree⟩ : HdEx36 K := of_decide_eq_true ((c.part 1 (p := hd_p1) rfl).fact 36 (f := fun K => decide (HdEx36 K)) rfl)
  obtain ⟨oC_NoTree, sa_NoTree⟩ : HdEx37 K := of_decide_eq_true ((c.part 1 (p := hd_p1) rfl).fact 37 (f := fun K => decide (HdEx37 K)) rfl)
  obtain ⟨aC_NoWords, xC_NoWords, kC_NoWords, bC_NoWords, tC_NoWords, iC_NoWords, sC_NoWords, hg_NoWords, hk_NoWords, hd_NoWords, ha_NoWords, hm_NoWords⟩ : HdEx38 K := of_decide_eq_true ((c.part 1 (p := hd_p1) rfl).fact 38 (f := fun K => decide (HdEx38 K)) rfl)
  obtain ⟨aC_Taken, xC_Taken, kC_Taken, bC_Taken, tC_Taken, iC_Taken, sC_Taken, hg_Taken, hk_Taken, hd_Taken, ha_Taken, hm_Taken⟩ : HdEx39 K := of_decide_eq_true ((c.part 1 (p := hd_p1) rfl).fact 39 (f := fun K => decide (HdEx39 K)) rfl)
  obtain ⟨oC_Taken, sa_Taken⟩ : HdEx40 K := of_decide_eq_true ((c.part 2 (p := hd_p2) rfl).fact 0 (f := fun K => decide (HdEx40 K)) rfl)
  obtain ⟨aC_TooMany, xC_TooMany, kC_TooMany, bC_TooMany, tC_TooMany, iC_TooMany, sC_TooMany, hg_TooMany, hk_TooMany, hd_TooMany, ha_TooMany, hm_TooMany⟩ : HdEx41 K := of_decide_eq_true ((c.part 2 (p := hd_p2) rfl).fact 1 (f := fun K => decide (HdEx41 K)) rfl)
  obtain ⟨oC_TooMany, sa_TooMany⟩ : HdEx42 K := of_decide_eq_true ((c.part 2 (p := hd_p2) rfl).fact 2 (f := fun K => decide (HdEx42 K)) rfl)
  obtain ⟨hn, ht⟩ : HdEx43 K := of_decide_eq_true ((c.part 2 (p := hd_p2) rfl).fact 3 (f := fun K => decide (HdEx43 K)) rfl)
  obtain ⟨y_Bare_deed, y_Bare_thing, y_Full_size, y_NoBack_many, y_NoDeed_deed, y_NoEnd_place, y_NoFold_one, y_NoFold_other, y_NoGiven_number, y_NoMachine_number, y_NoMark_name, y_NoName_name⟩ : HdEx44 K := of_decide_eq_true ((c.part 2 (p := hd_p2) rfl).fact 4 (f := fun K => decide (HdEx44 K)) rfl)
  obtain ⟨y_NoNumber_number, y_NoPairs_number, y_NoSeam_seam, y_NoSign_place, y_NoStep_number, y_NoThing_thing, y_NoTree_place, y_Taken_deed, y_Taken_thing, y_TooMany_many⟩ : HdEx45 K := of_decide_eq_true ((c.part 2 (p := hd_p2) rfl).fact 5 (f := fun K => decide (HdEx45 K)) rfl)
  obtain ⟨f_subs, f_sups⟩ : HdEx46 K := of_decide_eq_true ((c.part 2 (p := hd_p2) rfl).fact 6 (f := fun K => decide (HdEx46 K)) rfl)
  obtain ⟨a_law_pool, a_law_take, a_NoSign___init__, u_NoSign___init__, fn_NoSign___init__, a_NoTree___init__, u_NoTree___init__, fn_NoTree___init__, a_NoGiven___init__, u_NoGiven___init__, fn_NoGiven___init__, a_NoPairs___init__⟩ : HdEx47 K := of_decide_eq_true ((c.part 2 (p := hd_p2) rfl).fact 7 (f := fun K => decide (HdEx47 K)) rfl)
  obtain ⟨u_NoPairs___init__, fn_NoPairs___init__, a_NoMachine___init__, u_NoMachine___init__, fn_NoMachine___init__, a_NoDeed___init__, u_NoDeed___init__, fn_NoDeed___init__, a_NoMark___init__, u_NoMark___init__, fn_NoMark___init__, a_NoName___init__⟩ : HdEx48 K := of_decide_eq_true ((c.part 2 (p := hd_p2) rfl).fact 8 (f := fun K => decide (HdEx48 K)) rfl)
  obtain ⟨u_NoName___init__, fn_NoName___init__, a_NoEnd___init__, u_NoEnd___init__, fn_NoEnd___init__, a_NoThing___init__, u_NoThing___init__, fn_NoThing___init__, a_NoNumber___init__, u_NoNumber___init__, fn_NoNumber___init__, a_NoStep___init__⟩ : HdEx49 K := of_decide_eq_true ((c.part 2 (p := hd_p2) rfl).fact 9 (f := fun K => decide (HdEx49 K)) rfl)
  obtain ⟨u_NoStep___init__, fn_NoStep___init__, a_Bare___init__, u_Bare___init__, fn_Bare___init__, a_NoSeam___init__, u_NoSeam___init__, fn_NoSeam___init__, a_NoBack___init__, u_NoBack___init__, fn_NoBack___init__, a_Taken___init__⟩ : HdEx50 K := of_decide_eq_true ((c.part 2 (p := hd_p2) rfl).fact 10 (f := fun K => decide (HdEx50 K)) rfl)
  obtain ⟨u_Taken___init__, fn_Taken___init__, a_NoFold___init__, u_NoFold___init__, fn_NoFold___init__, a_Full___init__, u_Full___init__, fn_Full___init__, a_TooMany___init__, u_TooMany___init__, fn_TooMany___init__, a_law_made⟩ : HdEx51 K := of_decide_eq_true ((c.part 2 (p := hd_p2) rfl).fact 11 (f := fun K => decide (HdEx51 K)) rfl)
  obtain ⟨a_law_kinds, a_law_above, a_law_above_due, a_law_fields, a_law⟩ : HdEx52 K := of_decide_eq_true ((c.part 2 (p := hd_p2) rfl).fact 12 (f := fun K => decide (HdEx52 K)) rfl)
  have w_ArithmeticError := He.initAt_ok ((c.part 2 (p := hd_p2) rfl).fact 13 (f := fun K => He.initAt K "ArithmeticError" "ArithmeticError.__init__") rfl)
  have w_IndexError := He.initAt_ok ((c.part 2 (p := hd_p2) rfl).fact 14 (f := fun K => He.initAt K "IndexError" "IndexError.__init__") rfl)
  have w_KeyError := He.initAt_ok ((c.part 2 (p := hd_p2) rfl).fact 15 (f := fun K => He.initAt K "KeyError" "KeyError.__init__") rfl)
  have w_LookupError := He.initAt_ok ((c.part 2 (p := hd_p2) rfl).fact 16 (f := fun K => He.initAt K "LookupError" "LookupError.__init__") rfl)
  have w_OverflowError := He.initAt_ok ((c.part 2 (p := hd_p2) rfl).fact 17 (f := fun K => He.initAt K "OverflowError" "OverflowError.__init__") rfl)
  have w_RuntimeError := He.initAt_ok ((c.part 2 (p := hd_p2) rfl).fact 18 (f := fun K => He.initAt K "RuntimeError" "RuntimeError.__init__") rfl)
  have w_ValueError := He.initAt_ok ((c.part 2 (p := hd_p2) rfl).fact 19 (f := fun K => He.initAt K "ValueError" "ValueError.__init__") rfl)
  have e := hfa.symm.trans (PySem.W.mg_of X G a_law)
  cases e
  have T : Txt K mg (He.ga K "Bare") (He.ga K "Full") (He.ga K "NoBack") (He.ga K "NoDeed") (He.ga K "NoEnd") (He.ga K "NoFold") (He.ga K "NoGiven") (He.ga K "NoMachine") (He.ga K "NoMark") (He.ga K "NoName") (He.ga K "NoNumber") (He.ga K "NoPairs") (He.ga K "NoRow") (He.ga K "NoSeam") (He.ga K "NoSign") (He.ga K "NoStep") (He.ga K "NoText") (He.ga K "NoThing") (He.ga K "NoTree") (He.ga K "NoWords") (He.ga K "Taken") (He.ga K "TooMany") := ⟨PySem.W.mg_none_of X G z_ArithmeticError, PySem.W.mg_none_of X G z_IndexError, PySem.W.mg_none_of X G z_KeyError, PySem.W.mg_none_of X G z_LookupError, PySem.W.mg_none_of X G z_OverflowError, PySem.W.mg_none_of X G z_RuntimeError, PySem.W.mg_none_of X G z_ValueError, PySem.W.mg_none_of X G z_int, PySem.W.mg_none_of X G z_isinstance, PySem.W.mg_none_of X G z_len, PySem.W.mg_none_of X G z_max, PySem.W.mg_none_of X G z_min, PySem.W.mg_none_of X G z_range, w_ArithmeticError, w_IndexError, w_KeyError, w_LookupError, w_OverflowError, w_RuntimeError, w_ValueError, y_Bare_deed, y_Bare_thing, y_Full_size, y_NoBack_many, y_NoDeed_deed, y_NoEnd_place, y_NoFold_one, y_NoFold_other, y_NoGiven_number, y_NoMachine_number, y_NoMark_name, y_NoName_name, y_NoNumber_number, y_NoPairs_number, y_NoSeam_seam, y_NoSign_place, y_NoStep_number, y_NoThing_thing, y_NoTree_place, y_Taken_deed, y_Taken_thing, y_TooMany_many, ⟨PySem.W.mg_of X G aC_Bare, ⟨PySem.XB0.XB.of PySem.F.excBase_LookupError, PySem.F.store_LookupError, xC_Bare, oC_Bare, hd_Bare, sa_Bare, bC_Bare, tC_Bare, kC_Bare⟩, iC_Bare, sC_Bare, ⟨hg_Bare, hk_Bare, bC_Bare, hd_Bare, ha_Bare, hn, ht, hm_Bare⟩, ⟨hg_Bare, hk_Bare, bC_Bare, hd_Bare⟩⟩, ⟨PySem.W.mg_of X G aC_Full, ⟨PySem.XB0.XB.of PySem.F.excBase_OverflowError, PySem.F.store_OverflowError, xC_Full, oC_Full, hd_Full, sa_Full, bC_Full, tC_Full, kC_Full⟩, iC_Full, sC_Full, ⟨hg_Full, hk_Full, bC_Full, hd_Full, ha_Full, hn, ht, hm_Full⟩, ⟨hg_Full, hk_Full, bC_Full, hd_Full⟩⟩, ⟨PySem.W.mg_of X G aC_NoBack, ⟨PySem.XB0.XB.of PySem.F.excBase_ArithmeticError, PySem.F.store_ArithmeticError, xC_NoBack, oC_NoBack, hd_NoBack, sa_NoBack, bC_NoBack, tC_NoBack, kC_NoBack⟩, iC_NoBack, sC_NoBack, ⟨hg_NoBack, hk_NoBack, bC_NoBack, hd_NoBack, ha_NoBack, hn, ht, hm_NoBack⟩, ⟨hg_NoBack, hk_NoBack, bC_NoBack, hd_NoBack⟩⟩, ⟨PySem.W.mg_of X G aC_NoDeed, ⟨PySem.XB0.xb_KeyError, PySem.XB0.st_KeyError, xC_NoDeed, oC_NoDeed, hd_NoDeed, sa_NoDeed, bC_NoDeed, tC_NoDeed, kC_NoDeed⟩, iC_NoDeed, sC_NoDeed, ⟨hg_NoDeed, hk_NoDeed, bC_NoDeed, hd_NoDeed, ha_NoDeed, hn, ht, hm_NoDeed⟩, ⟨hg_NoDeed, hk_NoDeed, bC_NoDeed, hd_NoDeed⟩⟩, ⟨PySem.W.mg_of X G aC_NoEnd, ⟨PySem.XB0.xb_KeyError, PySem.XB0.st_KeyError, xC_NoEnd, oC_NoEnd, hd_NoEnd, sa_NoEnd, bC_NoEnd, tC_NoEnd, kC_NoEnd⟩, iC_NoEnd, sC_NoEnd, ⟨hg_NoEnd, hk_NoEnd, bC_NoEnd, hd_NoEnd, ha_NoEnd, hn, ht, hm_NoEnd⟩, ⟨hg_NoEnd, hk_NoEnd, bC_NoEnd, hd_NoEnd⟩⟩, ⟨PySem.W.mg_of X G aC_NoFold, ⟨PySem.XB0.XB.of PySem.F.excBase_RuntimeError, PySem.F.store_RuntimeError, xC_NoFold, oC_NoFold, hd_NoFold, sa_NoFold, bC_NoFold, tC_NoFold, kC_NoFold⟩, iC_NoFold, sC_NoFold, ⟨hg_NoFold, hk_NoFold, bC_NoFold, hd_NoFold, ha_NoFold, hn, ht, hm_NoFold⟩, ⟨hg_NoFold, hk_NoFold, bC_NoFold, hd_NoFold⟩⟩, ⟨PySem.W.mg_of X G aC_NoGiven, ⟨PySem.XB0.XB.of PySem.F.excBase_ValueError, PySem.F.store_ValueError, xC_NoGiven, oC_NoGiven, hd_NoGiven, sa_NoGiven, bC_NoGiven, tC_NoGiven, kC_NoGiven⟩, iC_NoGiven, sC_NoGiven, ⟨hg_NoGiven, hk_NoGiven, bC_NoGiven, hd_NoGiven, ha_NoGiven, hn, ht, hm_NoGiven⟩, ⟨hg_NoGiven, hk_NoGiven, bC_NoGiven, hd_NoGiven⟩⟩, ⟨PySem.W.mg_of X G aC_NoMachine, ⟨PySem.XB0.XB.of PySem.F.excBase_ValueError, PySem.F.store_ValueError, xC_NoMachine, oC_NoMachine, hd_NoMachine, sa_NoMachine, bC_NoMachine, tC_NoMachine, kC_NoMachine⟩, iC_NoMachine, sC_NoMachine, ⟨hg_NoMachine, hk_NoMachine, bC_NoMachine, hd_NoMachine, ha_NoMachine, hn, ht, hm_NoMachine⟩, ⟨hg_NoMachine, hk_NoMachine, bC_NoMachine, hd_NoMachine⟩⟩, ⟨PySem.W.mg_of X G aC_NoMark, ⟨PySem.XB0.xb_KeyError, PySem.XB0.st_KeyError, xC_NoMark, oC_NoMark, hd_NoMark, sa_NoMark, bC_NoMark, tC_NoMark, kC_NoMark⟩, iC_NoMark, sC_NoMark, ⟨hg_NoMark, hk_NoMark, bC_NoMark, hd_NoMark, ha_NoMark, hn, ht, hm_NoMark⟩, ⟨hg_NoMark, hk_NoMark, bC_NoMark, hd_NoMark⟩⟩, ⟨PySem.W.mg_of X G aC_NoName, ⟨PySem.XB0.xb_KeyError, PySem.XB0.st_KeyError, xC_NoName, oC_NoName, hd_NoName, sa_NoName, bC_NoName, tC_NoName, kC_NoName⟩, iC_NoName, sC_NoName, ⟨hg_NoName, hk_NoName, bC_NoName, hd_NoName, ha_NoName, hn, ht, hm_NoName⟩, ⟨hg_NoName, hk_NoName, bC_NoName, hd_NoName⟩⟩, ⟨PySem.W.mg_of X G aC_NoNumber, ⟨PySem.XB0.XB.of PySem.F.excBase_LookupError, PySem.F.store_LookupError, xC_NoNumber, oC_NoNumber, hd_NoNumber, sa_NoNumber, bC_NoNumber, tC_NoNumber, kC_NoNumber⟩, iC_NoNumber, sC_NoNumber, ⟨hg_NoNumber, hk_NoNumber, bC_NoNumber, hd_NoNumber, ha_NoNumber, hn, ht, hm_NoNumber⟩, ⟨hg_NoNumber, hk_NoNumber, bC_NoNumber, hd_NoNumber⟩⟩, ⟨PySem.W.mg_of X G aC_NoPairs, ⟨PySem.XB0.XB.of PySem.F.excBase_ValueError, PySem.F.store_ValueError, xC_NoPairs, oC_NoPairs, hd_NoPairs, sa_NoPairs, bC_NoPairs, tC_NoPairs, kC_NoPairs⟩, iC_NoPairs, sC_NoPairs, ⟨hg_NoPairs, hk_NoPairs, bC_NoPairs, hd_NoPairs, ha_NoPairs, hn, ht, hm_NoPairs⟩, ⟨hg_NoPairs, hk_NoPairs, bC_NoPairs, hd_NoPairs⟩⟩, ⟨PySem.W.mg_of X G aC_NoRow, xC_NoRow, kC_NoRow, bC_NoRow, tC_NoRow, iC_NoRow, sC_NoRow, ⟨hg_NoRow, hk_NoRow, bC_NoRow, hd_NoRow, ha_NoRow, hn, ht, hm_NoRow⟩⟩, ⟨PySem.W.mg_of X G aC_NoSeam, ⟨PySem.XB0.XB.of PySem.F.excBase_LookupError, PySem.F.store_LookupError, xC_NoSeam, oC_NoSeam, hd_NoSeam, sa_NoSeam, bC_NoSeam, tC_NoSeam, kC_NoSeam⟩, iC_NoSeam, sC_NoSeam, ⟨hg_NoSeam, hk_NoSeam, bC_NoSeam, hd_NoSeam, ha_NoSeam, hn, ht, hm_NoSeam⟩, ⟨hg_NoSeam, hk_NoSeam, bC_NoSeam, hd_NoSeam⟩⟩, ⟨PySem.W.mg_of X G aC_NoSign, ⟨PySem.XB0.XB.of PySem.F.excBase_ValueError, PySem.F.store_ValueError, xC_NoSign, oC_NoSign, hd_NoSign, sa_NoSign, bC_NoSign, tC_NoSign, kC_NoSign⟩, iC_NoSign, sC_NoSign, ⟨hg_NoSign, hk_NoSign, bC_NoSign, hd_NoSign, ha_NoSign, hn, ht, hm_NoSign⟩, ⟨hg_NoSign, hk_NoSign, bC_NoSign, hd_NoSign⟩⟩, ⟨PySem.W.mg_of X G aC_NoStep, ⟨PySem.XB0.XB.of PySem.F.excBase_LookupError, PySem.F.store_LookupError, xC_NoStep, oC_NoStep, hd_NoStep, sa_NoStep, bC_NoStep, tC_NoStep, kC_NoStep⟩, iC_NoStep, sC_NoStep, ⟨hg_NoStep, hk_NoStep, bC_NoStep, hd_NoStep, ha_NoStep, hn, ht, hm_NoStep⟩, ⟨hg_NoStep, hk_NoStep, bC_NoStep, hd_NoStep⟩⟩, ⟨PySem.W.mg_of X G aC_NoText, xC_NoText, kC_NoText, bC_NoText, tC_NoText, iC_NoText, sC_NoText, ⟨hg_NoText, hk_NoText, bC_NoText, hd_NoText, ha_NoText, hn, ht, hm_NoText⟩⟩, ⟨PySem.W.mg_of X G aC_NoThing, ⟨PySem.XB0.XB.of PySem.F.excBase_IndexError, PySem.F.store_IndexError, xC_NoThing, oC_NoThing, hd_NoThing, sa_NoThing, bC_NoThing, tC_NoThing, kC_NoThing⟩, iC_NoThing, sC_NoThing, ⟨hg_NoThing, hk_NoThing, bC_NoThing, hd_NoThing, ha_NoThing, hn, ht, hm_NoThing⟩, ⟨hg_NoThing, hk_NoThing, bC_NoThing, hd_NoThing⟩⟩, ⟨PySem.W.mg_of X G aC_NoTree, ⟨PySem.XB0.XB.of PySem.F.excBase_ValueError, PySem.F.store_ValueError, xC_NoTree, oC_NoTree, hd_NoTree, sa_NoTree, bC_NoTree, tC_NoTree, kC_NoTree⟩, iC_NoTree, sC_NoTree, ⟨hg_NoTree, hk_NoTree, bC_NoTree, hd_NoTree, ha_NoTree, hn, ht, hm_NoTree⟩, ⟨hg_NoTree, hk_NoTree, bC_NoTree, hd_NoTree⟩⟩, ⟨PySem.W.mg_of X G aC_NoWords, xC_NoWords, kC_NoWords, bC_NoWords, tC_NoWords, iC_NoWords, sC_NoWords, ⟨hg_NoWords, hk_NoWords, bC_NoWords, hd_NoWords, ha_NoWords, hn, ht, hm_NoWords⟩⟩, ⟨PySem.W.mg_of X G aC_Taken, ⟨PySem.XB0.XB.of PySem.F.excBase_RuntimeError, PySem.F.store_RuntimeError, xC_Taken, oC_Taken, hd_Taken, sa_Taken, bC_Taken, tC_Taken, kC_Taken⟩, iC_Taken, sC_Taken, ⟨hg_Taken, hk_Taken, bC_Taken, hd_Taken, ha_Taken, hn, ht, hm_Taken⟩, ⟨hg_Taken, hk_Taken, bC_Taken, hd_Taken⟩⟩, ⟨PySem.W.mg_of X G aC_TooMany, ⟨PySem.XB0.XB.of PySem.F.excBase_OverflowError, PySem.F.store_OverflowError, xC_TooMany, oC_TooMany, hd_TooMany, sa_TooMany, bC_TooMany, tC_TooMany, kC_TooMany⟩, iC_TooMany, sC_TooMany, ⟨hg_TooMany, hk_TooMany, bC_TooMany, hd_TooMany, ha_TooMany, hn, ht, hm_TooMany⟩, ⟨hg_TooMany, hk_TooMany, bC_TooMany, hd_TooMany⟩⟩, f_subs, f_sups⟩
  obtain ⟨fd_law_pool, F_law_pool⟩ : ∃ fd, FunD K "_law_pool" "_law_pool" (defArgs s_law_pool) (defBody s_law_pool) (defScope s_law_pool) [] [] (He.ga K "_law_pool") fd := (c.part 0 (p := hd_p0) rfl).t.d.def_ 0 (d := hd_d0) rfl
  have k_law_pool := F_law_pool.kp
  replace F_law_pool := He.funB F_law_pool
  have b_law_pool := F_law_pool.binds (ps := ["_law_script", "_law_k"]) fun _ _ _ _ _ _ us hl => match us, hl with | [_, _], _ => rfl
  obtain ⟨fd_law_take, F_law_take⟩ : ∃ fd, FunD K "_law_take" "_law_take" (defArgs s_law_take) (defBody s_law_take) (defScope s_law_take) [] [] (He.ga K "_law_take") fd := (c.part 0 (p := hd_p0) rfl).t.d.def_ 1 (d := hd_d1) rfl
  have k_law_take := F_law_take.kp
  replace F_law_take := He.funB F_law_take
  have b_law_take := F_law_take.binds (ps := ["_law_pool_here", "_law_many"]) fun _ _ _ _ _ _ us hl => match us, hl with | [_, _], _ => rfl
  obtain ⟨fd_NoSign___init__, F_NoSign___init__⟩ : ∃ fd, FunD K "__init__" "NoSign.__init__" (defArgs s_NoSign___init__) (defBody s_NoSign___init__) (defScope s_NoSign___init__) [] [] (He.ma K (He.ga K "NoSign") "__init__") fd := (c.part 0 (p := hd_p0) rfl).t.d.def_ 2 (d := hd_d2) rfl
  have k_NoSign___init__ := F_NoSign___init__.kp
  replace F_NoSign___init__ := He.funB F_NoSign___init__
  have b_NoSign___init__ := F_NoSign___init__.binds (ps := ["self", "place"]) fun _ _ _ _ _ _ us hl => match us, hl with | [_, _], _ => rfl
  obtain ⟨fd_NoTree___init__, F_NoTree___init__⟩ : ∃ fd, FunD K "__init__" "NoTree.__init__" (defArgs s_NoTree___init__) (defBody s_NoTree___init__) (defScope s_NoTree___init__) [] [] (He.ma K (He.ga K "NoTree") "__init__") fd := (c.part 0 (p := hd_p0) rfl).t.d.def_ 3 (d := hd_d3) rfl
  have k_NoTree___init__ := F_NoTree___init__.kp
  replace F_NoTree___init__ := He.funB F_NoTree___init__
  have b_NoTree___init__ := F_NoTree___init__.binds (ps := ["self", "place"]) fun _ _ _ _ _ _ us hl => match us, hl with | [_, _], _ => rfl
  obtain ⟨fd_NoGiven___init__, F_NoGiven___init__⟩ : ∃ fd, FunD K "__init__" "NoGiven.__init__" (defArgs s_NoGiven___init__) (defBody s_NoGiven___init__) (defScope s_NoGiven___init__) [] [] (He.ma K (He.ga K "NoGiven") "__init__") fd := (c.part 0 (p := hd_p0) rfl).t.d.def_ 4 (d := hd_d4) rfl
  have k_NoGiven___init__ := F_NoGiven___init__.kp
  replace F_NoGiven___init__ := He.funB F_NoGiven___init__
  have b_NoGiven___init__ := F_NoGiven___init__.binds (ps := ["self", "number"]) fun _ _ _ _ _ _ us hl => match us, hl with | [_, _], _ => rfl
  obtain ⟨fd_NoPairs___init__, F_NoPairs___init__⟩ : ∃ fd, FunD K "__init__" "NoPairs.__init__" (defArgs s_NoPairs___init__) (defBody s_NoPairs___init__) (defScope s_NoPairs___init__) [] [] (He.ma K (He.ga K "NoPairs") "__init__") fd := (c.part 0 (p := hd_p0) rfl).t.d.def_ 5 (d := hd_d5) rfl
  have k_NoPairs___init__ := F_NoPairs___init__.kp
  replace F_NoPairs___init__ := He.funB F_NoPairs___init__
  have b_NoPairs___init__ := F_NoPairs___init__.binds (ps := ["self", "number"]) fun _ _ _ _ _ _ us hl => match us, hl with | [_, _], _ => rfl
  obtain ⟨fd_NoMachine___init__, F_NoMachine___init__⟩ : ∃ fd, FunD K "__init__" "NoMachine.__init__" (defArgs s_NoMachine___init__) (defBody s_NoMachine___init__) (defScope s_NoMachine___init__) [] [] (He.ma K (He.ga K "NoMachine") "__init__") fd := (c.part 0 (p := hd_p0) rfl).t.d.def_ 6 (d := hd_d6) rfl
  have k_NoMachine___init__ := F_NoMachine___init__.kp
  replace F_NoMachine___init__ := He.funB F_NoMachine___init__
  have b_NoMachine___init__ := F_NoMachine___init__.binds (ps := ["self", "number"]) fun _ _ _ _ _ _ us hl => match us, hl with | [_, _], _ => rfl
  obtain ⟨fd_NoDeed___init__, F_NoDeed___init__⟩ : ∃ fd, FunD K "__init__" "NoDeed.__init__" (defArgs s_NoDeed___init__) (defBody s_NoDeed___init__) (defScope s_NoDeed___init__) [] [] (He.ma K (He.ga K "NoDeed") "__init__") fd := (c.part 0 (p := hd_p0) rfl).t.d.def_ 7 (d := hd_d7) rfl
  have k_NoDeed___init__ := F_NoDeed___init__.kp
  replace F_NoDeed___init__ := He.funB F_NoDeed___init__
  have b_NoDeed___init__ := F_NoDeed___init__.binds (ps := ["self", "deed"]) fun _ _ _ _ _ _ us hl => match us, hl with | [_, _], _ => rfl
  obtain ⟨fd_NoMark___init__, F_NoMark___init__⟩ : ∃ fd, FunD K "__init__" "NoMark.__init__" (defArgs s_NoMark___init__) (defBody s_NoMark___init__) (defScope s_NoMark___init__) [] [] (He.ma K (He.ga K "NoMark") "__init__") fd := (c.part 0 (p := hd_p0) rfl).t.d.def_ 8 (d := hd_d8) rfl
  have k_NoMark___init__ := F_NoMark___init__.kp
  replace F_NoMark___init__ := He.funB F_NoMark___init__
  have b_NoMark___init__ := F_NoMark___init__.binds (ps := ["self", "name"]) fun _ _ _ _ _ _ us hl => match us, hl with | [_, _], _ => rfl
  obtain ⟨fd_NoName___init__, F_NoName___init__⟩ : ∃ fd, FunD K "__init__" "NoName.__init__" (defArgs s_NoName___init__) (defBody s_NoName___init__) (defScope s_NoName___init__) [] [] (He.ma K (He.ga K "NoName") "__init__") fd := (c.part 0 (p := hd_p0) rfl).t.d.def_ 9 (d := hd_d9) rfl
  have k_NoName___init__ := F_NoName___init__.kp
  replace F_NoName___init__ := He.funB F_NoName___init__
  have b_NoName___init__ := F_NoName___init__.binds (ps := ["self", "name"]) fun _ _ _ _ _ _ us hl => match us, hl with | [_, _], _ => rfl
  obtain ⟨fd_NoEnd___init__, F_NoEnd___init__⟩ : ∃ fd, FunD K "__init__" "NoEnd.__init__" (defArgs s_NoEnd___init__) (defBody s_NoEnd___init__) (defScope s_NoEnd___init__) [] [] (He.ma K (He.ga K "NoEnd") "__init__") fd := (c.part 0 (p := hd_p0) rfl).t.d.def_ 10 (d := hd_d10) rfl
  have k_NoEnd___init__ := F_NoEnd___init__.kp
  replace F_NoEnd___init__ := He.funB F_NoEnd___init__
  have b_NoEnd___init__ := F_NoEnd___init__.binds (ps := ["self", "place"]) fun _ _ _ _ _ _ us hl => match us, hl with | [_, _], _ => rfl
  obtain ⟨fd_NoThing___init__, F_NoThing___init__⟩ : ∃ fd, FunD K "__init__" "NoThing.__init__" (defArgs s_NoThing___init__) (defBody s_NoThing___init__) (defScope s_NoThing___init__) [] [] (He.ma K (He.ga K "NoThing") "__init__") fd := (c.part 0 (p := hd_p0) rfl).t.d.def_ 11 (d := hd_d11) rfl
  have k_NoThing___init__ := F_NoThing___init__.kp
  replace F_NoThing___init__ := He.funB F_NoThing___init__
  have b_NoThing___init__ := F_NoThing___init__.binds (ps := ["self", "thing"]) fun _ _ _ _ _ _ us hl => match us, hl with | [_, _], _ => rfl
  obtain ⟨fd_NoNumber___init__, F_NoNumber___init__⟩ : ∃ fd, FunD K "__init__" "NoNumber.__init__" (defArgs s_NoNumber___init__) (defBody s_NoNumber___init__) (defScope s_NoNumber___init__) [] [] (He.ma K (He.ga K "NoNumber") "__init__") fd := (c.part 0 (p := hd_p0) rfl).t.d.def_ 12 (d := hd_d12) rfl
  have k_NoNumber___init__ := F_NoNumber___init__.kp
  replace F_NoNumber___init__ := He.funB F_NoNumber___init__
  have b_NoNumber___init__ := F_NoNumber___init__.binds (ps := ["self", "number"]) fun _ _ _ _ _ _ us hl => match us, hl with | [_, _], _ => rfl
  obtain ⟨fd_NoStep___init__, F_NoStep___init__⟩ : ∃ fd, FunD K "__init__" "NoStep.__init__" (defArgs s_NoStep___init__) (defBody s_NoStep___init__) (defScope s_NoStep___init__) [] [] (He.ma K (He.ga K "NoStep") "__init__") fd := (c.part 0 (p := hd_p0) rfl).t.d.def_ 13 (d := hd_d13) rfl
  have k_NoStep___init__ := F_NoStep___init__.kp
  replace F_NoStep___init__ := He.funB F_NoStep___init__
  have b_NoStep___init__ := F_NoStep___init__.binds (ps := ["self", "number"]) fun _ _ _ _ _ _ us hl => match us, hl with | [_, _], _ => rfl
  obtain ⟨fd_Bare___init__, F_Bare___init__⟩ : ∃ fd, FunD K "__init__" "Bare.__init__" (defArgs s_Bare___init__) (defBody s_Bare___init__) (defScope s_Bare___init__) [] [] (He.ma K (He.ga K "Bare") "__init__") fd := (c.part 0 (p := hd_p0) rfl).t.d.def_ 14 (d := hd_d14) rfl
  have k_Bare___init__ := F_Bare___init__.kp
  replace F_Bare___init__ := He.funB F_Bare___init__
  have b_Bare___init__ := F_Bare___init__.binds (ps := ["self", "deed", "thing"]) fun _ _ _ _ _ _ us hl => match us, hl with | [_, _, _], _ => rfl
  obtain ⟨fd_NoSeam___init__, F_NoSeam___init__⟩ : ∃ fd, FunD K "__init__" "NoSeam.__init__" (defArgs s_NoSeam___init__) (defBody s_NoSeam___init__) (defScope s_NoSeam___init__) [] [] (He.ma K (He.ga K "NoSeam") "__init__") fd := (c.part 0 (p := hd_p0) rfl).t.d.def_ 15 (d := hd_d15) rfl
  have k_NoSeam___init__ := F_NoSeam___init__.kp
  replace F_NoSeam___init__ := He.funB F_NoSeam___init__
  have b_NoSeam___init__ := F_NoSeam___init__.binds (ps := ["self", "seam"]) fun _ _ _ _ _ _ us hl => match us, hl with | [_, _], _ => rfl
  obtain ⟨fd_NoBack___init__, F_NoBack___init__⟩ : ∃ fd, FunD K "__init__" "NoBack.__init__" (defArgs s_NoBack___init__) (defBody s_NoBack___init__) (defScope s_NoBack___init__) [] [] (He.ma K (He.ga K "NoBack") "__init__") fd := (c.part 0 (p := hd_p0) rfl).t.d.def_ 16 (d := hd_d16) rfl
  have k_NoBack___init__ := F_NoBack___init__.kp
  replace F_NoBack___init__ := He.funB F_NoBack___init__
  have b_NoBack___init__ := F_NoBack___init__.binds (ps := ["self", "many"]) fun _ _ _ _ _ _ us hl => match us, hl with | [_, _], _ => rfl
  obtain ⟨fd_Taken___init__, F_Taken___init__⟩ : ∃ fd, FunD K "__init__" "Taken.__init__" (defArgs s_Taken___init__) (defBody s_Taken___init__) (defScope s_Taken___init__) [] [] (He.ma K (He.ga K "Taken") "__init__") fd := (c.part 0 (p := hd_p0) rfl).t.d.def_ 17 (d := hd_d17) rfl
  have k_Taken___init__ := F_Taken___init__.kp
  replace F_Taken___init__ := He.funB F_Taken___init__
  have b_Taken___init__ := F_Taken___init__.binds (ps := ["self", "deed", "thing"]) fun _ _ _ _ _ _ us hl => match us, hl with | [_, _, _], _ => rfl
  obtain ⟨fd_NoFold___init__, F_NoFold___init__⟩ : ∃ fd, FunD K "__init__" "NoFold.__init__" (defArgs s_NoFold___init__) (defBody s_NoFold___init__) (defScope s_NoFold___init__) [] [] (He.ma K (He.ga K "NoFold") "__init__") fd := (c.part 0 (p := hd_p0) rfl).t.d.def_ 18 (d := hd_d18) rfl
  have k_NoFold___init__ := F_NoFold___init__.kp
  replace F_NoFold___init__ := He.funB F_NoFold___init__
  have b_NoFold___init__ := F_NoFold___init__.binds (ps := ["self", "one", "other"]) fun _ _ _ _ _ _ us hl => match us, hl with | [_, _, _], _ => rfl
  obtain ⟨fd_Full___init__, F_Full___init__⟩ : ∃ fd, FunD K "__init__" "Full.__init__" (defArgs s_Full___init__) (defBody s_Full___init__) (defScope s_Full___init__) [] [] (He.ma K (He.ga K "Full") "__init__") fd := (c.part 0 (p := hd_p0) rfl).t.d.def_ 19 (d := hd_d19) rfl
  have k_Full___init__ := F_Full___init__.kp
  replace F_Full___init__ := He.funB F_Full___init__
  have b_Full___init__ := F_Full___init__.binds (ps := ["self", "size"]) fun _ _ _ _ _ _ us hl => match us, hl with | [_, _], _ => rfl
  obtain ⟨fd_TooMany___init__, F_TooMany___init__⟩ : ∃ fd, FunD K "__init__" "TooMany.__init__" (defArgs s_TooMany___init__) (defBody s_TooMany___init__) (defScope s_TooMany___init__) [] [] (He.ma K (He.ga K "TooMany") "__init__") fd := (c.part 0 (p := hd_p0) rfl).t.d.def_ 20 (d := hd_d20) rfl
  have k_TooMany___init__ := F_TooMany___init__.kp
  replace F_TooMany___init__ := He.funB F_TooMany___init__
  have b_TooMany___init__ := F_TooMany___init__.binds (ps := ["self", "many"]) fun _ _ _ _ _ _ us hl => match us, hl with | [_, _], _ => rfl
  obtain ⟨fd_law_made, F_law_made⟩ : ∃ fd, FunD K "_law_made" "_law_made" (defArgs s_law_made) (defBody s_law_made) (defScope s_law_made) [] [] (He.ga K "_law_made") fd := (c.part 0 (p := hd_p0) rfl).t.d.def_ 21 (d := hd_d21) rfl
  have k_law_made := F_law_made.kp
  replace F_law_made := He.funB F_law_made
  have b_law_made := F_law_made.binds (ps := ["_law_which", "_law_one", "_law_other"]) fun _ _ _ _ _ _ us hl => match us, hl with | [_, _, _], _ => rfl
  obtain ⟨fd_law_kinds, F_law_kinds⟩ : ∃ fd, FunD K "_law_kinds" "_law_kinds" (defArgs s_law_kinds) (defBody s_law_kinds) (defScope s_law_kinds) [] [] (He.ga K "_law_kinds") fd := (c.part 0 (p := hd_p0) rfl).t.d.def_ 22 (d := hd_d22) rfl
  have k_law_kinds := F_law_kinds.kp
  replace F_law_kinds := He.funB F_law_kinds
  have b_law_kinds := F_law_kinds.binds (ps := ["_law_e"]) fun _ _ _ _ _ _ us hl => match us, hl with | [_], _ => rfl
  obtain ⟨fd_law_above, F_law_above⟩ : ∃ fd, FunD K "_law_above" "_law_above" (defArgs s_law_above) (defBody s_law_above) (defScope s_law_above) [] [] (He.ga K "_law_above") fd := (c.part 0 (p := hd_p0) rfl).t.d.def_ 23 (d := hd_d23) rfl
  have k_law_above := F_law_above.kp
  replace F_law_above := He.funB F_law_above
  have b_law_above := F_law_above.binds (ps := ["_law_e"]) fun _ _ _ _ _ _ us hl => match us, hl with | [_], _ => rfl
  obtain ⟨fd_law_above_due, F_law_above_due⟩ : ∃ fd, FunD K "_law_above_due" "_law_above_due" (defArgs s_law_above_due) (defBody s_law_above_due) (defScope s_law_above_due) [] [] (He.ga K "_law_above_due") fd := (c.part 0 (p := hd_p0) rfl).t.d.def_ 24 (d := hd_d24) rfl
  have k_law_above_due := F_law_above_due.kp
  replace F_law_above_due := He.funB F_law_above_due
  have b_law_above_due := F_law_above_due.binds (ps := ["_law_which"]) fun _ _ _ _ _ _ us hl => match us, hl with | [_], _ => rfl
  obtain ⟨fd_law_fields, F_law_fields⟩ : ∃ fd, FunD K "_law_fields" "_law_fields" (defArgs s_law_fields) (defBody s_law_fields) (defScope s_law_fields) [] [] (He.ga K "_law_fields") fd := (c.part 0 (p := hd_p0) rfl).t.d.def_ 25 (d := hd_d25) rfl
  have k_law_fields := F_law_fields.kp
  replace F_law_fields := He.funB F_law_fields
  have b_law_fields := F_law_fields.binds (ps := ["_law_e", "_law_which"]) fun _ _ _ _ _ _ us hl => match us, hl with | [_, _], _ => rfl
  obtain ⟨fd_law, F_law⟩ : ∃ fd, FunD K "law" "law" (defArgs s_law) (defBody s_law) (defScope s_law) [] [] (He.ga K "law") fd := (c.part 0 (p := hd_p0) rfl).t.d.def_ 26 (d := hd_d26) rfl
  have k_law := F_law.kp
  have b_law := FunD.bindsA (ps := ["_law_script"]) F_law fun _ _ _ _ _ _ us hl => match us, hl with | [_], _ => rfl
  replace F_law := He.funB F_law
  refine ⟨fd_law, fun s v => b_law s [v] rfl, fun base _ _ => ?_⟩
  have N_law_pool : KN l.prog w K mg base CX0 1 ["_law_script", "_law_k"] (sp_law_pool K) "_law_pool" [] := ⟨_, _, [], PySem.W.mg_of X G a_law_pool, k_law_pool, .nil, b_law_pool, ok_law_pool F_law_pool T⟩
  have N_law_take : KN l.prog w K mg base CX0 1 ["_law_pool_here", "_law_many"] (sp_law_take) "_law_take" [] := ⟨_, _, [], PySem.W.mg_of X G a_law_take, k_law_take, .nil, b_law_take, ok_law_take F_law_take T⟩
  have N_NoSign___init__ : KM l.prog w K mg base CX0 1 ["self", "place"] (sp_NoSign___init__ (He.ga K "NoSign")) (He.ga K "NoSign") "__init__" [] := ⟨_, _, [], a_NoSign___init__, u_NoSign___init__, fn_NoSign___init__, k_NoSign___init__, .nil, b_NoSign___init__, ok_NoSign___init__ F_NoSign___init__ T⟩
  have N_NoTree___init__ : KM l.prog w K mg base CX0 1 ["self", "place"] (sp_NoTree___init__ (He.ga K "NoTree")) (He.ga K "NoTree") "__init__" [] := ⟨_, _, [], a_NoTree___init__, u_NoTree___init__, fn_NoTree___init__, k_NoTree___init__, .nil, b_NoTree___init__, ok_NoTree___init__ F_NoTree___init__ T⟩
  have N_NoGiven___init__ : KM l.prog w K mg base CX0 1 ["self", "number"] (sp_NoGiven___init__ (He.ga K "NoGiven")) (He.ga K "NoGiven") "__init__" [] := ⟨_, _, [], a_NoGiven___init__, u_NoGiven___init__, fn_NoGiven___init__, k_NoGiven___init__, .nil, b_NoGiven___init__, ok_NoGiven___init__ F_NoGiven___init__ T⟩
  have N_NoPairs___init__ : KM l.prog w K mg base CX0 1 ["self", "number"] (sp_NoPairs___init__ (He.ga K "NoPairs")) (He.ga K "NoPairs") "__init__" [] := ⟨_, _, [], a_NoPairs___init__, u_NoPairs___init__, fn_NoPairs___init__, k_NoPairs___init__, .nil, b_NoPairs___init__, ok_NoPairs___init__ F_NoPairs___init__ T⟩
  have N_NoMachine___init__ : KM l.prog w K mg base CX0 1 ["self", "number"] (sp_NoMachine___init__ (He.ga K "NoMachine")) (He.ga K "NoMachine") "__init__" [] := ⟨_, _, [], a_NoMachine___init__, u_NoMachine___init__, fn_NoMachine___init__, k_NoMachine___init__, .nil, b_NoMachine___init__, ok_NoMachine___init__ F_NoMachine___init__ T⟩
  have N_NoDeed___init__ : KM l.prog w K mg base CX0 1 ["self", "deed"] (sp_NoDeed___init__ (He.ga K "NoDeed")) (He.ga K "NoDeed") "__init__" [] := ⟨_, _, [], a_NoDeed___init__, u_NoDeed___init__, fn_NoDeed___init__, k_NoDeed___init__, .nil, b_NoDeed___init__, ok_NoDeed___init__ F_NoDeed___init__ T⟩
  have N_NoMark___init__ : KM l.prog w K mg base CX0 1 ["self", "name"] (sp_NoMark___init__ (He.ga K "NoMark")) (He.ga K "NoMark") "__init__" [] := ⟨_, _, [], a_NoMark___init__, u_NoMark___init__, fn_NoMark___init__, k_NoMark___init__, .nil, b_NoMark___init__, ok_NoMark___init__ F_NoMark___init__ T⟩
  have N_NoName___init__ : KM l.prog w K mg base CX0 1 ["self", "name"] (sp_NoName___init__ (He.ga K "NoName")) (He.ga K "NoName") "__init__" [] := ⟨_, _, [], a_NoName___init__, u_NoName___init__, fn_NoName___init__, k_NoName___init__, .nil, b_NoName___init__, ok_NoName___init__ F_NoName___init__ T⟩
  have N_NoEnd___init__ : KM l.prog w K mg base CX0 1 ["self", "place"] (sp_NoEnd___init__ (He.ga K "NoEnd")) (He.ga K "NoEnd") "__init__" [] := ⟨_, _, [], a_NoEnd___init__, u_NoEnd___init__, fn_NoEnd___init__, k_NoEnd___init__, .nil, b_NoEnd___init__, ok_NoEnd___init__ F_NoEnd___init__ T⟩
  have N_NoThing___init__ : KM l.prog w K mg base CX0 1 ["self", "thing"] (sp_NoThing___init__ (He.ga K "NoThing")) (He.ga K "NoThing") "__init__" [] := ⟨_, _, [], a_NoThing___init__, u_NoThing___init__, fn_NoThing___init__, k_NoThing___init__, .nil, b_NoThing___init__, ok_NoThing___init__ F_NoThing___init__ T⟩
  have N_NoNumber___init__ : KM l.prog w K mg base CX0 1 ["self", "number"] (sp_NoNumber___init__ (He.ga K "NoNumber")) (He.ga K "NoNumber") "__init__" [] := ⟨_, _, [], a_NoNumber___init__, u_NoNumber___init__, fn_NoNumber___init__, k_NoNumber___init__, .nil, b_NoNumber___init__, ok_NoNumber___init__ F_NoNumber___init__ T⟩
  have N_NoStep___init__ : KM l.prog w K mg base CX0 1 ["self", "number"] (sp_NoStep___init__ (He.ga K "NoStep")) (He.ga K "NoStep") "__init__" [] := ⟨_, _, [], a_NoStep___init__, u_NoStep___init__, fn_NoStep___init__, k_NoStep___init__, .nil, b_NoStep___init__, ok_NoStep___init__ F_NoStep___init__ T⟩
  have N_Bare___init__ : KM l.prog w K mg base CX0 1 ["self", "deed", "thing"] (sp_Bare___init__ (He.ga K "Bare")) (He.ga K "Bare") "__init__" [] := ⟨_, _, [], a_Bare___init__, u_Bare___init__, fn_Bare___init__, k_Bare___init__, .nil, b_Bare___init__, ok_Bare___init__ F_Bare___init__ T⟩
  have N_NoSeam___init__ : KM l.prog w K mg base CX0 1 ["self", "seam"] (sp_NoSeam___init__ (He.ga K "NoSeam")) (He.ga K "NoSeam") "__init__" [] := ⟨_, _, [], a_NoSeam___init__, u_NoSeam___init__, fn_NoSeam___init__, k_NoSeam___init__, .nil, b_NoSeam___init__, ok_NoSeam___init__ F_NoSeam___init__ T⟩
  have N_NoBack___init__ : KM l.prog w K mg base CX0 1 ["self", "many"] (sp_NoBack___init__ (He.ga K "NoBack")) (He.ga K "NoBack") "__init__" [] := ⟨_, _, [], a_NoBack___init__, u_NoBack___init__, fn_NoBack___init__, k_NoBack___init__, .nil, b_NoBack___init__, ok_NoBack___init__ F_NoBack___init__ T⟩
  have N_Taken___init__ : KM l.prog w K mg base CX0 1 ["self", "deed", "thing"] (sp_Taken___init__ (He.ga K "Taken")) (He.ga K "Taken") "__init__" [] := ⟨_, _, [], a_Taken___init__, u_Taken___init__, fn_Taken___init__, k_Taken___init__, .nil, b_Taken___init__, ok_Taken___init__ F_Taken___init__ T⟩
  have N_NoFold___init__ : KM l.prog w K mg base CX0 1 ["self", "one", "other"] (sp_NoFold___init__ (He.ga K "NoFold")) (He.ga K "NoFold") "__init__" [] := ⟨_, _, [], a_NoFold___init__, u_NoFold___init__, fn_NoFold___init__, k_NoFold___init__, .nil, b_NoFold___init__, ok_NoFold___init__ F_NoFold___init__ T⟩
  have N_Full___init__ : KM l.prog w K mg base CX0 1 ["self", "size"] (sp_Full___init__ (He.ga K "Full")) (He.ga K "Full") "__init__" [] := ⟨_, _, [], a_Full___init__, u_Full___init__, fn_Full___init__, k_Full___init__, .nil, b_Full___init__, ok_Full___init__ F_Full___init__ T⟩
  have N_TooMany___init__ : KM l.prog w K mg base CX0 1 ["self", "many"] (sp_TooMany___init__ (He.ga K "TooMany")) (He.ga K "TooMany") "__init__" [] := ⟨_, _, [], a_TooMany___init__, u_TooMany___init__, fn_TooMany___init__, k_TooMany___init__, .nil, b_TooMany___init__, ok_TooMany___init__ F_TooMany___init__ T⟩
  have N_law_made : KN l.prog w K mg base CX0 3 ["_law_which", "_law_one", "_law_other"] (sp_law_made K (He.ga K "NoRow") (He.ga K "NoText") (He.ga K "NoWords") (He.ga K "NoSign") (He.ga K "NoTree") (He.ga K "NoGiven") (He.ga K "NoPairs") (He.ga K "NoMachine") (He.ga K "NoDeed") (He.ga K "NoMark") (He.ga K "NoName") (He.ga K "NoEnd") (He.ga K "NoThing") (He.ga K "NoNumber") (He.ga K "NoStep") (He.ga K "Bare") (He.ga K "NoSeam") (He.ga K "NoBack") (He.ga K "Taken") (He.ga K "NoFold") (He.ga K "Full") (He.ga K "TooMany")) "_law_made" [] := ⟨_, _, [], PySem.W.mg_of X G a_law_made, k_law_made, .nil, b_law_made, ok_law_made F_law_made T N_NoSign___init__ N_NoTree___init__ N_NoGiven___init__ N_NoPairs___init__ N_NoMachine___init__ N_NoDeed___init__ N_NoMark___init__ N_NoName___init__ N_NoEnd___init__ N_NoThing___init__ N_NoNumber___init__ N_NoStep___init__ N_Bare___init__ N_NoSeam___init__ N_NoBack___init__ N_Taken___init__ N_NoFold___init__ N_Full___init__ N_TooMany___init__⟩
  have N_law_kinds : KN l.prog w K mg base CX0 1 ["_law_e"] (sp_law_kinds K (He.ga K "NoRow") (He.ga K "NoText") (He.ga K "NoWords") (He.ga K "NoSign") (He.ga K "NoTree") (He.ga K "NoGiven") (He.ga K "NoPairs") (He.ga K "NoMachine") (He.ga K "NoDeed") (He.ga K "NoMark") (He.ga K "NoName") (He.ga K "NoEnd") (He.ga K "NoThing") (He.ga K "NoNumber") (He.ga K "NoStep") (He.ga K "Bare") (He.ga K "NoSeam") (He.ga K "NoBack") (He.ga K "Taken") (He.ga K "NoFold") (He.ga K "Full") (He.ga K "TooMany")) "_law_kinds" [] := ⟨_, _, [], PySem.W.mg_of X G a_law_kinds, k_law_kinds, .nil, b_law_kinds, ok_law_kinds F_law_kinds T⟩
  have N_law_above : KN l.prog w K mg base CX0 1 ["_law_e"] (sp_law_above K (He.ga K "NoRow") (He.ga K "NoText") (He.ga K "NoWords") (He.ga K "NoSign") (He.ga K "NoTree") (He.ga K "NoGiven") (He.ga K "NoPairs") (He.ga K "NoMachine") (He.ga K "NoDeed") (He.ga K "NoMark") (He.ga K "NoName") (He.ga K "NoEnd") (He.ga K "NoThing") (He.ga K "NoNumber") (He.ga K "NoStep") (He.ga K "Bare") (He.ga K "NoSeam") (He.ga K "NoBack") (He.ga K "Taken") (He.ga K "NoFold") (He.ga K "Full") (He.ga K "TooMany")) "_law_above" [] := ⟨_, _, [], PySem.W.mg_of X G a_law_above, k_law_above, .nil, b_law_above, ok_law_above F_law_above T⟩
  have N_law_above_due : KN l.prog w K mg base CX0 1 ["_law_which"] (sp_law_above_due K) "_law_above_due" [] := ⟨_, _, [], PySem.W.mg_of X G a_law_above_due, k_law_above_due, .nil, b_law_above_due, ok_law_above_due F_law_above_due T⟩
  have N_law_fields : KN l.prog w K mg base CX0 1 ["_law_e", "_law_which"] (sp_law_fields K (He.ga K "NoRow") (He.ga K "NoText") (He.ga K "NoWords") (He.ga K "NoSign") (He.ga K "NoTree") (He.ga K "NoGiven") (He.ga K "NoPairs") (He.ga K "NoMachine") (He.ga K "NoDeed") (He.ga K "NoMark") (He.ga K "NoName") (He.ga K "NoEnd") (He.ga K "NoThing") (He.ga K "NoNumber") (He.ga K "NoStep") (He.ga K "Bare") (He.ga K "NoSeam") (He.ga K "NoBack") (He.ga K "Taken") (He.ga K "NoFold") (He.ga K "Full") (He.ga K "TooMany")) "_law_fields" [] := ⟨_, _, [], PySem.W.mg_of X G a_law_fields, k_law_fields, .nil, b_law_fields, ok_law_fields F_law_fields T⟩
  exact ok_law F_law T N_law_pool N_law_take N_law_made N_law_kinds N_law_above N_law_above_due N_law_fields

end Toy

open PySem PySem.W PySem.Calls PyProof.Rows in
set_option maxRecDepth 100000 in
set_option maxHeartbeats 0 in
theorem PySem.Challenge.cw_undotrees_k05_refusals_made_holds : PySem.Challenge.rw_undotrees_k05_refusals_made.Holds := by
  w_on; o_law
  refine HandSHeadRun.head_any (r := OpenLaw.row PySem.Challenge.rw_undotrees_k05_refusals_made) (q := view (OpenLaw.row PySem.Challenge.rw_undotrees_k05_refusals_made).prog [31]) (H := Toy.hd_hk) (ob := Toy.hd_ob) (M := 40000) (loose := Toy.hd_names) (d := HandSHeadRun.topDef (OpenLaw.row PySem.Challenge.rw_undotrees_k05_refusals_made).prog 31) (kwd := []) Toy.hd_ob_eq
    (by kernel_rfl) (fun s => by kernel_rfl) Toy.hd_run (by kernel_rfl) (by kernel_rfl) (by kernel_rfl) (by rfl) (by first | assumption | decide +kernel) (by decide +kernel) ⟨rfl, rfl, rfl, rfl, rfl, by decide +kernel⟩ ?hw ?hc
  case hw => w_witness2
  case hc =>
    refine L2.walk_ofE (l := PySem.Challenge.rw_undotrees_k05_refusals_made) (n := 63) (k := 4) (x := "_law_script") (CX := L2.CX0) rfl (by decide) (by kernel_rfl) ⟨rfl, by decide, by decide⟩ ?F (fun _ _ _ _ z => z)
    intro w mg fa h Y G hmg0
    obtain ⟨K, KX, c⟩ := Y
    have hmg : mg ("law" : PySem.Str) = some (.ref fa) := by
      have e : (HandSHeadRun.topDef (OpenLaw.row PySem.Challenge.rw_undotrees_k05_refusals_made).prog 31).name = ("law" : PySem.Str) := by kernel_rfl
      rw [← e]
      exact hmg0
    obtain ⟨fd, hb, hF⟩ := Toy.all_mk (l := PySem.Challenge.rw_undotrees_k05_refusals_made) (w := w) KX G hmg c
    refine ⟨K, fd, _, KX, hb, ?_, hF⟩
    exact fun H a ns hl _ hS => ⟨a, ns, rfl, hS, hl, fun _ => rfl⟩

