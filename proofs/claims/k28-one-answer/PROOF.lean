import PyProof.Rows.All
import Wide.All
import OpenK.AllK
import Wide.FinOn
import HandS.ForMost
import HandS.Exc
import HandS.WordsExc
import HandS.Flow
import HandS.ExcInit
import HandS.Wide
import HandS.TupAny
import HandS.IsInst
import HandS.Deep
import HandS.Codes
import HandS.Zip
import HandS.CallSlots
import HandS.Defaults
import HandS.ExcOwn
import HandS.Conv
import HandS.OwnEq
import KE.GoesEnum
import HandS.Head0
import HandS.Head1
import HandS.Head2
import HandS.HeadEnd
import HandS.HeadHook1
import HandS.HeadHook2
import HandS.Words
import HandS.Ends
import PyProof.NeKinds
import PyProof.P3Eq
import HandS.TupMul
import PyProof.StrOps2
import PyProof.ReprRoads
import PyProof.ReprLen
import HandS.Dict
import KE.GoesMore
import HandS.ExcIs
import HandS.ExcValue
import KE.KExcIs
import KE.SortData
import HandS.SortRule
import KE.KDictDisplayH
import PySem.Challenge.RW_pressedwords_k28_whole_one_answer_for_eq
set_option Elab.async false
set_option linter.all false
set_option maxRecDepth 100000
set_option maxHeartbeats 0
set_option autoImplicit false
namespace Mi
open PySem PySem.Spec L2
open He in
def obsM (xf : PySem.W.Frag → Bool) (fa : List Fa) (fn : List DefD) (K : PySem.W.Frag) : Bool × AlD := (xf K, obsD fa fn K)
open He in
def SaysM (xf : PySem.W.Frag → Bool) (fa : List Fa) (fn : List DefD) (K : PySem.W.Frag) : Prop := obsM xf fa fn K = (true, valD fn)
/-- the facts of isinstance that a class has -/
def isiB (K : PySem.W.Frag) (C : Addr) : Bool := He.eqO (PySem.W.findIn K (.ref C) "__class__") (some (some (.builtin "object.__class__"))) &&
  (He.eqO (PySem.W.specialIn K (.builtin "object.__class__") "__get__") (some (some (.builtin "getset_descriptor.__get__"))) &&
    (decide (PySem.W.takesIn K (.builtin "object.__class__") = some true) && decide (PySem.W.mroIn K C (.type "object") = some true)))
def kitA (K : PySem.W.Frag) (t u : Value) (b : Bool) : Bool := decide (PySem.W.kitOne K t u = some b)
def clsDef (s : Stmt) (i : Nat) : Stmt := match s with
  | .ClassDef _ _ _ b _ _ _ _ _ _ _ => b.getD i (.Pass ⟨0, 0, 0, 0⟩)
  | s => s

def cga (K : PySem.W.Frag) (cn : List Str) (C : Nat) : Addr := He.ga K (cn.getD C "")
def isiAllB (K : PySem.W.Frag) (cn : List Str) (ok : List Nat) : Bool := ok.all fun E => isiB K (cga K cn E)
def kitAllB (K : PySem.W.Frag) (cn : List Str) (ok : List Nat) (bt : List String) (cs : List Nat) : Bool := cs.all fun C => (ok.all fun E => kitA K (.ref (cga K cn E)) (.ref (cga K cn C)) (E == C)) && bt.all fun s => kitA K (.type s) (.ref (cga K cn C)) false
def nfAllB (K : PySem.W.Frag) (cn : List Str) (ts : List Nat) : Bool := ts.all fun a => ts.all fun b => PySem.W.notFirst K (cga K cn a) (.ref (cga K cn b))
/-- what is met anew: the set as the bits of a number, the new ones -/
def newA : List Addr → Nat → List Addr → Nat × List Addr
  | [], m, acc => (m, acc)
  | a :: as, m, acc => match Nat.testBit m a with
    | true => newA as m acc
    | false => newA as (m + Nat.shiftLeft 1 a) (a :: acc)
def refsOf (g : Addr → Option Obj) (a : Addr) : List Addr := match g a with
  | some o => He.refsD o
  | none => []
def newF (g : Addr → Option Obj) : List Addr → Nat → List Addr → Nat × List Addr
  | [], m, acc => (m, acc)
  | a :: as, m, acc => match newA (refsOf g a) m acc with
    | (m', acc') => newF g as m' acc'
def asB (g : Addr → Option Obj) : Nat → Nat → List Addr → List Addr
  | 0, _, fr => fr
  | n + 1, m, fr => match newF g fr m [] with
    | (m', fr') => fr ++ asB g n m' fr'
open He in
def obsB (n : Nat) (xf : PySem.W.Frag → Bool) (fa : List Fa) (fn : List DefD) (g : Addr → Option Obj) : Bool × AlD := obsM xf fa fn (frG g (asB g n (Nat.shiftLeft 1 mainGlobals + Nat.shiftLeft 1 cStatics) [mainGlobals, cStatics]))
open He in
def hookB (n : Nat) (xf : PySem.W.Frag → Bool) (fa : List Fa) (fn : List DefD) : PySem.W.Hook where
  α := Bool × AlD
  obs := fun s => obsB n xf fa fn s.heap.get?
  val := fun _ => (true, valD fn)
  says := fun _ h => ∃ K : PySem.W.Frag, K.In h ∧ SaysM xf fa fn K
  of := fun _ _ e => ⟨_, frG_in, e⟩
  keeps := fun _ _ _ ⟨K, hK, c⟩ k => ⟨K, PySem.W.Frag.In.keeps hK k, c⟩
open He in
theorem obsB_eq {n : Nat} {xf : PySem.W.Frag → Bool} {fa : List Fa} {fn : List DefD} {g : Addr → Option Obj} {s : Shared} (h : ∀ a, g a = s.heap.get? a) : obsB n xf fa fn g = (hookB n xf fa fn).obs s := by
  rw [show g = s.heap.get? from funext h]; rfl
/-- the class object is one of an exception class over ValueError -/
def oexB (K : PySem.W.Frag) (C : Addr) : Bool := match K.lookup C with
  | some ⟨.type "type", _, .cls cd, sl⟩ => (match cd.mro, sl.toList with
    | .ref C' :: bm, [_, _, _, _, some (.builtin n), _] => decide (C' = C) && (n == "ValueError.__new__" && (!cd.hasDel && (cd.hasDict && PySem.HandSPX.refsVE bm)))
    | _, _ => false)
  | _ => false
def excKB (K : PySem.W.Frag) (C : Addr) : Bool :=
  oexB K C && (He.eqO (PySem.W.findIn K (.ref C) "__setattr__") (some (some (.builtin "object.__setattr__"))) && (decide (PySem.W.subIn K (.ref C) (.type "BaseException") = some true) && (decide (PySem.W.typeIn K (.ref C) = some (.type "type")) &&
  (PySem.W.keepIn K (.ref C) && (He.eqO (PySem.W.findIn K (.ref C) "__getattribute__") (some (some (.builtin "BaseException.__getattribute__"))) && (He.eqO (PySem.W.findIn K (.ref C) "__getattr__") (some none) &&
  (PySem.W.hasDictIn K C && ((PySem.W.clsIn K C).isSome && (He.eqO (PySem.W.findIn K (.ref C) "__class__") (some (some (.builtin "object.__class__"))) &&
  (He.eqO (PySem.W.specialIn K (.builtin "object.__class__") "__get__") (some (some (.builtin "getset_descriptor.__get__"))) && (decide (PySem.W.takesIn K (.builtin "object.__class__") = some true) && decide (PySem.W.mroIn K C (.type "object") = some true))))))))))))
/-- every own error stands directly under the class b -/
def xsub (b C T : Nat) : Bool := T == C || T == b
def xAllB (K : PySem.W.Frag) (cn : List Str) (xs : List Nat) : Bool := xs.all fun C => excKB K (cga K cn C)
def kitXB (K : PySem.W.Frag) (cn : List Str) (b : Nat) (xs ts : List Nat) : Bool := xs.all fun C => ts.all fun T => kitA K (.ref (cga K cn C)) (.ref (cga K cn T)) (xsub b C T)
def kitYB (K : PySem.W.Frag) (cn : List Str) (xs : List Nat) (ts : List String) : Bool := xs.all fun C => ts.all fun T => kitA K (.ref (cga K cn C)) (.type T) true
/-- a class without own __init__ that makes exceptions -/
def bareB (K : PySem.W.Frag) (C : Addr) : Bool := PySem.W.excIn K C He.veBase "ValueError.__new__" && PySem.W.keepIn K (.ref C)
def bareAllB (K : PySem.W.Frag) (cn : List Str) (xs : List Nat) : Bool := xs.all fun C => bareB K (cga K cn C)
/-- PressError.__init__ is ValueError's -/
def binitB (K : PySem.W.Frag) (B : Addr) : Bool := He.eqO (PySem.W.specialIn K (.ref B) "__getattribute__") (some (some (.builtin "type.__getattribute__"))) && (PySem.W.readsIn K B (.type "type") &&
  (match PySem.W.findCls K (.ref B) (.type "type") "__init__" with
  | some (.val (.builtin n)) => n == "ValueError.__init__"
  | _ => false))
end Mi
namespace K28
open PySem PySem.Spec L2 Mi
abbrev prg : Program := PySem.Challenge.pw_pressedwords_k28_whole_one_answer_for_eq
def top (i : Nat) : Stmt := prg.main.body.getD i (.Pass ⟨0, 0, 0, 0⟩)
abbrev s_is_whole : Stmt := top 4
abbrev s_is_sequence : Stmt := top 5
abbrev s_form_value : Stmt := top 7
abbrev s_check_system : Stmt := top 9
abbrev s_variable_count : Stmt := top 10
abbrev s_start_row_of : Stmt := top 11
abbrev s_is_zero_row : Stmt := top 12
abbrev s_figure_sums : Stmt := top 13
abbrev s_turned_row : Stmt := top 14
abbrev s_read_answer : Stmt := top 15
abbrev s_whole : Stmt := top 16
abbrev s_judge_carries : Stmt := top 17
abbrev s_Answer__init_ : Stmt := clsDef (top 18) 0
abbrev s_Answer__eq_ : Stmt := clsDef (top 18) 1
abbrev s_Carries__init_ : Stmt := clsDef (top 19) 0
abbrev s_Carries__eq_ : Stmt := clsDef (top 19) 1
abbrev s__law_source : Stmt := top 21
abbrev s__law_take : Stmt := top 22
abbrev s__law_value : Stmt := top 23
abbrev s__law_figures : Stmt := top 24
abbrev s__law_used : Stmt := top 25
abbrev s__law_figure_rows : Stmt := top 26
abbrev s__law_next : Stmt := top 27
abbrev s__law_turns : Stmt := top 28
abbrev s__law_system : Stmt := top 29
abbrev s__law_made_system : Stmt := top 30
abbrev s__law_either : Stmt := top 31
abbrev s__law_handed : Stmt := top 32
abbrev s__law_is_whole : Stmt := top 33
abbrev s__law_wholes : Stmt := top 34
abbrev s__law_equal_system : Stmt := top 35
abbrev s__law_small_round : Stmt := top 36
abbrev s__law_great_round : Stmt := top 37
abbrev s__law_shut_round : Stmt := top 38
abbrev s_law : Stmt := top 39
def d_is_whole : He.DefD := ⟨("is_whole", none), "is_whole", "is_whole", defArgs s_is_whole, defBody s_is_whole, defScope s_is_whole, [], []⟩
def d_is_sequence : He.DefD := ⟨("is_sequence", none), "is_sequence", "is_sequence", defArgs s_is_sequence, defBody s_is_sequence, defScope s_is_sequence, [], []⟩
def d_form_value : He.DefD := ⟨("form_value", none), "form_value", "form_value", defArgs s_form_value, defBody s_form_value, defScope s_form_value, [], []⟩
def d_check_system : He.DefD := ⟨("check_system", none), "check_system", "check_system", defArgs s_check_system, defBody s_check_system, defScope s_check_system, [], []⟩
def d_variable_count : He.DefD := ⟨("variable_count", none), "variable_count", "variable_count", defArgs s_variable_count, defBody s_variable_count, defScope s_variable_count, [], []⟩
def d_start_row_of : He.DefD := ⟨("start_row_of", none), "start_row_of", "start_row_of", defArgs s_start_row_of, defBody s_start_row_of, defScope s_start_row_of, [], []⟩
def d_is_zero_row : He.DefD := ⟨("is_zero_row", none), "is_zero_row", "is_zero_row", defArgs s_is_zero_row, defBody s_is_zero_row, defScope s_is_zero_row, [], []⟩
def d_figure_sums : He.DefD := ⟨("figure_sums", none), "figure_sums", "figure_sums", defArgs s_figure_sums, defBody s_figure_sums, defScope s_figure_sums, [], []⟩
def d_turned_row : He.DefD := ⟨("turned_row", none), "turned_row", "turned_row", defArgs s_turned_row, defBody s_turned_row, defScope s_turned_row, [], []⟩
def d_read_answer : He.DefD := ⟨("read_answer", none), "read_answer", "read_answer", defArgs s_read_answer, defBody s_read_answer, defScope s_read_answer, [], []⟩
def d_whole : He.DefD := ⟨("whole", none), "whole", "whole", defArgs s_whole, defBody s_whole, defScope s_whole, [], []⟩
def d_judge_carries : He.DefD := ⟨("judge_carries", none), "judge_carries", "judge_carries", defArgs s_judge_carries, defBody s_judge_carries, defScope s_judge_carries, [], []⟩
def d_Answer__init_ : He.DefD := ⟨("Answer", some "__init__"), "__init__", "Answer.__init__", defArgs s_Answer__init_, defBody s_Answer__init_, defScope s_Answer__init_, [], []⟩
def d_Answer__eq_ : He.DefD := ⟨("Answer", some "__eq__"), "__eq__", "Answer.__eq__", defArgs s_Answer__eq_, defBody s_Answer__eq_, defScope s_Answer__eq_, [], []⟩
def d_Carries__init_ : He.DefD := ⟨("Carries", some "__init__"), "__init__", "Carries.__init__", defArgs s_Carries__init_, defBody s_Carries__init_, defScope s_Carries__init_, [], []⟩
def d_Carries__eq_ : He.DefD := ⟨("Carries", some "__eq__"), "__eq__", "Carries.__eq__", defArgs s_Carries__eq_, defBody s_Carries__eq_, defScope s_Carries__eq_, [], []⟩
def d__law_source : He.DefD := ⟨("_law_source", none), "_law_source", "_law_source", defArgs s__law_source, defBody s__law_source, defScope s__law_source, [], []⟩
def d__law_take : He.DefD := ⟨("_law_take", none), "_law_take", "_law_take", defArgs s__law_take, defBody s__law_take, defScope s__law_take, [], []⟩
def d__law_value : He.DefD := ⟨("_law_value", none), "_law_value", "_law_value", defArgs s__law_value, defBody s__law_value, defScope s__law_value, [], []⟩
def d__law_figures : He.DefD := ⟨("_law_figures", none), "_law_figures", "_law_figures", defArgs s__law_figures, defBody s__law_figures, defScope s__law_figures, [], []⟩
def d__law_used : He.DefD := ⟨("_law_used", none), "_law_used", "_law_used", defArgs s__law_used, defBody s__law_used, defScope s__law_used, [], []⟩
def d__law_figure_rows : He.DefD := ⟨("_law_figure_rows", none), "_law_figure_rows", "_law_figure_rows", defArgs s__law_figure_rows, defBody s__law_figure_rows, defScope s__law_figure_rows, [], []⟩
def d__law_next : He.DefD := ⟨("_law_next", none), "_law_next", "_law_next", defArgs s__law_next, defBody s__law_next, defScope s__law_next, [], []⟩
def d__law_turns : He.DefD := ⟨("_law_turns", none), "_law_turns", "_law_turns", defArgs s__law_turns, defBody s__law_turns, defScope s__law_turns, [], []⟩
def d__law_system : He.DefD := ⟨("_law_system", none), "_law_system", "_law_system", defArgs s__law_system, defBody s__law_system, defScope s__law_system, [], []⟩
def d__law_made_system : He.DefD := ⟨("_law_made_system", none), "_law_made_system", "_law_made_system", defArgs s__law_made_system, defBody s__law_made_system, defScope s__law_made_system, [], []⟩
def d__law_either : He.DefD := ⟨("_law_either", none), "_law_either", "_law_either", defArgs s__law_either, defBody s__law_either, defScope s__law_either, [], []⟩
def d__law_handed : He.DefD := ⟨("_law_handed", none), "_law_handed", "_law_handed", defArgs s__law_handed, defBody s__law_handed, defScope s__law_handed, [], []⟩
def d__law_is_whole : He.DefD := ⟨("_law_is_whole", none), "_law_is_whole", "_law_is_whole", defArgs s__law_is_whole, defBody s__law_is_whole, defScope s__law_is_whole, [], []⟩
def d__law_wholes : He.DefD := ⟨("_law_wholes", none), "_law_wholes", "_law_wholes", defArgs s__law_wholes, defBody s__law_wholes, defScope s__law_wholes, [], []⟩
def d__law_equal_system : He.DefD := ⟨("_law_equal_system", none), "_law_equal_system", "_law_equal_system", defArgs s__law_equal_system, defBody s__law_equal_system, defScope s__law_equal_system, [], []⟩
def d__law_small_round : He.DefD := ⟨("_law_small_round", none), "_law_small_round", "_law_small_round", defArgs s__law_small_round, defBody s__law_small_round, defScope s__law_small_round, [], []⟩
def d__law_great_round : He.DefD := ⟨("_law_great_round", none), "_law_great_round", "_law_great_round", defArgs s__law_great_round, defBody s__law_great_round, defScope s__law_great_round, [], []⟩
def d__law_shut_round : He.DefD := ⟨("_law_shut_round", none), "_law_shut_round", "_law_shut_round", defArgs s__law_shut_round, defBody s__law_shut_round, defScope s__law_shut_round, [], []⟩
def d_law : He.DefD := ⟨("law", none), "law", "law", defArgs s_law, defBody s_law, defScope s_law, [], []⟩
def fn : List He.DefD := [d_is_whole, d_is_sequence, d_form_value, d_check_system, d_variable_count, d_start_row_of, d_is_zero_row, d_figure_sums, d_turned_row, d_read_answer, d_whole, d_judge_carries, d_Answer__init_, d_Answer__eq_, d_Carries__init_, d_Carries__eq_, d__law_source, d__law_take, d__law_value, d__law_figures, d__law_used, d__law_figure_rows, d__law_next, d__law_turns, d__law_system, d__law_made_system, d__law_either, d__law_handed, d__law_is_whole, d__law_wholes, d__law_equal_system, d__law_small_round, d__law_great_round, d__law_shut_round, d_law]
def cn : List Str := ["PressError", "BadEquation", "Answer", "Carries"]
abbrev xPar : Nat := 0
abbrev xS : List Nat := []
abbrev xBare : List Nat := []
abbrev xT : List Nat := []
abbrev xY : List String := []
def isOk : List Nat := [2, 3]
def isBt : List String := ["NoneType", "bool", "int", "str", "tuple", "list", "dict"]
def isCs : List Nat := [2, 3]
def eqTab : List (Nat × Nat) := [(2, 13), (3, 15)]
def fa : List He.Fa := [.glo "Answer", .glo "BadEquation", .glo "Carries", .glo "PressError", .glo "_law_either", .glo "_law_equal_system", .glo "_law_figure_rows", .glo "_law_figures", .glo "_law_great_round", .glo "_law_handed", .glo "_law_is_whole", .glo "_law_made_system", .glo "_law_next", .glo "_law_shut_round", .glo "_law_small_round", .glo "_law_source", .glo "_law_system", .glo "_law_take", .glo "_law_turns", .glo "_law_used", .glo "_law_value", .glo "_law_wholes", .glo "check_system", .glo "figure_sums", .glo "form_value", .glo "is_sequence", .glo "is_whole", .glo "is_zero_row", .glo "judge_carries", .glo "law", .glo "read_answer", .glo "start_row_of", .glo "turned_row", .glo "variable_count", .glo "whole", .free "abs", .free "bool", .free "divmod", .free "enumerate", .free "int", .free "isinstance", .free "len", .free "list", .free "max", .free "range", .free "sorted", .free "sum", .free "tuple", .free "zip", .cls "Answer", .cls "Carries", .noat "Answer" "numbers", .noat "Carries" "rows", .mkr "Answer", .mkr "Carries", .meth "Answer" "__eq__", .meth "Carries" "__eq__"]
def xf (K : PySem.W.Frag) : List Bool := [isiAllB K cn isOk, kitAllB K cn isOk isBt isCs, nfAllB K cn (eqTab.map (·.1)), xAllB K cn xS, kitXB K cn xPar xS xT, kitYB K cn xS xY, bareAllB K cn xBare]
abbrev R : PySem.W.OpenRow := PySem.W.OpenLaw.row PySem.Challenge.rw_pressedwords_k28_whole_one_answer_for_eq
abbrev xfa (K : PySem.W.Frag) : Bool := (xf K).all id
abbrev hk : PySem.W.Hook := hookB 5 xfa fa fn
def ob (s : PySem.W.SharedT) : Bool × He.AlD := obsB 5 xfa fa fn (HandSHeadRun.getT s)
theorem ob_eq (s : PySem.W.SharedT) : ob s = hk.obs s.abs := obsB_eq (HandSHeadRun.getT_eq s)
abbrev LL : List PySem.Str := ((["PressError", "BadEquation", "is_whole", "is_sequence", "form_value", "check_system", "variable_count", "start_row_of", "is_zero_row", "figure_sums", "turned_row", "read_answer", "whole", "judge_carries", "Answer", "Carries", "_law_source", "_law_take", "_law_value", "_law_figures"] : List Str) ++ (["_law_used", "_law_figure_rows", "_law_next", "_law_turns", "_law_system", "_law_made_system", "_law_either", "_law_handed", "_law_is_whole", "_law_wholes", "_law_equal_system", "_law_small_round", "_law_great_round", "_law_shut_round"] : List Str))
open PySem.W PySem.Calls PyProof.Rows HandSHeadRun in
theorem runA (w : World) : ∀ os : OsState, (endF (stepQ (denQ tabQ) R.prog w) 15000 R.prog w os).map (fun s => (looksF R.prog (boot_heap w.params) s.abs, seenQ (PySem.W.view R.prog [39]) LL (importedModules R.prog.main.body) (fun s => xlAt (PySem.W.view R.prog [39]) [] s && recOk R.toRowW.records s) s.abs)) = some (true, openGood (PySem.W.view R.prog [39]) LL) := by
  intro os
  kernel_rfl
open PySem.W PySem.Calls PyProof.Rows HandSHeadRun in
theorem runB (w : World) : ∀ os : OsState, (endF (stepQ (denQ tabQ) R.prog w) 15000 R.prog w os).map (fun s => ob s) = some (hk.val w) := by
  intro os
  kernel_rfl
theorem map3 {α β γ δ : Type} {f : α → β} {g : α → γ} {h : α → δ} {b : β} {c : γ} {d : δ} : ∀ {o : Option α}, o.map (fun s => (f s, g s)) = some (b, c) → o.map (fun s => h s) = some d → o.map (fun s => (f s, g s, h s)) = some (b, c, d)
  | none, q, _ => by cases q
  | some x, q, r => by
    have q' := Option.some.inj q
    have r' : h x = d := Option.some.inj r
    have q1 : f x = b := congrArg Prod.fst q'
    have q2 : g x = c := congrArg Prod.snd q'
    subst r' q1 q2
    rfl
theorem run (w : World) : HandSHeadRun.RunEq R (PySem.W.view R.prog [39]) hk ob 15000 LL w := fun os => map3 (runA w os) (runB w os)
end K28
/-! Mi0: data, objects, the relation to the abstract heap -/
namespace Mi
open PySem PySem.Spec L2

/-- data: never changed once it is made -/
inductive D where
  | non | bl (b : Bool) | int (i : Int) | str (x : Str)
  | tup (xs : List D) | lv (xs : List D) | scr (xs : List D)
  | dk (kvs : List (Key × D)) | dt (kvs : List (List Key × D))
  | ins (C : Nat) (fs : List (Nat × D))
  /-- an exception object -/
  | exc (C : Nat) (fs : List (Nat × D))
/-- a changeable object, flat -/
inductive O where
  | lst (xs : List D) | dk (kvs : List (Key × D)) | dt (kvs : List (List Key × D))
  | ins (C : Nat) (fs : List (Nat × D)) | dead
inductive Vl where
  | d (x : D) | r (k : Nat)
abbrev Hs := List O
abbrev Lo := List (Option Vl)
structure Ex where
  C : Nat
  fs : List (Nat × D)
inductive Res (α : Type) where
  | ok (a : α) (h : Hs) | exc (e : Ex) (h : Hs) | bad

/-- the program's names: where the classes stand, what the attributes are called -/
structure CT where
  ca : Nat → Addr
  nm : Nat → Str
  inj : ∀ a b, nm a = nm b → a = b
  /-- the exception that the suite at hand has caught -/
  ex : Option (Addr × Nat × Option Addr)

def TupW (K : PySem.W.Frag) (a : Addr) (xs : List V) : Prop :=
  ∃ (o : Obj) (its : Array Value) (n : Nat), K.lookup a = some o ∧ o.cls = .type "tuple" ∧ o.data = .seq its n ∧ its.size ≤ sizeLine ∧ Vals xs its.toList
def LstW (K : PySem.W.Frag) (a : Addr) (xs : List V) : Prop :=
  ∃ (o : Obj) (its : Array Value) (n : Nat), K.lookup a = some o ∧ o.cls = .type "list" ∧ o.dict = none ∧ o.data = .seq its n ∧ its.size ≤ sizeLine ∧ Vals xs its.toList
mutual
inductive DR (K : PySem.W.Frag) (ct : CT) (S : Addr → Prop) (H : Hp) : D → V → Prop
  | non : DR K ct S H .non .non
  | bl (b) : DR K ct S H (.bl b) (.bl b)
  | int (i) : DR K ct S H (.int i) (.int i)
  | str (x) : DR K ct S H (.str x) (.str x)
  | tup {a xs vs} : H a = some (.tup vs) ∧ S a → DRs K ct S H xs vs → DR K ct S H (.tup xs) (.ref a)
  | lv {a xs vs} : H a = some (.lst vs) → S a → DRs K ct S H xs vs → DR K ct S H (.lv xs) (.ref a)
  | scr {a xs vs} : ((∃ o, H a = some (.frz o (.lst vs))) ∧ S a) ∨ LstW K a vs → DRs K ct S H xs vs → DR K ct S H (.scr xs) (.ref a)
  | dk {a kvs vs} : H a = some (.dK vs) → S a → DRk K ct S H kvs vs → DR K ct S H (.dk kvs) (.ref a)
  | dt {a kvs vs} : H a = some (.dT vs) → S a → DRt K ct S H kvs vs → DR K ct S H (.dt kvs) (.ref a)
  | ins {a C dx fs vs} : H a = some (.ins (ct.ca C) dx vs) → S a → DRf K ct S H fs vs → DR K ct S H (.ins C fs) (.ref a)
  | exb {a C} : H a = some (L2.exo a (ct.ca C) none) → S a → DR K ct S H (.exc C []) (.ref a)
  | exd {a C dx fs vs} : H a = some (L2.exo a (ct.ca C) (some dx)) → S a → H dx = some (L2.exd dx vs) → S dx → DRf K ct S H fs vs → DR K ct S H (.exc C fs) (.ref a)
  | exq {a C} : ct.ex = some (a, C, none) → DR K ct S H (.exc C []) (.ref a)
  | exr {a C dx fs vs} : ct.ex = some (a, C, some dx) → H dx = some (.xd vs) → S dx → DRf K ct S H fs vs → DR K ct S H (.exc C fs) (.ref a)
inductive DRs (K : PySem.W.Frag) (ct : CT) (S : Addr → Prop) (H : Hp) : List D → List V → Prop
  | nil : DRs K ct S H [] []
  | cons {d v ds vs} : DR K ct S H d v → DRs K ct S H ds vs → DRs K ct S H (d :: ds) (v :: vs)
inductive DRk (K : PySem.W.Frag) (ct : CT) (S : Addr → Prop) (H : Hp) : List (Key × D) → List (Key × V) → Prop
  | nil : DRk K ct S H [] []
  | cons {k d v ds vs} : DR K ct S H d v → DRk K ct S H ds vs → DRk K ct S H ((k, d) :: ds) ((k, v) :: vs)
inductive DRt (K : PySem.W.Frag) (ct : CT) (S : Addr → Prop) (H : Hp) : List (List Key × D) → List (List Key × V) → Prop
  | nil : DRt K ct S H [] []
  | cons {k d v ds vs} : DR K ct S H d v → DRt K ct S H ds vs → DRt K ct S H ((k, d) :: ds) ((k, v) :: vs)
inductive DRf (K : PySem.W.Frag) (ct : CT) (S : Addr → Prop) (H : Hp) : List (Nat × D) → List (Str × V) → Prop
  | nil : DRf K ct S H [] []
  | cons {n d v ds vs} : DR K ct S H d v → DRf K ct S H ds vs → DRf K ct S H ((n, d) :: ds) ((ct.nm n, v) :: vs)
end

/-- all that is tracked and safe stays and stays safe -/
def Kp (S : Addr → Prop) (H : Hp) (S' : Addr → Prop) (H' : Hp) : Prop := ∀ a o, H a = some o → S a → H' a = some o ∧ S' a
theorem Kp.refl (S : Addr → Prop) (H : Hp) : Kp S H S H := fun _ _ h s => ⟨h, s⟩
theorem Kp.trans {S S1 S2 : Addr → Prop} {H H1 H2 : Hp} (a : Kp S H S1 H1) (b : Kp S1 H1 S2 H2) : Kp S H S2 H2 := fun c o h s => let ⟨h1, s1⟩ := a c o h s; b c o h1 s1
theorem Kp.rd {S S' : Addr → Prop} {H H' : Hp} (k : Kp S H S' H') {a : Addr} {u : HO} (r : Rd H a u) (s : S a) : Rd H' a u ∧ S' a := by
  rcases r with r | ⟨o, r⟩
  · obtain ⟨h, s'⟩ := k _ _ r s
    exact ⟨.inl h, s'⟩
  · obtain ⟨h, s'⟩ := k _ _ r s
    exact ⟨.inr ⟨o, h⟩, s'⟩

section
variable {K : PySem.W.Frag} {ct : CT} {S S' : Addr → Prop} {H H' : Hp}
mutual
theorem DR.mono (k : Kp S H S' H') : ∀ {d v}, DR K ct S H d v → DR K ct S' H' d v
  | _, _, .non => .non
  | _, _, .bl b => .bl b
  | _, _, .int i => .int i
  | _, _, .str x => .str x
  | _, _, .tup h r => .tup (k _ _ h.1 h.2) (DRs.mono k r)
  | _, _, .lv h s r => .lv (k _ _ h s).1 (k _ _ h s).2 (DRs.mono k r)
  | _, _, .scr h r => .scr (h.imp (fun ⟨⟨o, h⟩, s⟩ => ⟨⟨o, (k _ _ h s).1⟩, (k _ _ h s).2⟩) id) (DRs.mono k r)
  | _, _, .dk h s r => .dk (k _ _ h s).1 (k _ _ h s).2 (DRk.mono k r)
  | _, _, .dt h s r => .dt (k _ _ h s).1 (k _ _ h s).2 (DRt.mono k r)
  | _, _, .ins h s r => .ins (k _ _ h s).1 (k _ _ h s).2 (DRf.mono k r)
  | _, _, .exb h s => .exb (k _ _ h s).1 (k _ _ h s).2
  | _, _, .exd h s h2 s2 r => .exd (k _ _ h s).1 (k _ _ h s).2 (k _ _ h2 s2).1 (k _ _ h2 s2).2 (DRf.mono k r)
  | _, _, .exq e => .exq e
  | _, _, .exr e h s r => .exr e (k _ _ h s).1 (k _ _ h s).2 (DRf.mono k r)
theorem DRs.mono (k : Kp S H S' H') : ∀ {d v}, DRs K ct S H d v → DRs K ct S' H' d v
  | _, _, .nil => .nil
  | _, _, .cons r t => .cons (DR.mono k r) (DRs.mono k t)
theorem DRk.mono (k : Kp S H S' H') : ∀ {d v}, DRk K ct S H d v → DRk K ct S' H' d v
  | _, _, .nil => .nil
  | _, _, .cons r t => .cons (DR.mono k r) (DRk.mono k t)
theorem DRt.mono (k : Kp S H S' H') : ∀ {d v}, DRt K ct S H d v → DRt K ct S' H' d v
  | _, _, .nil => .nil
  | _, _, .cons r t => .cons (DR.mono k r) (DRt.mono k t)
theorem DRf.mono (k : Kp S H S' H') : ∀ {d v}, DRf K ct S H d v → DRf K ct S' H' d v
  | _, _, .nil => .nil
  | _, _, .cons r t => .cons (DR.mono k r) (DRf.mono k t)
end
theorem DRs.length : ∀ {d v}, DRs K ct S H d v → d.length = v.length
  | _, _, .nil => rfl
  | _, _, .cons _ t => congrArg (· + 1) (DRs.length t)
theorem DRk.length : ∀ {d v}, DRk K ct S H d v → d.length = v.length
  | _, _, .nil => rfl
  | _, _, .cons _ t => congrArg (· + 1) (DRk.length t)
theorem DRt.length : ∀ {d v}, DRt K ct S H d v → d.length = v.length
  | _, _, .nil => rfl
  | _, _, .cons _ t => congrArg (· + 1) (DRt.length t)
theorem DRf.length : ∀ {d v}, DRf K ct S H d v → d.length = v.length
  | _, _, .nil => rfl
  | _, _, .cons _ t => congrArg (· + 1) (DRf.length t)
theorem DRs.append : ∀ {d v d' v'}, DRs K ct S H d v → DRs K ct S H d' v' → DRs K ct S H (d ++ d') (v ++ v')
  | _, _, _, _, .nil, s => s
  | _, _, _, _, .cons r t, s => .cons r (DRs.append t s)
theorem DRs.get : ∀ {d v} {i : Nat} {x : D}, DRs K ct S H d v → d[i]? = some x → ∃ y, v[i]? = some y ∧ DR K ct S H x y
  | _, _, _, _, .nil, e => by simp at e
  | _, _, 0, _, .cons r _, e => by simp at e; subst e; exact ⟨_, rfl, r⟩
  | _, _, i + 1, x, .cons _ t, e => by
    obtain ⟨y, h1, h2⟩ := DRs.get (i := i) (x := x) t (by simpa using e)
    exact ⟨y, by simpa using h1, h2⟩
theorem DRs.getV : ∀ {d v} {i : Nat} {y : V}, DRs K ct S H d v → v[i]? = some y → ∃ x, d[i]? = some x ∧ DR K ct S H x y
  | _, _, _, _, .nil, e => by simp at e
  | _, _, 0, _, .cons r _, e => by simp at e; subst e; exact ⟨_, rfl, r⟩
  | _, _, i + 1, y, .cons _ t, e => by
    obtain ⟨x, h1, h2⟩ := DRs.getV (i := i) (y := y) t (by simpa using e)
    exact ⟨x, by simpa using h1, h2⟩
theorem DRs.set {x : D} {y : V} (r : DR K ct S H x y) : ∀ {d v} (i : Nat), DRs K ct S H d v → DRs K ct S H (d.set i x) (v.set i y)
  | _, _, _, .nil => .nil
  | _, _, 0, .cons _ t => .cons r t
  | _, _, i + 1, .cons q t => .cons q (DRs.set r i t)
theorem DRs.take : ∀ {d v} (n : Nat), DRs K ct S H d v → DRs K ct S H (d.take n) (v.take n)
  | _, _, 0, _ => .nil
  | _, _, _ + 1, .nil => .nil
  | _, _, n + 1, .cons r t => .cons r (DRs.take n t)
theorem DRs.drop : ∀ {d v} (n : Nat), DRs K ct S H d v → DRs K ct S H (d.drop n) (v.drop n)
  | _, _, 0, r => r
  | _, _, _ + 1, .nil => .nil
  | _, _, n + 1, .cons _ t => DRs.drop n t
theorem DRs.eraseIdx : ∀ {d v} (i : Nat), DRs K ct S H d v → DRs K ct S H (d.eraseIdx i) (v.eraseIdx i)
  | _, _, _, .nil => .nil
  | _, _, 0, .cons _ t => t
  | _, _, n + 1, .cons r t => .cons r (DRs.eraseIdx n t)
theorem DRs.reverse {d v} (h : DRs K ct S H d v) : DRs K ct S H d.reverse v.reverse := by
  induction d generalizing v with
  | nil => cases h; exact .nil
  | cons x d ih =>
    cases h with
    | cons r t =>
      rw [List.reverse_cons, List.reverse_cons]
      exact (ih t).append (.cons r .nil)
theorem DRs.dropLast {d v} (h : DRs K ct S H d v) : DRs K ct S H d.dropLast v.dropLast := by
  rw [List.dropLast_eq_take, List.dropLast_eq_take, h.length]; exact h.take _
end

/-! ### live objects -/
def Lv (m : List Addr) (ah : Hs) (a : Addr) : Prop := ∃ (k : Nat) (o : O), m[k]? = some a ∧ ah[k]? = some o ∧ o ≠ O.dead
def Sf (m : List Addr) (ah : Hs) (a : Addr) : Prop := ¬ Lv m ah a
inductive OR (K : PySem.W.Frag) (ct : CT) (S : Addr → Prop) (H : Hp) : O → HO → Prop
  | lst {xs vs} : DRs K ct S H xs vs → OR K ct S H (.lst xs) (.lst vs)
  | dk {xs vs} : DRk K ct S H xs vs → OR K ct S H (.dk xs) (.dK vs)
  | dt {xs vs} : DRt K ct S H xs vs → OR K ct S H (.dt xs) (.dT vs)
  | ins {C dx fs vs} : DRf K ct S H fs vs → OR K ct S H (.ins C fs) (.ins (ct.ca C) dx vs)
  | dead (u) : OR K ct S H .dead u
theorem OR.mono {K : PySem.W.Frag} {ct : CT} {S S' : Addr → Prop} {H H' : Hp} (k : Kp S H S' H') {o u} (h : OR K ct S H o u) : OR K ct S' H' o u := by
  cases h with
  | lst r => exact .lst (r.mono k)
  | dk r => exact .dk (r.mono k)
  | dt r => exact .dt (r.mono k)
  | ins r => exact .ins (r.mono k)
  | dead u => exact .dead u
structure HR (K : PySem.W.Frag) (ct : CT) (m : List Addr) (ah : Hs) (H : Hp) : Prop where
  len : m.length = ah.length
  inj : ∀ (i j : Nat) (a : Addr), m[i]? = some a → m[j]? = some a → i = j
  ob : ∀ (k : Nat) a o, m[k]? = some a → ah[k]? = some o → ∃ u, H a = some u ∧ OR K ct (Sf m ah) H o u
structure Ext (m : List Addr) (ah : Hs) (H : Hp) (m' : List Addr) (ah' : Hs) (H' : Hp) : Prop where
  pre : ∃ t, m' = m ++ t
  kp : Kp (Sf m ah) H (Sf m' ah') H'
theorem Ext.refl (m : List Addr) (ah : Hs) (H : Hp) : Ext m ah H m ah H := ⟨⟨[], by simp⟩, Kp.refl _ _⟩
theorem Ext.trans {m m1 m2 : List Addr} {ah ah1 ah2 : Hs} {H H1 H2 : Hp} (a : Ext m ah H m1 ah1 H1) (b : Ext m1 ah1 H1 m2 ah2 H2) : Ext m ah H m2 ah2 H2 := by
  obtain ⟨t, rfl⟩ := a.pre
  obtain ⟨t', rfl⟩ := b.pre
  exact ⟨⟨t ++ t', by rw [List.append_assoc]⟩, a.kp.trans b.kp⟩
theorem Ext.at {m m1 : List Addr} {ah ah1 : Hs} {H H1 : Hp} (a : Ext m ah H m1 ah1 H1) {k : Nat} {x : Addr} (h : m[k]? = some x) : m1[k]? = some x := by
  obtain ⟨t, rfl⟩ := a.pre
  rw [List.getElem?_append_left (List.getElem?_eq_some_iff.mp h).1]
  exact h
def VlR (K : PySem.W.Frag) (ct : CT) (m : List Addr) (ah : Hs) (H : Hp) : Vl → V → Prop
  | .d x, v => DR K ct (Sf m ah) H x v
  | .r k, v => ∃ a, m[k]? = some a ∧ v = .ref a
inductive VlRs (K : PySem.W.Frag) (ct : CT) (m : List Addr) (ah : Hs) (H : Hp) : List Vl → List V → Prop
  | nil : VlRs K ct m ah H [] []
  | cons {d v ds vs} : VlR K ct m ah H d v → VlRs K ct m ah H ds vs → VlRs K ct m ah H (d :: ds) (v :: vs)
structure LR (K : PySem.W.Frag) (ct : CT) (m : List Addr) (ah : Hs) (H : Hp) (σ : Lo) (σV : St) : Prop where
  len : σ.length = σV.length
  at_ : ∀ (i : Nat) x, σ[i]? = some (some x) → ∃ v, σV[i]? = some (some v) ∧ VlR K ct m ah H x v
section
variable {K : PySem.W.Frag} {ct : CT} {m m' : List Addr} {ah ah' : Hs} {H H' : Hp}
theorem VlR.ext (e : Ext m ah H m' ah' H') {x v} (h : VlR K ct m ah H x v) : VlR K ct m' ah' H' x v := by
  cases x with
  | d x => exact DR.mono e.kp h
  | r k => obtain ⟨a, h1, h2⟩ := h; exact ⟨a, e.at h1, h2⟩
theorem VlRs.ext (e : Ext m ah H m' ah' H') : ∀ {xs vs}, VlRs K ct m ah H xs vs → VlRs K ct m' ah' H' xs vs
  | _, _, .nil => .nil
  | _, _, .cons r t => .cons (r.ext e) (VlRs.ext e t)
theorem VlRs.length : ∀ {d v}, VlRs K ct m ah H d v → d.length = v.length
  | _, _, .nil => rfl
  | _, _, .cons _ t => congrArg (· + 1) (VlRs.length t)
theorem LR.ext (e : Ext m ah H m' ah' H') {σ σV} (h : LR K ct m ah H σ σV) : LR K ct m' ah' H' σ σV :=
  ⟨h.len, fun i x hx => let ⟨v, h1, h2⟩ := h.at_ i x hx; ⟨v, h1, h2.ext e⟩⟩
theorem LR.set {σ σV} (h : LR K ct m ah H σ σV) {x v} (r : VlR K ct m ah H x v) (i : Nat) : LR K ct m ah H (σ.set i (some x)) (σV.set i (some v)) := by
  refine ⟨by rw [List.length_set, List.length_set, h.len], fun j y hy => ?_⟩
  by_cases e : i = j
  · subst e
    by_cases hi : i < σ.length
    · rw [List.getElem?_set_self hi] at hy
      cases hy
      exact ⟨v, by rw [List.getElem?_set_self (by rw [← h.len]; exact hi)], r⟩
    · rw [List.getElem?_eq_none (by rw [List.length_set]; omega)] at hy; cases hy
  · rw [List.getElem?_set_ne e] at hy ⊢
    exact h.at_ j y hy
theorem LR.forget {σ σ' σV} (h : LR K ct m ah H σ σV) (hl : σ'.length = σ.length) (hw : ∀ (i : Nat) x, σ'[i]? = some (some x) → σ[i]? = some (some x)) : LR K ct m ah H σ' σV :=
  ⟨hl.trans h.len, fun i x hx => h.at_ i x (hw i x hx)⟩

/-! ### how states go on -/
theorem HR.there (h : HR K ct m ah H) {k : Nat} {a : Addr} (e : m[k]? = some a) : ∃ o u, ah[k]? = some o ∧ H a = some u ∧ OR K ct (Sf m ah) H o u := by
  have hk : k < ah.length := by rw [← h.len]; exact (List.getElem?_eq_some_iff.mp e).1
  obtain ⟨u, h1, h2⟩ := h.ob k a ah[k] e (List.getElem?_eq_getElem hk)
  exact ⟨_, u, List.getElem?_eq_getElem hk, h1, h2⟩
theorem HR.fresh (h : HR K ct m ah H) {p : Addr} (hp : H p = none) (k : Nat) : m[k]? ≠ some p := fun e => by
  obtain ⟨_, u, _, h1, _⟩ := h.there e
  rw [hp] at h1; cases h1
theorem HR.freshS (h : HR K ct m ah H) {p : Addr} (hp : H p = none) : Sf m ah p := fun ⟨k, _, e, _⟩ => h.fresh hp k e
/-- H goes on at new places alone -/
theorem HR.more (h : HR K ct m ah H) (hH : ∀ a o, H a = some o → H' a = some o) : HR K ct m ah H' ∧ Ext m ah H m ah H' := by
  have kp : Kp (Sf m ah) H (Sf m ah) H' := fun a o e s => ⟨hH a o e, s⟩
  refine ⟨⟨h.len, h.inj, fun k a o e1 e2 => ?_⟩, ⟨⟨[], by simp⟩, kp⟩⟩
  obtain ⟨u, h1, h2⟩ := h.ob k a o e1 e2
  exact ⟨u, hH _ _ h1, h2.mono kp⟩
theorem upd_more {p : Addr} {o : HO} (hp : H p = none) : ∀ a u, H a = some u → upd H p o a = some u := fun a u e => by
  rw [upd_ne (ne_of_none e hp)]; exact e
/-- a new object, never to be changed -/
theorem HR.pure (h : HR K ct m ah H) {p : Addr} {o : HO} (hp : H p = none) : HR K ct m ah (upd H p o) ∧ Ext m ah H m ah (upd H p o) ∧ Sf m ah p :=
  ⟨(h.more (upd_more hp)).1, (h.more (upd_more hp)).2, h.freshS hp⟩
/-- a new object, to be changed -/
theorem HR.alloc (h : HR K ct m ah H) {p : Addr} {o : O} {u : HO} (hp : H p = none) (ho : OR K ct (Sf m ah) H o u) :
    HR K ct (m ++ [p]) (ah ++ [o]) (upd H p u) ∧ Ext m ah H (m ++ [p]) (ah ++ [o]) (upd H p u) := by
  have lv : ∀ a, Lv (m ++ [p]) (ah ++ [o]) a → Lv m ah a ∨ a = p := fun a ⟨k, q, e1, e2, e3⟩ => by
    by_cases hk : k < m.length
    · rw [List.getElem?_append_left hk] at e1
      rw [List.getElem?_append_left (by rw [← h.len]; exact hk)] at e2
      exact .inl ⟨k, q, e1, e2, e3⟩
    · rw [List.getElem?_append_right (by omega)] at e1
      have := (List.getElem?_eq_some_iff.mp e1).1
      have : k - m.length = 0 := by simpa using this
      rw [this] at e1
      exact .inr (by simpa using e1.symm)
  have kp : Kp (Sf m ah) H (Sf (m ++ [p]) (ah ++ [o])) (upd H p u) := fun a q e s =>
    ⟨upd_more hp a q e, fun l => (lv a l).elim s fun z => ne_of_none e hp z⟩
  refine ⟨⟨by rw [List.length_append, List.length_append, h.len]; rfl, fun i j a e1 e2 => ?_, fun k a q e1 e2 => ?_⟩, ⟨⟨[p], rfl⟩, kp⟩⟩
  · by_cases hi : i < m.length
    · rw [List.getElem?_append_left hi] at e1
      by_cases hj : j < m.length
      · rw [List.getElem?_append_left hj] at e2
        exact h.inj i j a e1 e2
      · rw [List.getElem?_append_right (by omega)] at e2
        have hz : a = p := by
          have := (List.getElem?_eq_some_iff.mp e2).1
          have z : j - m.length = 0 := by simpa using this
          rw [z] at e2; simpa using e2.symm
        subst hz
        exact absurd e1 (h.fresh hp i)
    · rw [List.getElem?_append_right (by omega)] at e1
      have hz : a = p ∧ i = m.length := by
        have := (List.getElem?_eq_some_iff.mp e1).1
        have z : i - m.length = 0 := by simpa using this
        rw [z] at e1; exact ⟨by simpa using e1.symm, by omega⟩
      obtain ⟨rfl, rfl⟩ := hz
      by_cases hj : j < m.length
      · rw [List.getElem?_append_left hj] at e2
        exact absurd e2 (h.fresh hp j)
      · have := (List.getElem?_eq_some_iff.mp e2).1
        rw [List.length_append, List.length_singleton] at this
        omega
  · by_cases hk : k < m.length
    · rw [List.getElem?_append_left hk] at e1
      rw [List.getElem?_append_left (by rw [← h.len]; exact hk)] at e2
      obtain ⟨v, h1, h2⟩ := h.ob k a q e1 e2
      exact ⟨v, upd_more hp _ _ h1, h2.mono kp⟩
    · rw [List.getElem?_append_right (by omega)] at e1
      rw [List.getElem?_append_right (by rw [← h.len]; omega)] at e2
      have z : k - m.length = 0 := by
        have := (List.getElem?_eq_some_iff.mp e1).1
        simpa using this
      rw [z] at e1
      rw [← h.len, z] at e2
      have ea : a = p := by simpa using e1.symm
      have eo : q = o := by simpa using e2.symm
      subst ea eo
      exact ⟨u, upd_same, ho.mono kp⟩
/-- an object changed -/
theorem HR.write (h : HR K ct m ah H) {k : Nat} {a : Addr} {o o' : O} {u' : HO} (e1 : m[k]? = some a) (e2 : ah[k]? = some o) (nd : o ≠ .dead) (ho : OR K ct (Sf m ah) H o' u') :
    HR K ct m (ah.set k o') (upd H a u') ∧ Ext m ah H m (ah.set k o') (upd H a u') := by
  have la : Lv m ah a := ⟨k, o, e1, e2, nd⟩
  have hk : k < ah.length := (List.getElem?_eq_some_iff.mp e2).1
  have kp : Kp (Sf m ah) H (Sf m (ah.set k o')) (upd H a u') := fun b q e s => by
    have hb : b ≠ a := fun z => s (z ▸ la)
    refine ⟨by rw [upd_ne hb]; exact e, fun ⟨j, q', f1, f2, f3⟩ => ?_⟩
    by_cases hj : k = j
    · subst hj; rw [e1] at f1; cases f1; exact hb rfl
    · rw [List.getElem?_set_ne hj] at f2
      exact s ⟨j, q', f1, f2, f3⟩
  refine ⟨⟨by rw [List.length_set]; exact h.len, h.inj, fun j b q f1 f2 => ?_⟩, ⟨⟨[], by simp⟩, kp⟩⟩
  by_cases hj : k = j
  · subst hj
    rw [List.getElem?_set_self hk] at f2
    cases f2
    rw [e1] at f1; cases f1
    exact ⟨u', upd_same, ho.mono kp⟩
  · rw [List.getElem?_set_ne hj] at f2
    obtain ⟨v, h1, h2⟩ := h.ob j b q f1 f2
    have hb : b ≠ a := fun z => by subst z; exact hj (h.inj _ _ _ e1 f1)
    exact ⟨v, by rw [upd_ne hb]; exact h1, h2.mono kp⟩
/-- an object that is never changed from here on -/
theorem HR.freeze (h : HR K ct m ah H) {k : Nat} {a : Addr} (e1 : m[k]? = some a) :
    HR K ct m (ah.set k .dead) H ∧ Ext m ah H m (ah.set k .dead) H ∧ Sf m (ah.set k .dead) a := by
  obtain ⟨o, u, e2, _, _⟩ := h.there e1
  have hk : k < ah.length := (List.getElem?_eq_some_iff.mp e2).1
  have lv : ∀ b, Lv m (ah.set k .dead) b → Lv m ah b ∧ b ≠ a := fun b ⟨j, q', f1, f2, f3⟩ => by
    by_cases hj : k = j
    · subst hj; rw [List.getElem?_set_self hk] at f2; cases f2; exact absurd rfl f3
    · rw [List.getElem?_set_ne hj] at f2
      exact ⟨⟨j, q', f1, f2, f3⟩, fun z => by subst z; exact hj (h.inj _ _ _ e1 f1)⟩
  have kp : Kp (Sf m ah) H (Sf m (ah.set k .dead)) H := fun b q e s => ⟨e, fun l => s (lv b l).1⟩
  refine ⟨⟨by rw [List.length_set]; exact h.len, h.inj, fun j b q f1 f2 => ?_⟩, ⟨⟨[], by simp⟩, kp⟩, fun l => (lv a l).2 rfl⟩
  by_cases hj : k = j
  · subst hj
    rw [List.getElem?_set_self hk] at f2
    cases f2
    obtain ⟨v, h1, h2⟩ := h.ob k b o f1 e2
    exact ⟨v, h1, .dead v⟩
  · rw [List.getElem?_set_ne hj] at f2
    obtain ⟨v, h1, h2⟩ := h.ob j b q f1 f2
    exact ⟨v, h1, h2.mono kp⟩
/-- objects forgotten -/
theorem HR.trim (h : HR K ct m ah H) (n : Nat) : HR K ct (m.take n) (ah.take n) H ∧ Kp (Sf m ah) H (Sf (m.take n) (ah.take n)) H := by
  have lv : ∀ b, Lv (m.take n) (ah.take n) b → Lv m ah b := fun b ⟨j, q', f1, f2, f3⟩ => by
    rw [List.getElem?_take] at f1 f2
    split at f1
    · rename_i hj
      rw [if_pos hj] at f2
      exact ⟨j, q', f1, f2, f3⟩
    · cases f1
  have kp : Kp (Sf m ah) H (Sf (m.take n) (ah.take n)) H := fun b q e s => ⟨e, fun l => s (lv b l)⟩
  refine ⟨⟨by rw [List.length_take, List.length_take, h.len], fun i j a f1 f2 => ?_, fun j b q f1 f2 => ?_⟩, kp⟩
  · rw [List.getElem?_take] at f1 f2
    split at f1
    · split at f2
      · exact h.inj _ _ _ f1 f2
      · cases f2
    · cases f1
  · rw [List.getElem?_take] at f1 f2
    split at f1
    · rename_i hj
      rw [if_pos hj] at f2
      obtain ⟨v, h1, h2⟩ := h.ob j b q f1 f2
      exact ⟨v, h1, h2.mono kp⟩
    · cases f1
/-- back to what stood ahead -/
theorem Ext.trimmed (h : HR K ct m' ah' H') (e : Ext m ah H m' ah' H') : Ext m ah H m (ah'.take m.length) H' := by
  obtain ⟨t, rfl⟩ := e.pre
  refine ⟨⟨[], by simp⟩, e.kp.trans ?_⟩
  have := (h.trim m.length).2
  rw [List.take_left'] at this
  · exact this
  · rfl
theorem HR.trimmed (h : HR K ct m' ah' H') (e : Ext m ah H m' ah' H') : HR K ct m (ah'.take m.length) H' := by
  obtain ⟨t, rfl⟩ := e.pre
  have := (h.trim m.length).1
  rw [List.take_left'] at this
  · exact this
  · rfl
end
end Mi

/-! Mi1: what an expression means over data; the judgements -/
namespace Mi
open PySem PySem.Spec L2

abbrev WX' := WX
/-- an exception as it lies in the heap -/
def XR (K : PySem.W.Frag) (ct : CT) (S : Addr → Prop) (H : Hp) (e : Ex) (cls : Value) (d : Option Addr) : Prop :=
  cls = .ref (ct.ca e.C) ∧ ∃ vs, DRf K ct S H e.fs vs ∧ ((e.fs = [] ∧ d = none) ∨ ∃ dx, d = some dx ∧ H dx = some (.xd vs) ∧ S dx)

/-- what is wanted of a result -/
def Po {α β : Type} (K : PySem.W.Frag) (ct : CT) (W : WX) (σV : L2.St) (R : List Addr → Hs → Hp → α → β → Prop) (m : List Addr) (ah : Hs) (H : Hp) (r : Res α) (Q : β → Hp → Prop) : Prop :=
  match r with
  | .ok x h => ∀ m' H' v, HR K ct m' h H' → Ext m ah H m' h H' → R m' h H' x v → Q v H'
  | .exc e h => ∀ m' H' cls d, HR K ct m' h H' → Ext m ah H m' h H' → XR K ct (Sf m' h) H' e cls d → W cls d σV H'
  | .bad => False
def rb {α β : Type} (r : Res α) (f : α → Hs → Res β) : Res β := match r with
  | .ok a h => f a h
  | .exc e h => .exc e h
  | .bad => .bad
@[simp] theorem rb_ok {α β : Type} (a : α) (h : Hs) (f : α → Hs → Res β) : rb (.ok a h) f = f a h := rfl
@[simp] theorem rb_exc {α β : Type} (e : Ex) (h : Hs) (f : α → Hs → Res β) : rb (.exc e h) f = .exc e h := rfl
@[simp] theorem rb_bad {α β : Type} (f : α → Hs → Res β) : rb .bad f = .bad := rfl
section
variable {α β γ δ : Type} {K : PySem.W.Frag} {ct : CT} {W : WX} {σV : L2.St} {m m' : List Addr} {ah ah' : Hs} {H H' : Hp}
theorem Po.ext {R : List Addr → Hs → Hp → α → β → Prop} {r : Res α} {Q : β → Hp → Prop} (p : Po K ct W σV R m ah H r Q) (e : Ext m ah H m' ah' H') : Po K ct W σV R m' ah' H' r Q := by
  cases r with
  | ok x h => exact fun m2 H2 v h2 e2 r2 => p m2 H2 v h2 (e.trans e2) r2
  | exc x h => exact fun m2 H2 c d h2 e2 r2 => p m2 H2 c d h2 (e.trans e2) r2
  | bad => exact p
theorem Po.imp {R : List Addr → Hs → Hp → α → β → Prop} {r : Res α} {Q Q' : β → Hp → Prop} (p : Po K ct W σV R m ah H r Q) (hq : ∀ v H', Q v H' → Q' v H') : Po K ct W σV R m ah H r Q' := by
  cases r with
  | ok x h => exact fun m2 H2 v h2 e2 r2 => hq _ _ (p m2 H2 v h2 e2 r2)
  | exc x h => exact p
  | bad => exact p
/-- what is told of a value on the way -/
def Mid (K : PySem.W.Frag) (ct : CT) (m : List Addr) (ah : Hs) (H : Hp) (R : List Addr → Hs → Hp → α → β → Prop) (P : List Addr → Hs → Hp → α → Prop) (v : β) (H1 : Hp) : Prop :=
  ∃ m1 h1 x, HR K ct m1 h1 H1 ∧ Ext m ah H m1 h1 H1 ∧ R m1 h1 H1 x v ∧ P m1 h1 H1 x
theorem Po.bind {R : List Addr → Hs → Hp → α → β → Prop} {T : List Addr → Hs → Hp → γ → δ → Prop} {r : Res α} {g : α → Hs → Res γ} {Q : δ → Hp → Prop} (p : Po K ct W σV T m ah H (rb r g) Q) :
    Po K ct W σV R m ah H r (Mid K ct m ah H R fun m1 h1 H1 x => Po K ct W σV T m1 h1 H1 (g x h1) Q) := by
  cases r with
  | ok x h => exact fun m2 H2 v h2 e2 r2 => ⟨m2, h, x, h2, e2, r2, Po.ext (r := g x h) p e2⟩
  | exc x h => exact p
  | bad => exact p
end

abbrev SemE := Lo → Hs → Res Vl
abbrev SemT := Lo → Hs → Res Bool
abbrev SemA := Lo → Hs → Res (List Vl)
section
variable (K : PySem.W.Frag) (ct : CT) (W : WX)
def rdE (f : SemE) : TE := fun σV H Q => ∃ m ah σ, HR K ct m ah H ∧ LR K ct m ah H σ σV ∧ Po K ct W σV (VlR K ct) m ah H (f σ ah) Q
def rdT (f : SemT) : TT := fun σV H Q => ∃ m ah σ, HR K ct m ah H ∧ LR K ct m ah H σ σV ∧ Po K ct W σV (fun _ _ _ b c => b = c) m ah H (f σ ah) Q
def rdA (f : SemA) : TA := fun σV H Q => ∃ m ah σ, HR K ct m ah H ∧ LR K ct m ah H σ σV ∧ Po K ct W σV (VlRs K ct) m ah H (f σ ah) Q
end
abbrev SE (X : Cx) (ct : CT) (W : WX) (e : Expr) (f : SemE) : Prop := PE X e (rdE X.K ct W f)
abbrev ST (X : Cx) (ct : CT) (W : WX) (e : Expr) (f : SemT) : Prop := PT X e (rdT X.K ct W f)
abbrev SA (X : Cx) (ct : CT) (W : WX) (es : List Expr) (f : SemA) : Prop := PA X es (rdA X.K ct W f)

theorem PE.imp {X : Cx} {e : Expr} {t t' : TE} (h : PE X e t) (i : ∀ σ H Q, t' σ H Q → t σ H Q) : PE X e t' := ⟨fun pins s σ H Q I q => h.run pins s σ H Q I (i _ _ _ q)⟩
theorem PT.imp {X : Cx} {e : Expr} {t t' : TT} (h : PT X e t) (i : ∀ σ H Q, t' σ H Q → t σ H Q) : PT X e t' := ⟨fun pins s σ H Q I q => h.run pins s σ H Q I (i _ _ _ q)⟩
theorem PW.imp {X : Cx} {e : Expr} {t t' : TT} (h : PW X e t) (i : ∀ σ H Q, t' σ H Q → t σ H Q) : PW X e t' := ⟨fun w pins s σ H Q I q => h.run w pins s σ H Q I (i _ _ _ q)⟩
theorem PA.imp {X : Cx} {e : List Expr} {t t' : TA} (h : PA X e t) (i : ∀ σ H Q, t' σ H Q → t σ H Q) : PA X e t' := ⟨fun pos pins s σ H Q I q => h.run pos pins s σ H Q I (i _ _ _ q)⟩
theorem PS.imp {X : Cx} {e : Stmt} {t t' : TS} (h : PS X e t) (i : ∀ D σ H, t' D σ H → t D σ H) : PS X e t' := ⟨fun pins s σ H Q I q => h.run pins s σ H Q I (i _ _ _ q)⟩
theorem PSs.imp {X : Cx} {e : List Stmt} {t t' : TS} (h : PSs X e t) (i : ∀ D σ H, t' D σ H → t D σ H) : PSs X e t' := ⟨fun pins s σ H Q I q => h.run pins s σ H Q I (i _ _ _ q)⟩

/-! ### names, constants -/
def eVar (i : Nat) : SemE := fun σ h => match σ[i]? with
  | some (some v) => .ok v h
  | _ => .bad
def eK (d : D) : SemE := fun _ h => .ok (.d d) h
section
variable {X : Cx} {ct : CT} {W : WX} {pos : Pos}
theorem se_var (i : Nat) {x : Str} (hN : X.N[i]? = some x := by rfl) (hv : Vis X.env.scope x := by first | exact Or.inl rfl | exact Or.inr (Or.inl rfl) | exact Or.inr (Or.inr rfl)) (hd : (x == ("__debug__" : Str)) = false := by decide)
    (hcd : (x == ("__classdict__" : Str)) = false := by decide) : SE X ct W (.Name x pos) (eVar i) :=
  PE.imp (pe_var hN hv hd hcd) fun σV H Q ⟨m, ah, σ, hr, lr, p⟩ => by
    unfold eVar at p
    cases e : σ[i]? with
    | none => rw [e] at p; exact p.elim
    | some o =>
      cases o with
      | none => rw [e] at p; exact p.elim
      | some x =>
        rw [e] at p
        obtain ⟨v, h1, h2⟩ := lr.at_ i x e
        exact ⟨v, h1, p m H v hr (Ext.refl _ _ _) h2⟩
theorem se_const {e : Expr} {v : V} {d : D} (h : PE X e (tC v)) (r : ∀ S H, DR X.K ct S H d v) : SE X ct W e (eK d) :=
  PE.imp h fun σV H Q ⟨m, ah, σ, hr, lr, p⟩ => p m H v hr (Ext.refl _ _ _) (r _ _)
theorem se_int {i : Int} {j} : SE X ct W (.Constant (.int i) j pos) (eK (.int i)) := se_const pe_int fun _ _ => .int i
theorem se_bl {b : Bool} {j} : SE X ct W (.Constant (.bool b) j pos) (eK (.bl b)) := se_const pe_bl fun _ _ => .bl b
theorem se_non {j} : SE X ct W (.Constant .none j pos) (eK .non) := se_const pe_non fun _ _ => .non
theorem se_str {x : Str} {j} : SE X ct W (.Constant (.str x) j pos) (eK (.str x)) := se_const pe_str fun _ _ => .str x
theorem se_globI {x : Str} {i : Int} {t : Tok} (hg : Gl X x) (hm : X.mg x = some (.int i t)) (hd : (x == ("__debug__" : Str)) = false := by decide) : SE X ct W (.Name x pos) (eK (.int i)) := se_const (pe_glob hg hm (v := .int i) ⟨_, rfl⟩ hd) fun _ _ => .int i
theorem se_globS {x : Str} {i : Str} {t : Tok} (hg : Gl X x) (hm : X.mg x = some (.str i t)) (hd : (x == ("__debug__" : Str)) = false := by decide) : SE X ct W (.Name x pos) (eK (.str i)) := se_const (pe_glob hg hm (v := .str i) ⟨_, rfl⟩ hd) fun _ _ => .str i
theorem se_globT {x : Str} {i : D} {a : Addr} (hg : Gl X x) (hm : X.mg x = some (.ref a)) (r : ∀ S H, DR X.K ct S H i (.ref a)) (hd : (x == ("__debug__" : Str)) = false := by decide) : SE X ct W (.Name x pos) (eK i) := se_const (pe_glob hg hm (v := .ref a) rfl hd) r
end

/-! ### operations on values -/
abbrev Op1 := Vl → Hs → Option (Vl × Hs)
abbrev Op2 := Vl → Vl → Hs → Option (Vl × Hs)
def ro (o : Option (Vl × Hs)) : Res Vl := match o with
  | some (x, h) => .ok x h
  | none => .bad
@[simp] theorem ro_some (x : Vl) (h : Hs) : ro (some (x, h)) = .ok x h := rfl
@[simp] theorem ro_none : ro none = .bad := rfl
def Pp (K : PySem.W.Frag) (ct : CT) (m : List Addr) (ah : Hs) (H : Hp) (o : Option (Vl × Hs)) (Q : VK) : Prop := match o with
  | some (x, h) => ∀ m' H' v, HR K ct m' h H' → Ext m ah H m' h H' → VlR K ct m' h H' x v → Q v H'
  | none => False
theorem Pp.of {K : PySem.W.Frag} {ct : CT} {W : WX} {σV : L2.St} {m : List Addr} {ah : Hs} {H : Hp} {o : Option (Vl × Hs)} {Q : VK} (p : Po K ct W σV (VlR K ct) m ah H (ro o) Q) : Pp K ct m ah H o Q := by
  cases o with
  | none => exact p
  | some x => exact p
/-- the state stays -/
theorem Pp.same {K : PySem.W.Frag} {ct : CT} {m : List Addr} {ah : Hs} {H : Hp} {x : Vl} {v : V} {Q : VK} (p : Pp K ct m ah H (some (x, ah)) Q) (h : HR K ct m ah H) (r : VlR K ct m ah H x v) : Q v H := p m H v h (Ext.refl _ _ _) r
/-- a new object that is never changed -/
theorem Pp.new {K : PySem.W.Frag} {ct : CT} {m : List Addr} {ah : Hs} {H : Hp} {x : D} {o : HO} {Q : VK} (p : Pp K ct m ah H (some (.d x, ah)) Q) (h : HR K ct m ah H)
    (r : ∀ a, H a = none → Kp (Sf m ah) H (Sf m ah) (upd H a o) → Sf m ah a → DR K ct (Sf m ah) (upd H a o) x (.ref a)) : ∀ a, H a = none → Q (.ref a) (upd H a o) := fun a ha =>
  p m _ _ (h.pure (o := o) ha).1 (h.pure (o := o) ha).2.1 (r a ha (h.pure (o := o) ha).2.1.kp (h.freshS ha))
def rOp (K : PySem.W.Frag) (ct : CT) (op : Op2) : R2 := fun x y H Q => ∃ m ah a b, HR K ct m ah H ∧ VlR K ct m ah H a x ∧ VlR K ct m ah H b y ∧ Pp K ct m ah H (op a b ah) Q
def rUn (K : PySem.W.Frag) (ct : CT) (op : Op1) : V → Hp → VK → Prop := fun x H Q => ∃ m ah a, HR K ct m ah H ∧ VlR K ct m ah H a x ∧ Pp K ct m ah H (op a ah) Q
def eBin (op : Op2) (f g : SemE) : SemE := fun σ h => rb (f σ h) fun x h1 => rb (g σ h1) fun y h2 => ro (op x y h2)
def eUn (op : Op1) (f : SemE) : SemE := fun σ h => rb (f σ h) fun x h1 => ro (op x h1)
section
variable {X : Cx} {ct : CT} {W : WX} {pos : Pos} {a b c : Expr} {f g k : SemE}
theorem rd_bin {op : Op2} {σV : L2.St} {H : Hp} {Q : VK} (h : rdE X.K ct W (eBin op f g) σV H Q) : tOp (rOp X.K ct op) (rdE X.K ct W f) (rdE X.K ct W g) σV H Q := by
  obtain ⟨m, ah, σ, hr, lr, p⟩ := h
  refine ⟨m, ah, σ, hr, lr, (Po.bind (R := VlR X.K ct) p).imp fun v H1 ⟨m1, h1, x, hr1, e1, r1, p1⟩ => ?_⟩
  refine ⟨m1, h1, σ, hr1, lr.ext e1, (Po.bind (R := VlR X.K ct) p1).imp fun u H2 ⟨m2, h2, y, hr2, e2, r2, p2⟩ => ?_⟩
  exact ⟨m2, h2, x, y, hr2, r1.ext e2, r2, Pp.of p2⟩
theorem rd_un {op : Op1} {σV : L2.St} {H : Hp} {Q : VK} (h : rdE X.K ct W (eUn op f) σV H Q) : tUn (rUn X.K ct op) (rdE X.K ct W f) σV H Q := by
  obtain ⟨m, ah, σ, hr, lr, p⟩ := h
  refine ⟨m, ah, σ, hr, lr, (Po.bind (R := VlR X.K ct) p).imp fun v H1 ⟨m1, h1, x, hr1, e1, r1, p1⟩ => ?_⟩
  exact ⟨m1, h1, x, hr1, r1, Pp.of p1⟩
theorem se_bin {op : Operator} {o : Op2} (ho : OpR X (binaryOp op) (rOp X.K ct o)) (ha : SE X ct W a f) (hb : SE X ct W b g) : SE X ct W (.BinOp a op b pos) (eBin o f g) := PE.imp (pe_op ho ha hb) fun _ _ _ h => rd_bin h
theorem se_un {op : UnaryOp} {o : Op1} (ho : UnR X (unaryOp op) (rUn X.K ct o)) (ha : SE X ct W a f) : SE X ct W (.UnaryOp op a pos) (eUn o f) := PE.imp (pe_un ho ha) fun _ _ _ h => rd_un h
theorem se_cmp {op : CmpOp} {o : Op2} (ho : OpR X (compareOp op) (rOp X.K ct o)) (ha : SE X ct W a f) (hb : SE X ct W b g) (hm : behindInMarks op b = false := by first | exact nomark _ | rfl | with_unfolding_all rfl) : SE X ct W (.Compare a [op] [b] pos) (eBin o f g) :=
  PE.imp (pe_cmpR ho ha hb hm) fun _ _ _ h => rd_bin h
theorem se_ix {o : Op2} (ho : IxR X (rOp X.K ct o)) (ha : SE X ct W a f) (hb : SE X ct W b g) (hs : PlainIx b := by exact fun _ _ => rfl) : SE X ct W (.Subscript a b pos) (eBin o f g) := PE.imp (pe_ix ho ha hb hs) fun _ _ _ h => rd_bin h
end
theorem OpR.imp {X : Cx} {f : Value → Value → Sem Value} {r r' : R2} (h : OpR X f r) (i : ∀ x y H Q, r' x y H Q → r x y H Q) : OpR X f r' := fun pins s σ H x y v u Q I rx ry q => h pins s σ H x y v u Q I rx ry (i _ _ _ _ q)
theorem UnR.imp {X : Cx} {f : Value → Sem Value} {r r' : V → Hp → VK → Prop} (h : UnR X f r) (i : ∀ x H Q, r' x H Q → r x H Q) : UnR X f r' := fun pins s σ H x v Q I rx q => h pins s σ H x v Q I rx (i _ _ _ q)
theorem IxR.imp {X : Cx} {r r' : R2} (h : IxR X r) (i : ∀ x y H Q, r' x y H Q → r x y H Q) : IxR X r' := fun a b pins s σ H x y v u Q I rx ry q => h a b pins s σ H x y v u Q I rx ry (i _ _ _ _ q)
theorem MtR.imp {X : Cx} {id : String} {r r' : V → List V → Hp → VK → Prop} (h : MtR X id r) (i : ∀ x xs H Q, r' x xs H Q → r x xs H Q) : MtR X id r' := fun pins s σ H x xs v us Q I rx rs q => h pins s σ H x xs v us Q I rx rs (i _ _ _ _ q)
theorem SlR.imp {X : Cx} {r r' : V → Option Int → Option Int → Hp → VK → Prop} (h : SlR X r) (i : ∀ x lo hi H Q, r' x lo hi H Q → r x lo hi H Q) : SlR X r' := fun pins s σ H x v vl vu lo hi sl Q I rx hs p1 p2 q => h pins s σ H x v vl vu lo hi sl Q I rx hs p1 p2 (i _ _ _ _ _ q)
theorem CallR.imp {X : Cx} {f : Value} {r r' : List V → Hp → VK → Prop} (h : CallR X f r) (i : ∀ x H Q, r' x H Q → r x H Q) : CallR X f r' := fun pins s σ H x v Q I rx q => h pins s σ H x v Q I rx (i _ _ _ q)

/-- the pure list or tuple behind a value -/
def seqOf (v : Vl) (h : Hs) : Option (List D) := match v with
  | .d (.tup xs) => some xs
  | .d (.lv xs) => some xs
  | .r k => (match h[k]? with
    | some (.lst xs) => some xs
    | _ => none)
  | _ => none
def lstOf (v : Vl) (h : Hs) : Option (List D) := match v with
  | .d (.lv xs) => some xs
  | .r k => (match h[k]? with
    | some (.lst xs) => some xs
    | _ => none)
  | _ => none
section
variable {K : PySem.W.Frag} {ct : CT} {m : List Addr} {ah : Hs} {H : Hp}
theorem HR.lstK (h : HR K ct m ah H) {k : Nat} {xs : List D} (e : ah[k]? = some (.lst xs)) {v : V} (r : VlR K ct m ah H (.r k) v) : ∃ a vs, m[k]? = some a ∧ v = .ref a ∧ H a = some (.lst vs) ∧ DRs K ct (Sf m ah) H xs vs := by
  obtain ⟨a, h1, rfl⟩ := r
  obtain ⟨u, h2, h3⟩ := h.ob k a _ h1 e
  cases h3 with
  | lst r => exact ⟨a, _, h1, rfl, h2, r⟩
theorem lst_of (h : HR K ct m ah H) {x : Vl} {xs : List D} {v : V} (e : lstOf x ah = some xs) (r : VlR K ct m ah H x v) : ∃ a vs, v = .ref a ∧ H a = some (.lst vs) ∧ DRs K ct (Sf m ah) H xs vs := by
  unfold lstOf at e
  split at e
  · cases e
    cases r with
    | lv h1 _ h2 => exact ⟨_, _, rfl, h1, h2⟩
  · rename_i k
    split at e
    · rename_i ys hk
      cases e
      obtain ⟨a, vs, _, rfl, h1, h2⟩ := h.lstK hk r
      exact ⟨a, vs, rfl, h1, h2⟩
    · cases e
  · cases e
theorem tup_of {xs : List D} {v : V} {S : Addr → Prop} (r : DR K ct S H (.tup xs) v) : ∃ a vs, v = .ref a ∧ SqT K H a vs ∧ DRs K ct S H xs vs := by
  cases r with
  | tup h1 h2 => exact ⟨_, _, rfl, .inl (.inl h1.1), h2⟩
theorem seq_of (h : HR K ct m ah H) {x : Vl} {xs : List D} {v : V} (e : seqOf x ah = some xs) (r : VlR K ct m ah H x v) : ∃ a vs, v = .ref a ∧ (SqL K H a vs ∨ SqT K H a vs) ∧ DRs K ct (Sf m ah) H xs vs := by
  unfold seqOf at e
  split at e
  · cases e
    obtain ⟨a, vs, rfl, h1, h2⟩ := tup_of r
    exact ⟨a, vs, rfl, .inr h1, h2⟩
  · cases e
    cases r with
    | lv h1 _ h2 => exact ⟨_, _, rfl, .inl (.of h1), h2⟩
  · rename_i k
    split at e
    · rename_i ys hk
      cases e
      obtain ⟨a, vs, _, rfl, h1, h2⟩ := h.lstK hk r
      exact ⟨a, vs, rfl, .inl (.of h1), h2⟩
    · cases e
  · cases e
theorem new_tup {S : Addr → Prop} {xs : List D} {vs : List V} {a : Addr} (r : DRs K ct S H xs vs) (k : Kp S H S (upd H a (.tup vs))) (s : S a) : DR K ct S (upd H a (.tup vs)) (.tup xs) (.ref a) := .tup ⟨upd_same, s⟩ (r.mono k)
theorem new_lv {S : Addr → Prop} {xs : List D} {vs : List V} {a : Addr} (r : DRs K ct S H xs vs) (k : Kp S H S (upd H a (.lst vs))) (s : S a) : DR K ct S (upd H a (.lst vs)) (.lv xs) (.ref a) := .lv upd_same s (r.mono k)
end
end Mi

/-! Mi2: the operations -/
namespace Mi
open PySem PySem.Spec L2

/-! ### data as the library compares it -/
mutual
def D.pd : D → PyData
  | .non => .none | .bl b => .bool b | .int i => .int i | .str x => .str x
  | .tup xs => .tuple (D.pds xs) | .lv xs => .list (D.pds xs)
  | .scr _ => .dict [] | .dk _ => .dict [] | .dt _ => .dict [] | .ins _ _ => .dict [] | .exc _ _ => .dict []
def D.pds : List D → List PyData
  | [] => []
  | x :: xs => D.pd x :: D.pds xs
end
@[simp] theorem pds_eq_map : ∀ xs : List D, D.pds xs = xs.map D.pd
  | [] => by simp [D.pds]
  | x :: xs => by simp [D.pds, pds_eq_map xs]
def viewD (v : Vl) (h : Hs) : Option D := match v with
  | .d x => some x
  | .r k => (match h[k]? with
    | some (.lst xs) => some (.lv xs)
    | _ => none)
def shp (d : D) : Bool := SeqAt.shaped d.pd
section
variable {K : PySem.W.Frag} {ct : CT} {S : Addr → Prop} {m : List Addr} {ah : Hs} {H : Hp}
theorem canLayAll0_mem {d : D} : ∀ {xs : List D}, PyData.canLayAll0 (D.pds xs) = true → d ∈ xs → d.pd.canLay0 = true
  | x :: xs, h, hm => by
    simp only [D.pds, PyData.canLayAll0, Bool.and_eq_true] at h
    rcases List.mem_cons.mp hm with rfl | hm
    · exact h.1
    · exact canLayAll0_mem h.2 hm
mutual
theorem dp_of : ∀ {d : D} {v : V}, DR K ct S H d v → d.pd.canLay0 = true → Dp K H v d.pd
  | _, _, .non, _ => .non
  | _, _, .bl b, _ => .bl b
  | _, _, .int i, _ => .int i
  | _, _, .str x, _ => .str x
  | _, _, .tup h r, c => by
    simp only [D.pd, PyData.canLay0] at c ⊢
    exact .tup (.inl (.inl h.1)) (dps_of r c)
  | _, _, .lv h s r, c => by
    simp only [D.pd, PyData.canLay0] at c ⊢
    exact .lst (.of h) (dps_of r c)
  | _, _, .scr h r, c => by simp [D.pd, PyData.canLay0] at c
  | _, _, .dk h s r, c => by simp [D.pd, PyData.canLay0] at c
  | _, _, .dt h s r, c => by simp [D.pd, PyData.canLay0] at c
  | _, _, .ins h s r, c => by simp [D.pd, PyData.canLay0] at c
  | _, _, .exb _ _, c => by simp [D.pd, PyData.canLay0] at c
  | _, _, .exd _ _ _ _ _, c => by simp [D.pd, PyData.canLay0] at c
  | _, _, .exq _, c => by simp [D.pd, PyData.canLay0] at c
  | _, _, .exr _ _ _ _, c => by simp [D.pd, PyData.canLay0] at c
theorem dps_of : ∀ {d : List D} {v : List V}, DRs K ct S H d v → PyData.canLayAll0 (D.pds d) = true → DpAll K H v (D.pds d)
  | _, _, .nil, _ => by simp only [D.pds]; exact .nil
  | _, _, .cons r t, c => by
    simp only [D.pds, PyData.canLayAll0, Bool.and_eq_true] at c ⊢
    exact .cons (dp_of r c.1) (dps_of t c.2)
end
theorem view_dp (h : HR K ct m ah H) {x : Vl} {d : D} {v : V} (e : viewD x ah = some d) (r : VlR K ct m ah H x v) (c : shp d = true) : Dp K H v d.pd := by
  have c' := SeqAt.canLay_of_shaped c
  unfold viewD at e
  split at e
  · cases e; exact dp_of r c'
  · rename_i k
    split at e
    · rename_i xs hk
      cases e
      obtain ⟨a, vs, _, rfl, h1, h2⟩ := h.lstK hk r
      simp only [D.pd, PyData.canLay0] at c' ⊢
      exact .lst (.of h1) (dps_of h2 c')
    · cases e
end

/-! ### the operations -/
def oAdd : Op2 := fun x y h => match x, y with
  | .d (.int i), .d (.int j) => some (.d (.int (i + j)), h)
  | .d (.str a), .d (.str b) => if a.length + b.length ≤ sizeLine then some (.d (.str (a ++ b)), h) else none
  | .d (.tup a), .d (.tup b) => if a.length + b.length ≤ sizeLine then some (.d (.tup (a ++ b)), h) else none
  | x, y => match lstOf x h, lstOf y h with
    | some a, some b => if a.length + b.length ≤ sizeLine then some (.d (.lv (a ++ b)), h) else none
    | _, _ => none
def oI (g : Int → Int → Int) (c : Int → Int → Bool) : Op2 := fun x y h => match x, y with
  | .d (.int i), .d (.int j) => if c i j then some (.d (.int (g i j)), h) else none
  | _, _ => none
def oSub : Op2 := oI (· - ·) fun _ _ => true
def cMulW (i j : Int) : Bool := decide (i.natAbs.log2 + j.natAbs.log2 < 1000000)
def cDivW (_ j : Int) : Bool := decide (0 < j) && decide (j.natAbs.log2 < 9000)
def cPow (i j : Int) : Bool := decide (0 ≤ j) && (decide (j ≤ 1000000) && decide (i.natAbs < 2 ^ 64))
def oMulI : Op2 := oI (· * ·) cMulW
def oMul : Op2 := fun x y h => match x, y with
  | .d (.int i), .d (.int j) => if cMulW i j then some (.d (.int (i * j)), h) else none
  | x, .d (.int k) => (match lstOf x h with
    | some a => if decide (-(2 ^ 63) ≤ k) && (decide (k < 2 ^ 63) && decide (a.length * k.toNat ≤ sizeLine)) then some (.d (.lv (List.replicate k.toNat a).flatten), h) else none
    | none => none)
  | _, _ => none
def oDiv : Op2 := oI (· / ·) cDivW
def oMod : Op2 := oI (· % ·) fun _ j => decide (0 < j)
def oPow : Op2 := oI (fun i j => i ^ j.toNat) cPow
def oAnd : Op2 := oI (fun i j => Builtin.bitAnd i j) fun _ _ => true
def oNeg : Op1 := fun x h => match x with
  | .d (.int i) => some (.d (.int (-i)), h)
  | _ => none
def oB (g : Int → Int → Bool) : Op2 := fun x y h => match x, y with
  | .d (.int i), .d (.int j) => some (.d (.bl (g i j)), h)
  | _, _ => none
def oLtS : Op2 := fun x y h => match x, y with
  | .d (.int i), .d (.int j) => some (.d (.bl (decide (i < j))), h)
  | .d (.str i), .d (.str j) => some (.d (.bl (decide (i.cps.toList < j.cps.toList))), h)
  | _, _ => none
def oLt : Op2 := oB fun i j => decide (i < j)
def oLe : Op2 := oB fun i j => decide (i ≤ j)
def oGt : Op2 := oB fun i j => decide (j < i)
def oGe : Op2 := oB fun i j => decide (j ≤ i)
def deq (a b : D) : Option Bool := if shp a && shp b then some (PyData.eqv a.pd b.pd) else none
def oEq : Op2 := fun x y h => match viewD x h, viewD y h with
  | some a, some b => (deq a b).map fun c => (.d (.bl c), h)
  | _, _ => none
def oNe : Op2 := fun x y h => match viewD x h, viewD y h with
  | some a, some b => (deq a b).map fun c => (.d (.bl (!c)), h)
  | _, _ => none
def isNon (x : Vl) : Bool := match x with
  | .d .non => true
  | _ => false
def oIsN : Op2 := fun x y h => match y with
  | .d .non => some (.d (.bl (isNon x)), h)
  | _ => none
def oNotN : Op2 := fun x y h => match y with
  | .d .non => some (.d (.bl (!isNon x)), h)
  | _ => none
/-- x in y: a list of data, a text -/
def inO (x y : Vl) (h : Hs) : Option Bool := match x, y with
  | .d (.str a), .d (.str b) => some (!(Builtin.Str.occurrences b a 0 b.length 1).isEmpty)
  | x, y => match viewD x h, lstOf y h with
    | some a, some ds => if shp a && shp (.lv ds) then some (ds.any fun z => PyData.eqv z.pd a.pd) else none
    | _, _ => none
def oIn : Op2 := fun x y h => (inO x y h).map fun c => (.d (.bl c), h)
def oNotIn : Op2 := fun x y h => (inO x y h).map fun c => (.d (.bl (!c)), h)
def oIx : Op2 := fun x y h => match x, y with
  | .d (.str z), .d (.int i) => if z.length ≤ sizeLine then (atI z.cps.toList i).map fun c => (.d (.str ⟨#[c]⟩), h) else none
  | x, .d (.int i) => (match seqOf x h with
    | some xs => (atI xs i).map fun d => (.d d, h)
    | none => none)
  | _, _ => none
def truO (x : Vl) (h : Hs) : Option Bool := match x with
  | .d .non => some false
  | .d (.bl b) => some b
  | .d (.int i) => some (i != 0)
  | .d (.str y) => if y.length ≤ sizeLine then some ((y.length : Int) != 0) else none
  | .d (.dk kvs) => some (!kvs.isEmpty)
  | .r k => (match h[k]? with
    | some (.lst xs) => some (!xs.isEmpty)
    | some (.dk kvs) => some (!kvs.isEmpty)
    | _ => none)
  | x => (match seqOf x h with
    | some xs => some (!xs.isEmpty)
    | none => none)
section
variable {X : Cx} {ct : CT}
theorem isEmpty_drs {K : PySem.W.Frag} {S : Addr → Prop} {H : Hp} {d : List D} {v : List V} (r : DRs K ct S H d v) : d.isEmpty = v.isEmpty := by
  cases r <;> rfl
theorem isEmpty_drk {K : PySem.W.Frag} {S : Addr → Prop} {H : Hp} {d : List (Key × D)} {v : List (Key × V)} (r : DRk K ct S H d v) : d.isEmpty = v.isEmpty := by
  cases r <;> rfl
theorem opI_sound {op : Operator} {g : Int → Int → Int} {C : Int → Int → Prop} {c : Int → Int → Bool} (ho : OpR X (binaryOp op) (rI C fun i j => .int (g i j))) (hc : ∀ i j, c i j = true → C i j) : OpR X (binaryOp op) (rOp X.K ct (oI g c)) :=
  OpR.imp ho fun x y H Q ⟨m, ah, a, b, hr, ra, rb, p⟩ => by
    unfold oI at p
    split at p
    · cases ra; cases rb
      split at p
      · rename_i hcc
        exact ⟨_, _, rfl, rfl, hc _ _ hcc, p.same hr (.int _)⟩
      · exact p.elim
    · exact p.elim
theorem op_ofI0 {f : Value → Value → Sem Value} {g : Int → Int → V} (h : OpR X f (rI0 g)) : OpR X f (rI (fun _ _ => True) g) := OpR.imp h fun x y H Q ⟨i, j, e1, e2, _, q⟩ => ⟨i, j, e1, e2, q⟩
theorem sub_sound : OpR X (binaryOp .Sub) (rOp X.K ct oSub) := opI_sound (op_ofI0 op_sub) fun _ _ _ => trivial
theorem mulI_sound : OpR X (binaryOp .Mult) (rOp X.K ct oMulI) := opI_sound op_mulW fun i j h => by unfold cMulW at h; unfold CMulW; exact of_decide_eq_true h
theorem div_sound : OpR X (binaryOp .FloorDiv) (rOp X.K ct oDiv) := opI_sound op_fdivW fun i j h => by unfold cDivW at h; exact ⟨of_decide_eq_true (Bool.and_eq_true_iff.mp h).1, of_decide_eq_true (Bool.and_eq_true_iff.mp h).2⟩
theorem mod_sound : OpR X (binaryOp .Mod) (rOp X.K ct oMod) := opI_sound op_mod fun i j h => by simpa using h
theorem pow_sound : OpR X (binaryOp .Pow) (rOp X.K ct oPow) := opI_sound op_pow fun i j h => by unfold cPow at h; simp only [Bool.and_eq_true, decide_eq_true_eq] at h; exact h
theorem and_sound : OpR X (binaryOp .BitAnd) (rOp X.K ct oAnd) := opI_sound (op_ofI0 op_and) fun _ _ _ => trivial
theorem mul_sound : OpR X (binaryOp .Mult) (rOp X.K ct oMul) := by
  refine OpR.imp (op_mulW.or op_rep) fun x y H Q ⟨m, ah, a, b, hr, ra, rb, p⟩ => ?_
  unfold oMul at p
  split at p
  · cases ra; cases rb
    split at p
    · rename_i hcc
      exact .inl ⟨_, _, rfl, rfl, by unfold cMulW at hcc; unfold CMulW; exact of_decide_eq_true hcc, p.same hr (.int _)⟩
    · exact p.elim
  · cases rb
    split at p
    · rename_i xs e
      obtain ⟨l, vs, rfl, h1, h2⟩ := lst_of hr e ra
      split at p
      · rename_i hc
        simp only [Bool.and_eq_true, decide_eq_true_eq] at hc
        refine .inr ⟨l, _, vs, rfl, rfl, h1, hc.1, hc.2.1, by rw [← h2.length]; exact hc.2.2, p.new hr fun a ha k s => new_lv ?_ k s⟩
        generalize Int.toNat _ = n
        induction n with
        | zero => exact .nil
        | succ n ih =>
          rw [List.replicate_succ, List.replicate_succ, List.flatten_cons, List.flatten_cons]
          exact h2.append ih
      · exact p.elim
    · exact p.elim
  · exact p.elim
theorem neg_sound : UnR X (unaryOp .USub) (rUn X.K ct oNeg) := UnR.imp un_neg fun x H Q ⟨m, ah, a, hr, ra, p⟩ => by
  unfold oNeg at p
  split at p
  · cases ra; exact ⟨_, rfl, p.same hr (.int _)⟩
  · exact p.elim
theorem opB_sound {op : CmpOp} {g : Int → Int → Bool} (ho : OpR X (compareOp op) (rI0 fun i j => .bl (g i j))) : OpR X (compareOp op) (rOp X.K ct (oB g)) :=
  OpR.imp ho fun x y H Q ⟨m, ah, a, b, hr, ra, rb, p⟩ => by
    unfold oB at p
    split at p
    · cases ra; cases rb
      exact ⟨_, _, rfl, rfl, p.same hr (.bl _)⟩
    · exact p.elim
theorem lt_sound : OpR X (compareOp .Lt) (rOp X.K ct oLt) := opB_sound op_lt
theorem le_sound : OpR X (compareOp .LtE) (rOp X.K ct oLe) := opB_sound op_le
theorem gt_sound : OpR X (compareOp .Gt) (rOp X.K ct oGt) := opB_sound op_gt
theorem ge_sound : OpR X (compareOp .GtE) (rOp X.K ct oGe) := opB_sound op_ge
theorem add_sound : OpR X (binaryOp .Add) (rOp X.K ct oAdd) := by
  refine OpR.imp (op_add.or (op_add_str.or (op_catA.or op_cat))) fun x y H Q ⟨m, ah, a, b, hr, ra, rb, p⟩ => ?_
  unfold oAdd at p
  split at p
  · cases ra; cases rb
    exact .inl ⟨_, _, rfl, rfl, p.same hr (.int _)⟩
  · cases ra; cases rb
    split at p
    · rename_i hc
      exact .inr (.inl ⟨_, _, rfl, rfl, hc, p.same hr (.str _)⟩)
    · exact p.elim
  · obtain ⟨l1, v1, rfl, h1, r1⟩ := tup_of ra
    obtain ⟨l2, v2, rfl, h2, r2⟩ := tup_of rb
    split at p
    · rename_i hc
      refine .inr (.inr (.inl ⟨l1, l2, v1, v2, rfl, rfl, h1, h2, by rw [← r1.length, ← r2.length]; exact hc, fun e => ?_, fun e1 e2 => ?_, fun _ _ => p.new hr fun a ha k s => new_tup (r1.append r2) k s⟩))
      · subst e
        cases r1
        exact p.same hr (by simpa using rb)
      · subst e2
        cases r2
        exact p.same hr (by simpa using ra)
    · exact p.elim
  · split at p
    · rename_i _ _ xs ys e1 e2
      obtain ⟨l1, v1, rfl, h1, r1⟩ := lst_of hr e1 ra
      obtain ⟨l2, v2, rfl, h2, r2⟩ := lst_of hr e2 rb
      split at p
      · rename_i hc
        exact .inr (.inr (.inr ⟨l1, l2, v1, v2, rfl, rfl, h1, h2, by rw [← r1.length, ← r2.length]; exact hc, p.new hr fun a ha k s => new_lv (r1.append r2) k s⟩))
      · exact p.elim
    · exact p.elim
theorem eq_sound (hu : X.A.units + 64 < cLine) : OpR X (compareOp .Eq) (rOp X.K ct oEq) := by
  refine OpR.imp (op_eqD hu) fun x y H Q ⟨m, ah, a, b, hr, ra, rb, p⟩ => ?_
  unfold oEq at p
  split at p
  · rename_i d e h1 h2
    unfold deq at p
    by_cases hc : (shp d && shp e) = true
    · rw [if_pos hc] at p
      have hc' := Bool.and_eq_true_iff.mp hc
      exact ⟨d.pd, e.pd, view_dp hr h1 ra hc'.1, view_dp hr h2 rb hc'.2, hc'.1, hc'.2, p.same hr (.bl _)⟩
    · rw [if_neg hc] at p; exact p.elim
  · exact p.elim
theorem ne_sound (hu : X.A.units + 64 < cLine) : OpR X (compareOp .NotEq) (rOp X.K ct oNe) := by
  refine OpR.imp (op_neD hu) fun x y H Q ⟨m, ah, a, b, hr, ra, rb, p⟩ => ?_
  unfold oNe at p
  split at p
  · rename_i d e h1 h2
    unfold deq at p
    by_cases hc : (shp d && shp e) = true
    · rw [if_pos hc] at p
      have hc' := Bool.and_eq_true_iff.mp hc
      exact ⟨d.pd, e.pd, view_dp hr h1 ra hc'.1, view_dp hr h2 rb hc'.2, hc'.1, hc'.2, p.same hr (.bl _)⟩
    · rw [if_neg hc] at p; exact p.elim
  · exact p.elim
theorem isNon_V {K : PySem.W.Frag} {m : List Addr} {ah : Hs} {H : Hp} {x : Vl} {v : V} (r : VlR K ct m ah H x v) : isNon x = decide (v = .non) := by
  cases x with
  | r k => obtain ⟨a, _, rfl⟩ := r; simp [isNon]
  | d x => cases r <;> simp [isNon]
theorem isN_sound : OpR X (compareOp .Is) (rOp X.K ct oIsN) := by
  refine OpR.imp op_isN fun x y H Q ⟨m, ah, a, b, hr, ra, rb, p⟩ => ?_
  unfold oIsN at p
  split at p
  · cases rb
    refine ⟨rfl, ?_⟩
    rw [isNon_V ra] at p
    exact p.same hr (.bl _)
  · exact p.elim
theorem notN_sound : OpR X (compareOp .IsNot) (rOp X.K ct oNotN) := by
  refine OpR.imp op_notN fun x y H Q ⟨m, ah, a, b, hr, ra, rb, p⟩ => ?_
  unfold oNotN at p
  split at p
  · cases rb
    refine ⟨rfl, ?_⟩
    rw [isNon_V ra] at p
    exact p.same hr (.bl _)
  · exact p.elim
theorem any_pds (a : PyData) : ∀ ds : List D, (D.pds ds).any (fun z => PyData.eqv z a) = ds.any fun z => PyData.eqv z.pd a
  | [] => by simp [D.pds]
  | d :: ds => by rw [D.pds, List.any_cons, List.any_cons, any_pds a ds]
theorem in_sound (hu : X.A.units + 65 < cLine) : OpR X (compareOp .In) (rOp X.K ct oIn) := by
  refine OpR.imp (op_in_str.or (op_inD hu)) fun x y H Q ⟨m, ah, a, b, hr, ra, rb, p⟩ => ?_
  unfold oIn inO at p
  split at p
  · cases ra; cases rb
    exact .inl ⟨_, _, rfl, rfl, p.same hr (.bl _)⟩
  · split at p
    · rename_i d ds h1 h2
      by_cases hc : (shp d && shp (.lv ds)) = true
      · rw [if_pos hc] at p
        have hc' := Bool.and_eq_true_iff.mp hc
        obtain ⟨l, vs, rfl, h3, r3⟩ := lst_of hr h2 rb
        have c2 := hc'.2
        unfold shp at c2
        simp only [D.pd] at c2
        have c3 := SeqAt.canLay_of_shaped c2
        simp only [PyData.canLay0] at c3
        refine .inr ⟨d.pd, D.pds ds, view_dp hr h1 ra hc'.1, .lst (.of h3) (dps_of r3 c3), hc'.1, c2, ?_⟩
        rw [any_pds]
        exact p.same hr (.bl _)
      · rw [if_neg hc] at p; exact p.elim
    · exact p.elim
theorem notIn_sound (hu : X.A.units + 65 < cLine) : OpR X (compareOp .NotIn) (rOp X.K ct oNotIn) := by
  refine OpR.imp (op_notIn_str.or (op_notInD hu)) fun x y H Q ⟨m, ah, a, b, hr, ra, rb, p⟩ => ?_
  unfold oNotIn inO at p
  split at p
  · cases ra; cases rb
    exact .inl ⟨_, _, rfl, rfl, p.same hr (.bl _)⟩
  · split at p
    · rename_i d ds h1 h2
      by_cases hc : (shp d && shp (.lv ds)) = true
      · rw [if_pos hc] at p
        have hc' := Bool.and_eq_true_iff.mp hc
        obtain ⟨l, vs, rfl, h3, r3⟩ := lst_of hr h2 rb
        have c2 := hc'.2
        unfold shp at c2
        simp only [D.pd] at c2
        have c3 := SeqAt.canLay_of_shaped c2
        simp only [PyData.canLay0] at c3
        refine .inr ⟨d.pd, D.pds ds, view_dp hr h1 ra hc'.1, .lst (.of h3) (dps_of r3 c3), hc'.1, c2, ?_⟩
        rw [any_pds]
        exact p.same hr (.bl _)
      · rw [if_neg hc] at p; exact p.elim
    · exact p.elim
theorem atI_drs {K : PySem.W.Frag} {S : Addr → Prop} {H : Hp} {d : List D} {v : List V} {i : Int} {x : D} (r : DRs K ct S H d v) (e : atI d i = some x) : ∃ y, atI v i = some y ∧ DR K ct S H x y := by
  unfold atI at e ⊢
  rw [← r.length]
  cases q : ixN d.length i with
  | none => rw [q] at e; cases e
  | some j =>
    rw [q] at e
    exact r.get e
theorem ix_sound : IxR X (rOp X.K ct oIx) := by
  refine IxR.imp ix_seq fun x y H Q ⟨m, ah, a, b, hr, ra, rb, p⟩ => ?_
  unfold oIx at p
  split at p
  · cases ra; cases rb
    split at p
    · rename_i hz
      generalize e : atI _ _ = q at p
      cases q with
      | none => exact p.elim
      | some c => exact .inr (.inr ⟨_, _, c, rfl, rfl, hz, e, p.same hr (.str _)⟩)
    · exact p.elim
  · cases rb
    split at p
    · rename_i xs e
      obtain ⟨l, vs, rfl, h1, r1⟩ := seq_of hr e ra
      generalize q : atI _ _ = z at p
      cases z with
      | none => exact p.elim
      | some d =>
        obtain ⟨y, h2, r2⟩ := atI_drs r1 q
        rcases h1 with h1 | h1
        · exact .inl ⟨l, vs, _, y, rfl, rfl, h1, h2, p.same hr r2⟩
        · exact .inr (.inl ⟨l, vs, _, y, rfl, rfl, h1, h2, p.same hr r2⟩)
    · exact p.elim
  · exact p.elim
/-- the truth of a value -/
theorem tru_of {K : PySem.W.Frag} {m : List Addr} {ah : Hs} {H : Hp} (hr : HR K ct m ah H) {x : Vl} {v : V} {b : Bool} (r : VlR K ct m ah H x v) (e : truO x ah = some b) : TruV K v H b := by
  unfold truO at e
  split at e
  · cases r; cases e; rfl
  · cases r; cases e; rfl
  · cases r; cases e; rfl
  · cases r
    split at e
    · rename_i hl
      cases e; exact ⟨hl, rfl⟩
    · cases e
  · cases e
    cases r with
    | dk h s t => exact .inr (.inr ⟨_, h, by rw [isEmpty_drk t]⟩)
  · rename_i k
    split at e
    · rename_i xs hk
      cases e
      obtain ⟨a, vs, _, rfl, h1, h2⟩ := hr.lstK hk r
      exact .inl ⟨vs, .of h1, by rw [isEmpty_drs h2]⟩
    · rename_i kvs hk
      cases e
      obtain ⟨a, h1, rfl⟩ := r
      obtain ⟨u, h2, h3⟩ := hr.ob k a _ h1 hk
      cases h3 with
      | dk t => exact .inr (.inr ⟨_, h2, by rw [isEmpty_drk t]⟩)
    · cases e
  · split at e
    · rename_i xs hx
      cases e
      obtain ⟨l, vs, rfl, h1, r1⟩ := seq_of hr hx r
      rw [isEmpty_drs r1]
      rcases h1 with h1 | h1
      · exact .inl ⟨vs, h1, rfl⟩
      · exact .inr (.inl ⟨vs, h1, rfl⟩)
    · cases e
end
end Mi

/-! Mi3: tests, argument lists, displays, slices, calls of built-in functions -/
namespace Mi
open PySem PySem.Spec L2

/-! ### tests -/
def tTru (f : SemE) : SemT := fun σ h => rb (f σ h) fun x h1 => match truO x h1 with
  | some b => .ok b h1
  | none => .bad
def tBl (f : SemE) : SemT := fun σ h => rb (f σ h) fun x h1 => match x with
  | .d (.bl b) => .ok b h1
  | _ => .bad
def tAn (f g : SemT) : SemT := fun σ h => rb (f σ h) fun b h1 => if b = true then g σ h1 else .ok false h1
def tOr' (f g : SemT) : SemT := fun σ h => rb (f σ h) fun b h1 => if b = true then .ok true h1 else g σ h1
def tNo (f : SemT) : SemT := fun σ h => rb (f σ h) fun b h1 => .ok (!b) h1
def eChain (o o' : Op2) (f g k : SemE) : SemE := fun σ h => rb (f σ h) fun x h1 => rb (g σ h1) fun y h2 => rb (ro (o x y h2)) fun z h3 => match z with
  | .d (.bl b) => if b = true then rb (k σ h3) fun w h4 => ro (o' y w h4) else .ok (.d (.bl false)) h3
  | _ => .bad
def eIf (t : SemT) (f g : SemE) : SemE := fun σ h => rb (t σ h) fun b h1 => if b = true then f σ h1 else g σ h1
def eAn (f g : SemE) : SemE := fun σ h => rb (f σ h) fun x h1 => match truO x h1 with
  | some b => if b = true then g σ h1 else .ok x h1
  | none => .bad
def eOr (f g : SemE) : SemE := fun σ h => rb (f σ h) fun x h1 => match truO x h1 with
  | some b => if b = true then .ok x h1 else g σ h1
  | none => .bad
def eNo (f : SemE) : SemE := fun σ h => rb (f σ h) fun x h1 => match truO x h1 with
  | some b => .ok (.d (.bl (!b))) h1
  | none => .bad
abbrev SW (X : Cx) (ct : CT) (W : WX) (e : Expr) (f : SemT) : Prop := PW X e (rdT X.K ct W f)
/-- the bool behind a value -/
theorem bl_of {K : PySem.W.Frag} {ct : CT} {m : List Addr} {ah : Hs} {H : Hp} {b : Bool} {v : V} (r : VlR K ct m ah H (.d (.bl b)) v) : v = .bl b := by
  cases r; rfl
section
variable {X : Cx} {ct : CT} {W : WX} {pos : Pos} {a b c : Expr} {f g k : SemE} {t u : SemT} {rest : List Expr}
theorem st_truth (ha : SE X ct W a f) (he : ∀ whole, isTrue a X.env whole = (do let v ← whole; standAt a.pos; holding [v] (truthy v)) := by intro _; rfl) : ST X ct W a (tTru f) :=
  PT.imp (pt_truth ha he) fun σV H Q ⟨m, ah, σ, hr, lr, p⟩ => ⟨m, ah, σ, hr, lr, (Po.bind (R := VlR X.K ct) p).imp fun v H1 ⟨m1, h1, x, hr1, e1, r1, p1⟩ => by
    dsimp only at p1
    cases e : truO x h1 with
    | none => rw [e] at p1; exact p1.elim
    | some k => rw [e] at p1; exact ⟨k, tru_of hr1 r1 e, p1 m1 H1 k hr1 (Ext.refl _ _ _) rfl⟩⟩
theorem tB_of {f : SemE} {σV : L2.St} {H : Hp} {Q : Bool → Hp → Prop} (h : rdT X.K ct W (tBl f) σV H Q) : rdE X.K ct W f σV H fun x H' => ∃ k, x = .bl k ∧ Q k H' := by
  obtain ⟨m, ah, σ, hr, lr, p⟩ := h
  refine ⟨m, ah, σ, hr, lr, (Po.bind (R := VlR X.K ct) p).imp fun v H1 ⟨m1, h1, x, hr1, e1, r1, p1⟩ => ?_⟩
  dsimp only at p1
  split at p1
  · rename_i b
    exact ⟨b, bl_of r1, p1 m1 H1 b hr1 (Ext.refl _ _ _) rfl⟩
  · exact p1.elim
theorem st_val (ha : SE X ct W a f) (he : ∀ whole, isTrue a X.env whole = (do let v ← whole; standAt a.pos; holding [v] (truthy v)) := by intro _; rfl) : ST X ct W a (tBl f) :=
  PT.imp (pt_val ha he) fun σV H Q h => tB_of h
theorem st_cmp {op : CmpOp} {o : Op2} (ho : OpR X (compareOp op) (rOp X.K ct o)) (ha : SE X ct W a f) (hb : SE X ct W b g) (hm : behindInMarks op b = false := by first | exact nomark _ | rfl | with_unfolding_all rfl) : ST X ct W (.Compare a [op] [b] pos) (tBl (eBin o f g)) :=
  PT.imp (pt_cmpR ho ha hb hm) fun σV H Q h => rd_bin (tB_of h)
theorem rd_chain {o o' : Op2} {σV : L2.St} {H : Hp} {Q : VK} (h : rdE X.K ct W (eChain o o' f g k) σV H Q) : tChain (rOp X.K ct o) (rOp X.K ct o') (rdE X.K ct W f) (rdE X.K ct W g) (rdE X.K ct W k) σV H Q := by
  obtain ⟨m, ah, σ, hr, lr, p⟩ := h
  refine ⟨m, ah, σ, hr, lr, (Po.bind (R := VlR X.K ct) p).imp fun v H1 ⟨m1, h1, x, hr1, e1, r1, p1⟩ => ?_⟩
  refine ⟨m1, h1, σ, hr1, lr.ext e1, (Po.bind (R := VlR X.K ct) p1).imp fun y H2 ⟨m2, h2, y', hr2, e2, r2, p2⟩ => ?_⟩
  refine ⟨m2, h2, x, y', hr2, r1.ext e2, r2, Pp.of (W := W) (σV := σV) ((Po.bind (R := VlR X.K ct) p2).imp fun z H3 ⟨m3, h3, z', hr3, e3, r3, p3⟩ => ?_)⟩
  dsimp only at p3
  split at p3
  · rename_i b
    refine ⟨b, bl_of r3, ?_⟩
    cases b with
    | false => exact p3 m3 H3 (.bl false) hr3 (Ext.refl _ _ _) (.bl false)
    | true =>
      refine ⟨m3, h3, σ, hr3, ((lr.ext e1).ext e2).ext e3, (Po.bind (R := VlR X.K ct) p3).imp fun w H4 ⟨m4, h4, w', hr4, e4, r4, p4⟩ => ?_⟩
      exact ⟨m4, h4, y', w', hr4, (r2.ext e3).ext e4, r4, Pp.of p4⟩
  · exact p3.elim
theorem se_chain {op op' : CmpOp} {o o' : Op2} (ho : OpR X (compareOp op) (rOp X.K ct o)) (ho' : OpR X (compareOp op') (rOp X.K ct o')) (ha : SE X ct W a f) (hb : SE X ct W b g) (hc : SE X ct W c k)
    (hm : lastMarks [op, op'] [b, c] = false := by with_unfolding_all rfl) : SE X ct W (.Compare a [op, op'] [b, c] pos) (eChain o o' f g k) := PE.imp (pe_chain ho ho' ha hb hc hm) fun _ _ _ h => rd_chain h
theorem st_chain {op op' : CmpOp} {o o' : Op2} (ho : OpR X (compareOp op) (rOp X.K ct o)) (ho' : OpR X (compareOp op') (rOp X.K ct o')) (ha : SE X ct W a f) (hb : SE X ct W b g) (hc : SE X ct W c k)
    (hm : lastMarks [op, op'] [b, c] = false := by with_unfolding_all rfl) : ST X ct W (.Compare a [op, op'] [b, c] pos) (tBl (eChain o o' f g k)) := PT.imp (pt_chain ho ho' ha hb hc hm) fun _ _ _ h => rd_chain (tB_of h)
theorem sw_and1 (ha : ST X ct W a t) : SW X ct W (.BoolOp .And [a] pos) t := pw_and1 ha
theorem sw_or1 (ha : ST X ct W a t) : SW X ct W (.BoolOp .Or [a] pos) t := pw_or1 ha
theorem sw_and (ha : ST X ct W a t) (hb : SW X ct W (.BoolOp .And (b :: rest) pos) u) : SW X ct W (.BoolOp .And (a :: b :: rest) pos) (tAn t u) :=
  PW.imp (pw_and ha hb) fun σV H Q ⟨m, ah, σ, hr, lr, p⟩ => ⟨m, ah, σ, hr, lr, (Po.bind (R := fun _ _ _ b c => b = c) p).imp fun v H1 ⟨m1, h1, x, hr1, e1, r1, p1⟩ => by
    subst r1
    dsimp only at p1
    cases x with
    | true => exact ⟨m1, h1, σ, hr1, lr.ext e1, p1⟩
    | false => exact p1 m1 H1 false hr1 (Ext.refl _ _ _) rfl⟩
theorem sw_or (ha : ST X ct W a t) (hb : SW X ct W (.BoolOp .Or (b :: rest) pos) u) : SW X ct W (.BoolOp .Or (a :: b :: rest) pos) (tOr' t u) :=
  PW.imp (pw_or ha hb) fun σV H Q ⟨m, ah, σ, hr, lr, p⟩ => ⟨m, ah, σ, hr, lr, (Po.bind (R := fun _ _ _ b c => b = c) p).imp fun v H1 ⟨m1, h1, x, hr1, e1, r1, p1⟩ => by
    subst r1
    dsimp only at p1
    cases x with
    | false => exact ⟨m1, h1, σ, hr1, lr.ext e1, p1⟩
    | true => exact p1 m1 H1 true hr1 (Ext.refl _ _ _) rfl⟩
theorem st_bool (h : SW X ct W a t) : ST X ct W a t := PW.pt h
theorem st_not (ha : ST X ct W a t) : ST X ct W (.UnaryOp .Not a pos) (tNo t) :=
  PT.imp (pt_not ha) fun σV H Q ⟨m, ah, σ, hr, lr, p⟩ => ⟨m, ah, σ, hr, lr, (Po.bind (R := fun _ _ _ b c => b = c) p).imp fun v H1 ⟨m1, h1, x, hr1, e1, r1, p1⟩ => by
    subst r1
    exact p1 m1 H1 _ hr1 (Ext.refl _ _ _) rfl⟩
theorem se_if (hc : ST X ct W c t) (ha : SE X ct W a f) (hb : SE X ct W b g) : SE X ct W (.IfExp c a b pos) (eIf t f g) :=
  PE.imp (pe_ifExp hc ha hb) fun σV H Q ⟨m, ah, σ, hr, lr, p⟩ => ⟨m, ah, σ, hr, lr, (Po.bind (R := fun _ _ _ b c => b = c) p).imp fun v H1 ⟨m1, h1, x, hr1, e1, r1, p1⟩ => by
    subst r1
    dsimp only at p1
    cases x with
    | true => exact ⟨m1, h1, σ, hr1, lr.ext e1, p1⟩
    | false => exact ⟨m1, h1, σ, hr1, lr.ext e1, p1⟩⟩
theorem se_one {op} (ha : SE X ct W a f) : SE X ct W (.BoolOp op [a] pos) f := pe_one ha
theorem se_and (ha : SE X ct W a f) (hb : SE X ct W (.BoolOp .And (b :: rest) pos) g) : SE X ct W (.BoolOp .And (a :: b :: rest) pos) (eAn f g) :=
  PE.imp (pe_andT ha hb) fun σV H Q ⟨m, ah, σ, hr, lr, p⟩ => ⟨m, ah, σ, hr, lr, (Po.bind (R := VlR X.K ct) p).imp fun v H1 ⟨m1, h1, x, hr1, e1, r1, p1⟩ => by
    dsimp only at p1
    cases e : truO x h1 with
    | none => rw [e] at p1; exact p1.elim
    | some k =>
      rw [e] at p1
      refine ⟨k, tru_of hr1 r1 e, ?_⟩
      cases k with
      | true => exact ⟨m1, h1, σ, hr1, lr.ext e1, p1⟩
      | false => exact p1 m1 H1 v hr1 (Ext.refl _ _ _) r1⟩
theorem se_or (ha : SE X ct W a f) (hb : SE X ct W (.BoolOp .Or (b :: rest) pos) g) : SE X ct W (.BoolOp .Or (a :: b :: rest) pos) (eOr f g) :=
  PE.imp (pe_orT ha hb) fun σV H Q ⟨m, ah, σ, hr, lr, p⟩ => ⟨m, ah, σ, hr, lr, (Po.bind (R := VlR X.K ct) p).imp fun v H1 ⟨m1, h1, x, hr1, e1, r1, p1⟩ => by
    dsimp only at p1
    cases e : truO x h1 with
    | none => rw [e] at p1; exact p1.elim
    | some k =>
      rw [e] at p1
      refine ⟨k, tru_of hr1 r1 e, ?_⟩
      cases k with
      | false => exact ⟨m1, h1, σ, hr1, lr.ext e1, p1⟩
      | true => exact p1 m1 H1 v hr1 (Ext.refl _ _ _) r1⟩
theorem se_not (ha : SE X ct W a f) : SE X ct W (.UnaryOp .Not a pos) (eNo f) :=
  PE.imp (pe_notT ha) fun σV H Q ⟨m, ah, σ, hr, lr, p⟩ => ⟨m, ah, σ, hr, lr, (Po.bind (R := VlR X.K ct) p).imp fun v H1 ⟨m1, h1, x, hr1, e1, r1, p1⟩ => by
    dsimp only at p1
    cases e : truO x h1 with
    | none => rw [e] at p1; exact p1.elim
    | some k =>
      rw [e] at p1
      exact ⟨k, tru_of hr1 r1 e, p1 m1 H1 _ hr1 (Ext.refl _ _ _) (.bl _)⟩⟩
end

/-! ### argument lists -/
def aNil : SemA := fun _ h => .ok [] h
def aCons (f : SemE) (g : SemA) : SemA := fun σ h => rb (f σ h) fun x h1 => rb (g σ h1) fun xs h2 => .ok (x :: xs) h2
section
variable {X : Cx} {ct : CT} {W : WX} {pos : Pos} {e : Expr} {es : List Expr} {f : SemE} {fs : SemA}
theorem sa_nil : SA X ct W [] aNil := PA.imp pa_nil fun σV H Q ⟨m, ah, σ, hr, lr, p⟩ => p m H [] hr (Ext.refl _ _ _) .nil
theorem sa_cons (ha : SE X ct W e f) (hb : SA X ct W es fs) (hs : starEach (e :: es) X.env = (false, eval e X.env) :: starEach es X.env := by rfl) : SA X ct W (e :: es) (aCons f fs) :=
  PA.imp (pa_cons ha hb hs) fun σV H Q ⟨m, ah, σ, hr, lr, p⟩ => ⟨m, ah, σ, hr, lr, (Po.bind (R := VlR X.K ct) p).imp fun v H1 ⟨m1, h1, x, hr1, e1, r1, p1⟩ =>
    ⟨m1, h1, σ, hr1, lr.ext e1, (Po.bind (R := VlRs X.K ct) p1).imp fun vs H2 ⟨m2, h2, xs, hr2, e2, r2, p2⟩ => p2 m2 H2 (v :: vs) hr2 (Ext.refl _ _ _) (.cons (r1.ext e2) r2)⟩⟩
end

/-! ### values become data -/
def toD (x : Vl) (h : Hs) : Option (D × Hs) := match x with
  | .d d => some (d, h)
  | .r k => (match h[k]? with
    | some (.lst xs) => some (.lv xs, h.set k .dead)
    | some (.dk xs) => some (.dk xs, h.set k .dead)
    | some (.dt xs) => some (.dt xs, h.set k .dead)
    | some (.ins C fs) => some (.ins C fs, h.set k .dead)
    | _ => none)
def toDs : List Vl → Hs → Option (List D × Hs)
  | [], h => some ([], h)
  | x :: xs, h => (toD x h).bind fun p => (toDs xs p.2).map fun q => (p.1 :: q.1, q.2)
section
variable {K : PySem.W.Frag} {ct : CT} {m : List Addr} {ah : Hs} {H : Hp}
theorem toD_sound (h : HR K ct m ah H) {x : Vl} {d : D} {ah' : Hs} {v : V} (e : toD x ah = some (d, ah')) (r : VlR K ct m ah H x v) : HR K ct m ah' H ∧ Ext m ah H m ah' H ∧ DR K ct (Sf m ah') H d v := by
  unfold toD at e
  split at e
  · cases e
    exact ⟨h, Ext.refl _ _ _, r⟩
  · rename_i k
    obtain ⟨a, h1, rfl⟩ := r
    obtain ⟨hr2, ex, s⟩ := h.freeze h1
    split at e
    · rename_i xs hk
      cases e
      obtain ⟨u, h2, h3⟩ := h.ob k a _ h1 hk
      cases h3 with
      | lst t => exact ⟨hr2, ex, .lv h2 s (t.mono ex.kp)⟩
    · rename_i xs hk
      cases e
      obtain ⟨u, h2, h3⟩ := h.ob k a _ h1 hk
      cases h3 with
      | dk t => exact ⟨hr2, ex, .dk h2 s (t.mono ex.kp)⟩
    · rename_i xs hk
      cases e
      obtain ⟨u, h2, h3⟩ := h.ob k a _ h1 hk
      cases h3 with
      | dt t => exact ⟨hr2, ex, .dt h2 s (t.mono ex.kp)⟩
    · rename_i C fs hk
      cases e
      obtain ⟨u, h2, h3⟩ := h.ob k a _ h1 hk
      cases h3 with
      | ins t => exact ⟨hr2, ex, .ins h2 s (t.mono ex.kp)⟩
    · cases e
theorem toDs_sound : ∀ {xs : List Vl} {ah : Hs} {ds : List D} {ah' : Hs} {vs : List V}, HR K ct m ah H → toDs xs ah = some (ds, ah') → VlRs K ct m ah H xs vs → HR K ct m ah' H ∧ Ext m ah H m ah' H ∧ DRs K ct (Sf m ah') H ds vs
  | [], ah, ds, ah', vs, h, e, r => by
    cases e
    cases r
    exact ⟨h, Ext.refl _ _ _, .nil⟩
  | x :: xs, ah, ds, ah', vs, h, e, r => by
    cases r with
    | cons r1 r2 =>
      unfold toDs at e
      cases e1 : toD x ah with
      | none => rw [e1] at e; cases e
      | some p =>
        obtain ⟨d, h1⟩ := p
        rw [e1] at e
        obtain ⟨hr1, ex1, t1⟩ := toD_sound h e1 r1
        cases e2 : toDs xs h1 with
        | none => rw [show ((some (d, h1)).bind fun p => (toDs xs p.2).map fun q => (p.1 :: q.1, q.2)) = ((toDs xs h1).map fun q => (d :: q.1, q.2)) from rfl, e2] at e; cases e
        | some q =>
          obtain ⟨qs, h2⟩ := q
          rw [show ((some (d, h1)).bind fun p => (toDs xs p.2).map fun q => (p.1 :: q.1, q.2)) = ((toDs xs h1).map fun q => (d :: q.1, q.2)) from rfl, e2] at e
          cases e
          obtain ⟨hr2, ex2, t2⟩ := toDs_sound hr1 e2 (r2.ext ex1)
          exact ⟨hr2, ex1.trans ex2, .cons (t1.mono ex2.kp) t2⟩
end
def eTup (fs : SemA) : SemE := fun σ h => rb (fs σ h) fun xs h1 => match toDs xs h1 with
  | some (ds, h2) => if ds.length ≤ 1000 then .ok (.d (.tup ds)) h2 else .bad
  | none => .bad
/-- a list that is never changed -/
def eLv (fs : SemA) : SemE := fun σ h => rb (fs σ h) fun xs h1 => match toDs xs h1 with
  | some (ds, h2) => if ds.length ≤ 1000 then .ok (.d (.lv ds)) h2 else .bad
  | none => .bad
/-- a list that may be changed -/
def eLst (fs : SemA) : SemE := fun σ h => rb (fs σ h) fun xs h1 => match toDs xs h1 with
  | some (ds, h2) => if ds.length ≤ 1000 then .ok (.r h2.length) (h2 ++ [.lst ds]) else .bad
  | none => .bad
def eDk0 : SemE := fun _ h => .ok (.r h.length) (h ++ [.dk []])
def eDt0 : SemE := fun _ h => .ok (.r h.length) (h ++ [.dt []])
section
variable {X : Cx} {ct : CT} {W : WX} {pos : Pos} {e : Expr} {es : List Expr} {f : SemE} {fs : SemA}
theorem le1000 {n : Nat} (h : n ≤ 1000) : n ≤ sizeLine := Nat.le_of_lt (small1000 h)
theorem se_tup {x1} (ha : SA X ct W es fs) : SE X ct W (.Tuple es x1 pos) (eTup fs) :=
  PE.imp (pe_tup ha) fun σV H Q ⟨m, ah, σ, hr, lr, p⟩ => ⟨m, ah, σ, hr, lr, (Po.bind (R := VlRs X.K ct) p).imp fun vs H1 ⟨m1, h1, xs, hr1, e1, r1, p1⟩ => by
    dsimp only at p1
    split at p1
    · rename_i ds h2 e2
      obtain ⟨hr2, ex2, t2⟩ := toDs_sound hr1 e2 r1
      split at p1
      · rename_i hl
        refine ⟨by rw [← t2.length]; exact le1000 hl, fun a ha => p1 m1 _ _ (hr2.pure (o := .tup vs) ha).1 (ex2.trans (hr2.pure (o := .tup vs) ha).2.1) (new_tup t2 (hr2.pure (o := .tup vs) ha).2.1.kp (hr2.freshS ha))⟩
      · exact p1.elim
    · exact p1.elim⟩
theorem se_lv (ha : SA X ct W es fs) : SE X ct W (.List es pos) (eLv fs) :=
  PE.imp (pe_lst ha) fun σV H Q ⟨m, ah, σ, hr, lr, p⟩ => ⟨m, ah, σ, hr, lr, (Po.bind (R := VlRs X.K ct) p).imp fun vs H1 ⟨m1, h1, xs, hr1, e1, r1, p1⟩ => by
    dsimp only at p1
    split at p1
    · rename_i ds h2 e2
      obtain ⟨hr2, ex2, t2⟩ := toDs_sound hr1 e2 r1
      split at p1
      · rename_i hl
        refine ⟨by rw [← t2.length]; exact le1000 hl, fun a ha => p1 m1 _ _ (hr2.pure (o := .lst vs) ha).1 (ex2.trans (hr2.pure (o := .lst vs) ha).2.1) (new_lv t2 (hr2.pure (o := .lst vs) ha).2.1.kp (hr2.freshS ha))⟩
      · exact p1.elim
    · exact p1.elim⟩
theorem at_new {K : PySem.W.Frag} {m : List Addr} {ah : Hs} {H : Hp} (h : HR K ct m ah H) {a : Addr} : (m ++ [a])[ah.length]? = some a := by
  rw [← h.len, List.getElem?_append_right (Nat.le_refl _), Nat.sub_self]; rfl
theorem se_lst (ha : SA X ct W es fs) : SE X ct W (.List es pos) (eLst fs) :=
  PE.imp (pe_lst ha) fun σV H Q ⟨m, ah, σ, hr, lr, p⟩ => ⟨m, ah, σ, hr, lr, (Po.bind (R := VlRs X.K ct) p).imp fun vs H1 ⟨m1, h1, xs, hr1, e1, r1, p1⟩ => by
    dsimp only at p1
    split at p1
    · rename_i ds h2 e2
      obtain ⟨hr2, ex2, t2⟩ := toDs_sound hr1 e2 r1
      split at p1
      · rename_i hl
        refine ⟨by rw [← t2.length]; exact le1000 hl, fun a ha => ?_⟩
        obtain ⟨hr3, ex3⟩ := hr2.alloc ha (OR.lst t2)
        exact p1 _ _ _ hr3 (ex2.trans ex3) ⟨a, at_new hr2, rfl⟩
      · exact p1.elim
    · exact p1.elim⟩
theorem se_dk0 : SE X ct W (.Dict [] [] pos) eDk0 :=
  PE.imp pe_dnewK fun σV H Q ⟨m, ah, σ, hr, lr, p⟩ a ha => by
    obtain ⟨hr3, ex3⟩ := hr.alloc ha (OR.dk (ct := ct) .nil)
    exact p _ _ _ hr3 ex3 ⟨a, at_new hr, rfl⟩
theorem se_dt0 : SE X ct W (.Dict [] [] pos) eDt0 :=
  PE.imp pe_dnewT fun σV H Q ⟨m, ah, σ, hr, lr, p⟩ a ha => by
    obtain ⟨hr3, ex3⟩ := hr.alloc ha (OR.dt (ct := ct) .nil)
    exact p _ _ _ hr3 ex3 ⟨a, at_new hr, rfl⟩
end

/-! ### slices -/
abbrev SemO := Lo → Hs → Res (Option Int)
def rdO (K : PySem.W.Frag) (ct : CT) (W : WX) (f : SemO) : TO := fun σV H Q => ∃ m ah σ, HR K ct m ah H ∧ LR K ct m ah H σ σV ∧ Po K ct W σV (fun _ _ _ b c => b = c) m ah H (f σ ah) Q
theorem PO.imp {X : Cx} {e : Option Expr} {t t' : TO} (h : PO X e t) (i : ∀ σ H Q, t' σ H Q → t σ H Q) : PO X e t' := ⟨fun pins s σ H Q I q => h.run pins s σ H Q I (i _ _ _ q)⟩
abbrev SO (X : Cx) (ct : CT) (W : WX) (e : Option Expr) (f : SemO) : Prop := PO X e (rdO X.K ct W f)
def oNone : SemO := fun _ h => .ok none h
def oSome (f : SemE) : SemO := fun σ h => rb (f σ h) fun x h1 => match x with
  | .d (.int i) => .ok (some i) h1
  | _ => .bad
def cutL {α : Type} (xs : List α) (lo hi : Option Int) : List α := (xs.drop (HT.sIx xs.length 0 lo)).take (HT.sIx xs.length xs.length hi - HT.sIx xs.length 0 lo)
def slO (x : Vl) (lo hi : Option Int) (h : Hs) : Option (Vl × Hs) := match x with
  | .d (.tup xs) => some (.d (.tup (cutL xs lo hi)), h)
  | .d (.str z) => if z.length ≤ sizeLine then some (.d (.str (Txt.slice z lo hi)), h) else none
  | x => (match lstOf x h with
    | some xs => some (.d (.lv (cutL xs lo hi)), h)
    | none => none)
def eSl (f : SemE) (lo hi : SemO) : SemE := fun σ h => rb (f σ h) fun x h1 => rb (lo σ h1) fun a h2 => rb (hi σ h2) fun b h3 => ro (slO x a b h3)
section
variable {X : Cx} {ct : CT} {W : WX} {pos p2 : Pos} {e : Expr} {lo hi : Option Expr} {f : SemE} {l u : SemO}
theorem so_none : SO X ct W none oNone := PO.imp po_none fun σV H Q ⟨m, ah, σ, hr, lr, p⟩ => p m H none hr (Ext.refl _ _ _) rfl
theorem so_some (h : SE X ct W e f) : SO X ct W (some e) (oSome f) := PO.imp (po_some h) fun σV H Q ⟨m, ah, σ, hr, lr, p⟩ => ⟨m, ah, σ, hr, lr, (Po.bind (R := VlR X.K ct) p).imp fun v H1 ⟨m1, h1, x, hr1, e1, r1, p1⟩ => by
  dsimp only at p1
  split at p1
  · cases r1
    exact ⟨_, rfl, p1 m1 H1 _ hr1 (Ext.refl _ _ _) rfl⟩
  · exact p1.elim⟩
theorem cut_drs {K : PySem.W.Frag} {S : Addr → Prop} {H : Hp} {d : List D} {v : List V} (r : DRs K ct S H d v) (lo hi : Option Int) : DRs K ct S H (cutL d lo hi) (cutV v lo hi) := by
  unfold cutL cutV
  rw [r.length]
  exact (r.drop _).take _
theorem cut_whole {α : Type} {xs : List α} {lo hi : Option Int} (h : HT.sIx xs.length 0 lo = 0 ∧ HT.sIx xs.length xs.length hi = xs.length) : cutL xs lo hi = xs := by
  unfold cutL
  rw [h.1, h.2]; simp
def rSlO (K : PySem.W.Frag) (ct : CT) : V → Option Int → Option Int → Hp → VK → Prop := fun x lo hi H Q => ∃ m ah a, HR K ct m ah H ∧ VlR K ct m ah H a x ∧ Pp K ct m ah H (slO a lo hi ah) Q
theorem sl_sound : SlR X (rSlO X.K ct) := by
  refine SlR.imp (sl_tupA.or (SlR.or C8.sl_txt sl_list)) fun x lo hi H Q ⟨m, ah, a, hr, ra, p⟩ => ?_
  unfold slO at p
  split at p
  · obtain ⟨l, vs, rfl, h1, r1⟩ := tup_of ra
    refine .inl ⟨l, vs, rfl, h1, fun hw => ?_, fun hw => p.new hr fun a ha k s => new_tup (cut_drs r1 _ _) k s⟩
    rw [← r1.length] at hw
    rw [cut_whole hw] at p
    exact p.same hr ra
  · cases ra
    split at p
    · rename_i hz
      exact .inr (.inl ⟨_, rfl, hz, p.same hr (.str _)⟩)
    · exact p.elim
  · split at p
    · rename_i xs e
      obtain ⟨l, vs, rfl, h1, r1⟩ := lst_of hr e ra
      exact .inr (.inr ⟨l, vs, rfl, .of h1, p.new hr fun a ha k s => new_lv (cut_drs r1 _ _) k s⟩)
    · exact p.elim
theorem se_slice (he : SE X ct W e f) (hl : SO X ct W lo l) (hh : SO X ct W hi u) : SE X ct W (.Subscript e (.Slice lo hi none p2) pos) (eSl f l u) :=
  PE.imp (pe_slice sl_sound he hl hh) fun σV H Q ⟨m, ah, σ, hr, lr, p⟩ => ⟨m, ah, σ, hr, lr, (Po.bind (R := VlR X.K ct) p).imp fun v H1 ⟨m1, h1, x, hr1, e1, r1, p1⟩ =>
    ⟨m1, h1, σ, hr1, lr.ext e1, (Po.bind (R := fun _ _ _ b c => b = c) p1).imp fun y H2 ⟨m2, h2, y', hr2, e2, r2, p2⟩ =>
      ⟨m2, h2, σ, hr2, (lr.ext e1).ext e2, (Po.bind (R := fun _ _ _ b c => b = c) p2).imp fun z H3 ⟨m3, h3, z', hr3, e3, r3, p3⟩ => by
        subst r2 r3
        exact ⟨m3, h3, x, hr3, (r1.ext e2).ext e3, Pp.of p3⟩⟩⟩⟩
end

/-! ### calls of what is built in -/
abbrev OpN := List Vl → Hs → Option (Vl × Hs)
def rN (K : PySem.W.Frag) (ct : CT) (op : OpN) : List V → Hp → VK → Prop := fun vs H Q => ∃ m ah xs, HR K ct m ah H ∧ VlRs K ct m ah H xs vs ∧ Pp K ct m ah H (op xs ah) Q
def eN (op : OpN) (fs : SemA) : SemE := fun σ h => rb (fs σ h) fun xs h1 => ro (op xs h1)
section
variable {X : Cx} {ct : CT} {W : WX} {pos p : Pos} {e : Expr} {es : List Expr} {fs : SemA} {op : OpN} {x : Str} {id T : String}
theorem rd_n {σV : L2.St} {H : Hp} {Q : VK} (h : rdE X.K ct W (eN op fs) σV H Q) : tCB (rN X.K ct op) (rdA X.K ct W fs) σV H Q := by
  obtain ⟨m, ah, σ, hr, lr, p⟩ := h
  refine ⟨m, ah, σ, hr, lr, (Po.bind (R := VlRs X.K ct) p).imp fun vs H1 ⟨m1, h1, xs, hr1, e1, r1, p1⟩ => ?_⟩
  exact ⟨m1, h1, xs, hr1, r1, Pp.of p1⟩
theorem se_callB (hc : CallR X (.builtin id) (rN X.K ct op)) (hg : Gl X x) (hm : X.mg x = none) (hv : bootBuiltins x = some (.builtin id)) (ha : SA X ct W (e :: es) fs) (hn : x ≠ "__name__" := by decide) (hdb : (x == ("__debug__" : Str)) = false := by decide)
    (he : starEach (e :: es) X.env = (false, eval e X.env) :: starEach es X.env := by rfl) (hpl : (backTo pos (starEach es X.env)).any (·.1) = false := by rfl) : SE X ct W (.Call (.Name x p) (e :: es) [] pos) (eN op fs) := PE.imp (pe_callB hc hg hm hv ha hn hdb he hpl) fun _ _ _ h => rd_n h
theorem se_callTy (hc : CallR X (.type T) (rN X.K ct op)) (hg : Gl X x) (hm : X.mg x = none) (hv : bootBuiltins x = some (.type T)) (ha : SA X ct W (e :: es) fs) (hn : x ≠ "__name__" := by decide) (hdb : (x == ("__debug__" : Str)) = false := by decide)
    (he : starEach (e :: es) X.env = (false, eval e X.env) :: starEach es X.env := by rfl) (hpl : (backTo pos (starEach es X.env)).any (·.1) = false := by rfl) : SE X ct W (.Call (.Name x p) (e :: es) [] pos) (eN op fs) := PE.imp (pe_callTy hc hg hm hv ha hn hdb he hpl) fun _ _ _ h => rd_n h
def nLen : OpN := fun xs h => match xs with
  | [.d (.str y)] => if y.length ≤ sizeLine then some (.d (.int y.length), h) else none
  | [x] => (match seqOf x h with
    | some ys => some (.d (.int ys.length), h)
    | none => none)
  | _ => none
theorem len_sound : CallR X (.builtin "len") (rN X.K ct nLen) := by
  refine CallR.imp call_len fun vs H Q ⟨m, ah, xs, hr, rs, p⟩ => ?_
  unfold nLen at p
  split at p
  · cases rs with
    | cons r t =>
      cases t
      cases r
      split at p
      · rename_i hl
        exact ⟨_, _, rfl, ⟨hl, rfl⟩, p.same hr (.int _)⟩
      · exact p.elim
  · cases rs with
    | cons r t =>
      cases t
      split at p
      · rename_i ys e
        obtain ⟨l, ws, rfl, h1, r1⟩ := seq_of hr e r
        refine ⟨_, _, rfl, h1.imp (fun z => ⟨ws, z, rfl⟩) (fun z => ⟨ws, z, rfl⟩), ?_⟩
        rw [← r1.length]
        exact p.same hr (.int _)
      · exact p.elim
  · exact p.elim
/-- list(x) that is never changed, that may be changed -/
def nListV : OpN := fun xs h => match xs with
  | [x] => (match seqOf x h with
    | some ys => some (.d (.lv ys), h)
    | none => (match x with
      | .d (.scr ys) => some (.d (.lv ys), h)
      | _ => none))
  | _ => none
def nListM : OpN := fun xs h => match xs with
  | [x] => (match seqOf x h with
    | some ys => some (.r h.length, h ++ [.lst ys])
    | none => none)
  | _ => none
theorem listV_sound : CallR X (.type "list") (rN X.K ct nListV) := by
  refine CallR.imp call_list_of fun vs H Q ⟨m, ah, xs, hr, rs, p⟩ => ?_
  unfold nListV at p
  split at p
  · cases rs with
    | cons r t =>
      cases t
      split at p
      · rename_i ys e
        obtain ⟨l, ws, rfl, h1, r1⟩ := seq_of hr e r
        exact ⟨l, ws, rfl, h1, p.new hr fun a ha k s => new_lv r1 k s⟩
      · split at p
        · cases r with
          | scr h1 r1 => exact ⟨_, _, rfl, .inl (h1.imp (fun ⟨⟨o, h⟩, _⟩ => .inr ⟨o, h⟩) id), p.new hr fun a ha k s => new_lv r1 k s⟩
        · exact p.elim
  · exact p.elim
theorem listM_sound : CallR X (.type "list") (rN X.K ct nListM) := by
  refine CallR.imp call_list_of fun vs H Q ⟨m, ah, xs, hr, rs, p⟩ => ?_
  unfold nListM at p
  split at p
  · cases rs with
    | cons r t =>
      cases t
      split at p
      · rename_i ys e
        obtain ⟨l, ws, rfl, h1, r1⟩ := seq_of hr e r
        refine ⟨l, ws, rfl, h1, fun a ha => ?_⟩
        obtain ⟨hr3, ex3⟩ := hr.alloc ha (OR.lst r1)
        exact p _ _ _ hr3 ex3 ⟨a, at_new hr, rfl⟩
      · exact p.elim
  · exact p.elim
def nTuple : OpN := fun xs h => match xs with
  | [x] => (match seqOf x h with
    | some ys => some (.d (.tup ys), h)
    | none => none)
  | _ => none
theorem tuple_sound : CallR X (.type "tuple") (rN X.K ct nTuple) := by
  refine CallR.imp call_tuple_of fun vs H Q ⟨m, ah, xs, hr, rs, p⟩ => ?_
  unfold nTuple at p
  split at p
  · cases rs with
    | cons r t =>
      cases t
      split at p
      · rename_i ys e
        unfold seqOf at e
        split at e
        · cases e
          obtain ⟨l, ws, rfl, h1, r1⟩ := tup_of r
          exact ⟨l, ws, rfl, .inr ⟨h1, p.same hr r⟩⟩
        · cases e
          cases r with
          | lv h1 s1 r1 => exact ⟨_, _, rfl, .inl ⟨.of h1, p.new hr fun a ha k s => new_tup r1 k s⟩⟩
        · rename_i k
          split at e
          · rename_i zs hk
            cases e
            obtain ⟨a, ws, _, rfl, h1, r1⟩ := hr.lstK hk r
            exact ⟨a, ws, rfl, .inl ⟨.of h1, p.new hr fun a ha k s => new_tup r1 k s⟩⟩
          · cases e
        · cases e
      · exact p.elim
  · exact p.elim
def nInt : OpN := fun xs h => match xs with
  | [.d (.int i)] => some (.d (.int i), h)
  | [.d (.bl k)] => some (.d (.int (if k then 1 else 0)), h)
  | _ => none
theorem int_sound : CallR X (.type "int") (rN X.K ct nInt) := by
  refine CallR.imp call_int1 fun vs H Q ⟨m, ah, xs, hr, rs, p⟩ => ?_
  unfold nInt at p
  split at p
  · cases rs with
    | cons r t => cases t; cases r; exact .inl ⟨_, rfl, p.same hr (.int _)⟩
  · cases rs with
    | cons r t => cases t; cases r; exact .inr ⟨_, rfl, p.same hr (.int _)⟩
  · exact p.elim
def nAbs : OpN := fun xs h => match xs with
  | [.d (.int i)] => some (.d (.int (if i < 0 then -i else i)), h)
  | _ => none
theorem abs_sound : CallR X (.builtin "abs") (rN X.K ct nAbs) := by
  refine CallR.imp call_abs fun vs H Q ⟨m, ah, xs, hr, rs, p⟩ => ?_
  unfold nAbs at p
  split at p
  · cases rs with
    | cons r t => cases t; cases r; exact ⟨_, rfl, p.same hr (.int _)⟩
  · exact p.elim
/-- the built-in type's name -/
def tyO (x : Vl) (h : Hs) : Option String := match x with
  | .d .non => some "NoneType" | .d (.bl _) => some "bool" | .d (.int _) => some "int" | .d (.str _) => some "str"
  | .d (.tup _) => some "tuple" | .d (.lv _) => some "list" | .d (.dk _) => some "dict" | .d (.dt _) => some "dict"
  | .r k => (match h[k]? with
    | some (.lst _) => some "list"
    | some (.dk _) => some "dict"
    | some (.dt _) => some "dict"
    | _ => none)
  | _ => none
theorem tyO_sound {K : PySem.W.Frag} {m : List Addr} {ah : Hs} {H : Hp} (hr : HR K ct m ah H) {x : Vl} {v : V} {t : String} (r : VlR K ct m ah H x v) (e : tyO x ah = some t) : TyX K H v (.type t) := by
  unfold tyO at e
  split at e
  · cases e; cases r; exact .base .non
  · cases e; cases r; exact .base (.bl _)
  · cases e; cases r; exact .base (.int _)
  · cases e; cases r; exact .base (.str _)
  · cases e
    cases r with
    | tup h1 h2 => exact .base (.tup h1.1)
  · cases e; cases r with | lv h1 _ _ => exact .base (.lst h1)
  · cases e; cases r with | dk h1 _ _ => exact .base (.dK h1)
  · cases e; cases r with | dt h1 _ _ => exact .base (.dT h1)
  · rename_i k
    obtain ⟨a, h1, rfl⟩ := r
    split at e
    · rename_i hk
      cases e
      obtain ⟨u, h2, h3⟩ := hr.ob k a _ h1 hk
      cases h3; exact .base (.lst h2)
    · rename_i hk
      cases e
      obtain ⟨u, h2, h3⟩ := hr.ob k a _ h1 hk
      cases h3; exact .base (.dK h2)
    · rename_i hk
      cases e
      obtain ⟨u, h2, h3⟩ := hr.ob k a _ h1 hk
      cases h3; exact .base (.dT h2)
    · cases e
  · cases e
end
end Mi

/-! Mi4: statements, targets, loops -/
namespace Mi
open PySem PySem.Spec L2

inductive Fl where
  | nx | ret (v : Vl) | brk | cnt
inductive RS where
  | ok (f : Fl) (σ : Lo) (h : Hs) | exc (e : Ex) (σ : Lo) (h : Hs) | bad
abbrev SemS := Lo → Hs → RS
def PoF (K : PySem.W.Frag) (ct : CT) (D : Ends) (f : Fl) (m : List Addr) (ah : Hs) (H : Hp) (σV : L2.St) : Prop := match f with
  | .nx => D.nx σV H
  | .brk => D.bk σV H
  | .cnt => D.ct σV H
  | .ret v => ∀ u, VlR K ct m ah H v u → D.rt u H
def PoS (K : PySem.W.Frag) (ct : CT) (W : WX) (D : Ends) (m : List Addr) (ah : Hs) (H : Hp) (r : RS) : Prop := match r with
  | .ok f σ' h => ∀ m' H' σV', HR K ct m' h H' → Ext m ah H m' h H' → LR K ct m' h H' σ' σV' → PoF K ct D f m' h H' σV'
  | .exc e σ' h => ∀ m' H' σV' cls d, HR K ct m' h H' → Ext m ah H m' h H' → LR K ct m' h H' σ' σV' → XR K ct (Sf m' h) H' e cls d → W cls d σV' H'
  | .bad => False
def rdS (K : PySem.W.Frag) (ct : CT) (W : WX) (f : SemS) : TS := fun D σV H => ∃ m ah σ, HR K ct m ah H ∧ LR K ct m ah H σ σV ∧ PoS K ct W D m ah H (f σ ah)
abbrev SS (X : Cx) (ct : CT) (W : WX) (st : Stmt) (f : SemS) : Prop := PS X st (rdS X.K ct W f)
abbrev SSs (X : Cx) (ct : CT) (W : WX) (st : List Stmt) (f : SemS) : Prop := PSs X st (rdS X.K ct W f)
/-- from an expression's result -/
def sb {α : Type} (r : Res α) (σ : Lo) (f : α → Hs → RS) : RS := match r with
  | .ok a h => f a h
  | .exc e h => .exc e σ h
  | .bad => .bad
@[simp] theorem sb_ok {α : Type} (a : α) (h : Hs) (σ : Lo) (f : α → Hs → RS) : sb (.ok a h) σ f = f a h := rfl
@[simp] theorem sb_exc {α : Type} (e : Ex) (h : Hs) (σ : Lo) (f : α → Hs → RS) : sb (.exc e h) σ f = .exc e σ h := rfl
@[simp] theorem sb_bad {α : Type} (σ : Lo) (f : α → Hs → RS) : sb .bad σ f = .bad := rfl
def ss (r : RS) (f : SemS) : RS := match r with
  | .ok .nx σ h => f σ h
  | r => r
@[simp] theorem ss_nx (σ : Lo) (h : Hs) (f : SemS) : ss (.ok .nx σ h) f = f σ h := rfl
@[simp] theorem ss_ret (v : Vl) (σ : Lo) (h : Hs) (f : SemS) : ss (.ok (.ret v) σ h) f = .ok (.ret v) σ h := rfl
@[simp] theorem ss_brk (σ : Lo) (h : Hs) (f : SemS) : ss (.ok .brk σ h) f = .ok .brk σ h := rfl
@[simp] theorem ss_cnt (σ : Lo) (h : Hs) (f : SemS) : ss (.ok .cnt σ h) f = .ok .cnt σ h := rfl
@[simp] theorem ss_exc (e : Ex) (σ : Lo) (h : Hs) (f : SemS) : ss (.exc e σ h) f = .exc e σ h := rfl
@[simp] theorem ss_bad (f : SemS) : ss .bad f = .bad := rfl
section
variable {K : PySem.W.Frag} {ct : CT} {W : WX} {D : Ends} {m m' : List Addr} {ah ah' : Hs} {H H' : Hp} {α β : Type}
theorem PoS.ext {r : RS} (p : PoS K ct W D m ah H r) (e : Ext m ah H m' ah' H') : PoS K ct W D m' ah' H' r := by
  cases r with
  | ok f σ h => exact fun m2 H2 σ2 h2 e2 l2 => p m2 H2 σ2 h2 (e.trans e2) l2
  | exc x σ h => exact fun m2 H2 σ2 c d h2 e2 l2 r2 => p m2 H2 σ2 c d h2 (e.trans e2) l2 r2
  | bad => exact p
/-- what a value is worth for the statement -/
theorem PoS.bind {R : List Addr → Hs → Hp → α → β → Prop} {r : Res α} {g : α → Hs → RS} {σ : Lo} {σV : L2.St} (lr : LR K ct m ah H σ σV) (p : PoS K ct W D m ah H (sb r σ g)) :
    Po K ct W σV R m ah H r (Mid K ct m ah H R fun m1 h1 H1 x => PoS K ct W D m1 h1 H1 (g x h1)) := by
  cases r with
  | ok x h => exact fun m2 H2 v h2 e2 r2 => ⟨m2, h, x, h2, e2, r2, PoS.ext (r := g x h) p e2⟩
  | exc x h => exact fun m2 H2 c d h2 e2 r2 => p m2 H2 σV c d h2 e2 (lr.ext e2) r2
  | bad => exact p
theorem PoS.nx {σ : Lo} {σV : L2.St} (hr : HR K ct m ah H) (lr : LR K ct m ah H σ σV) (p : PoS K ct W D m ah H (.ok .nx σ ah)) : D.nx σV H := p m H σV hr (Ext.refl _ _ _) lr
/-- another end, wherever the first one is met -/
theorem PoS.imp {D' : Ends} {r : RS} (p : PoS K ct W D m ah H r)
    (i : ∀ f σ' h m' H' σV', r = .ok f σ' h → HR K ct m' h H' → Ext m ah H m' h H' → LR K ct m' h H' σ' σV' → PoF K ct D f m' h H' σV' → PoF K ct D' f m' h H' σV') : PoS K ct W D' m ah H r := by
  cases r with
  | ok f σ h => exact fun m2 H2 σ2 h2 e2 l2 => i f σ h m2 H2 σ2 rfl h2 e2 l2 (p m2 H2 σ2 h2 e2 l2)
  | exc x σ h => exact p
  | bad => exact p
end

/-! ### blocks and small statements -/
def sNil : SemS := fun σ h => .ok .nx σ h
def sSq (f g : SemS) : SemS := fun σ h => ss (f σ h) g
def sEx (f : SemE) : SemS := fun σ h => sb (f σ h) σ fun _ h1 => .ok .nx σ h1
def sRt (f : SemE) : SemS := fun σ h => sb (f σ h) σ fun x h1 => .ok (.ret x) σ h1
def sRtN : SemS := fun σ h => .ok (.ret (.d .non)) σ h
def sIf (t : SemT) (f g : SemS) : SemS := fun σ h => sb (t σ h) σ fun b h1 => if b = true then f σ h1 else g σ h1
def sBrk : SemS := fun σ h => .ok .brk σ h
def sCnt : SemS := fun σ h => .ok .cnt σ h
def sBad : SemS := fun _ _ => .bad
/-- a list at a name is never changed from here on -/
def sFrz (i : Nat) : SemS := fun σ h => match σ[i]? with
  | some (some x) => (match toD x h with
    | some (d, h1) => .ok .nx (σ.set i (some (.d d))) h1
    | none => .bad)
  | _ => .bad
section
variable {X : Cx} {ct : CT} {W : WX} {pos : Pos} {e c : Expr} {f : SemE} {t : SemT} {st : Stmt} {rest a b : List Stmt} {u v : SemS}
theorem sss_nil : SSs X ct W [] sNil := PSs.imp pss_nil fun D σV H ⟨m, ah, σ, hr, lr, p⟩ => p.nx hr lr
theorem rd_seq {D : Ends} {σV : L2.St} {H : Hp} (h : rdS X.K ct W (sSq u v) D σV H) : tSeq (rdS X.K ct W u) (rdS X.K ct W v) D σV H := by
  obtain ⟨m, ah, σ, hr, lr, p⟩ := h
  refine ⟨m, ah, σ, hr, lr, ?_⟩
  unfold sSq at p
  cases e : u σ ah with
  | ok f σ' h =>
    rw [e] at p
    cases f with
    | nx => exact fun m2 H2 σ2 h2 e2 l2 => ⟨m2, h, σ', h2, l2, PoS.ext (r := v σ' h) p e2⟩
    | ret x => exact p
    | brk => exact p
    | cnt => exact p
  | exc x σ' h => rw [e] at p; exact p
  | bad => rw [e] at p; exact p.elim
theorem sss_cons (h1 : SS X ct W st u) (h2 : SSs X ct W rest v) : SSs X ct W (st :: rest) (sSq u v) := PSs.imp (pss_cons h1 h2) fun _ _ _ h => rd_seq h
theorem sss_one (h1 : SS X ct W st u) : SSs X ct W [st] u := pss_one h1
/-- a remark of ours ahead of a block: the list at slot i is frozen -/
theorem sss_frz {i : Nat} (h2 : SSs X ct W rest v) : SSs X ct W rest (sSq (sFrz i) v) := PSs.imp h2 fun D σV H ⟨m, ah, σ, hr, lr, p⟩ => by
  unfold sSq sFrz at p
  cases e : σ[i]? with
  | none => rw [e] at p; exact p.elim
  | some o =>
    cases o with
    | none => rw [e] at p; exact p.elim
    | some x =>
      rw [e] at p
      dsimp only at p
      cases e2 : toD x ah with
      | none => rw [e2] at p; exact p.elim
      | some q =>
        obtain ⟨d, h1⟩ := q
        rw [e2] at p
        obtain ⟨y, hy, r⟩ := lr.at_ i x e
        obtain ⟨hr1, ex1, r1⟩ := toD_sound hr e2 r
        have l1 : LR X.K ct m h1 H (σ.set i (some (.d d))) σV := by
          refine ⟨by rw [List.length_set]; exact lr.len, fun j z hz => ?_⟩
          by_cases q : i = j
          · subst q
            rw [List.getElem?_set_self (List.getElem?_eq_some_iff.mp e).1] at hz
            cases hz
            exact ⟨y, hy, r1⟩
          · rw [List.getElem?_set_ne q] at hz
            exact (lr.ext ex1).at_ j z hz
        exact ⟨m, h1, _, hr1, l1, PoS.ext (r := v (σ.set i (some (.d d))) h1) p ex1⟩
theorem sss_never {sts : List Stmt} : SSs X ct W sts sBad := PSs.imp pss_never fun D σV H ⟨m, ah, σ, hr, lr, p⟩ => p
theorem ss_never : SS X ct W st sBad := PS.imp ps_never fun D σV H ⟨m, ah, σ, hr, lr, p⟩ => p
theorem ss_pass : SS X ct W (.Pass pos) sNil := PS.imp ps_pass fun D σV H ⟨m, ah, σ, hr, lr, p⟩ => p.nx hr lr
theorem ss_break : SS X ct W (.Break pos) sBrk := PS.imp ps_break fun D σV H ⟨m, ah, σ, hr, lr, p⟩ => p m H σV hr (Ext.refl _ _ _) lr
theorem ss_continue : SS X ct W (.Continue pos) sCnt := PS.imp ps_continue fun D σV H ⟨m, ah, σ, hr, lr, p⟩ => p m H σV hr (Ext.refl _ _ _) lr
theorem ss_expr (he : SE X ct W e f) (hs : swapsWith e none pos.line X.env = pure false := by rfl) : SS X ct W (.Expr e pos) (sEx f) :=
  PS.imp (ps_expr he hs) fun D σV H ⟨m, ah, σ, hr, lr, p⟩ => ⟨m, ah, σ, hr, lr, (PoS.bind (R := VlR X.K ct) lr p).imp fun x H1 ⟨m1, h1, y, hr1, e1, r1, p1⟩ => PoS.nx hr1 (lr.ext e1) p1⟩
theorem ss_ret' (he : SE X ct W e f) : SS X ct W (.Return (some e) pos) (sRt f) :=
  PS.imp (ps_ret he) fun D σV H ⟨m, ah, σ, hr, lr, p⟩ => ⟨m, ah, σ, hr, lr, (PoS.bind (R := VlR X.K ct) lr p).imp fun x H1 ⟨m1, h1, y, hr1, e1, r1, p1⟩ => p1 m1 H1 σV hr1 (Ext.refl _ _ _) (lr.ext e1) x r1⟩
theorem ss_retN : SS X ct W (.Return none pos) sRtN := PS.imp ps_retN fun D σV H ⟨m, ah, σ, hr, lr, p⟩ => p m H σV hr (Ext.refl _ _ _) lr .non .non
theorem ss_if (hc : ST X ct W c t) (ha : SSs X ct W a u) (hb : SSs X ct W b v) : SS X ct W (.If c a b pos) (sIf t u v) :=
  PS.imp (ps_if hc ha hb) fun D σV H ⟨m, ah, σ, hr, lr, p⟩ => ⟨m, ah, σ, hr, lr, (PoS.bind (R := fun _ _ _ b c => b = c) lr p).imp fun x H1 ⟨m1, h1, y, hr1, e1, r1, p1⟩ => by
    subst r1
    dsimp only at p1
    cases y with
    | true => exact ⟨m1, h1, σ, hr1, lr.ext e1, p1⟩
    | false => exact ⟨m1, h1, σ, hr1, lr.ext e1, p1⟩⟩
end

/-! ### targets -/
abbrev SemG := Vl → Lo → Hs → Option (Lo × Hs)
abbrev SemGs := List D → Lo → Hs → Option (Lo × Hs)
def PoG (K : PySem.W.Frag) (ct : CT) (m : List Addr) (ah : Hs) (H : Hp) (o : Option (Lo × Hs)) (Q : L2.St → Hp → Prop) : Prop := match o with
  | some (σ', h) => ∀ m' H' σV', HR K ct m' h H' → Ext m ah H m' h H' → LR K ct m' h H' σ' σV' → Q σV' H'
  | none => False
def rdG (K : PySem.W.Frag) (ct : CT) (g : SemG) : TG := fun v σV H Q => ∃ m ah σ x, HR K ct m ah H ∧ LR K ct m ah H σ σV ∧ VlR K ct m ah H x v ∧ PoG K ct m ah H (g x σ ah) Q
def rdGs (K : PySem.W.Frag) (ct : CT) (g : SemGs) : TGs := fun vs σV H Q => ∃ m ah σ xs, HR K ct m ah H ∧ LR K ct m ah H σ σV ∧ DRs K ct (Sf m ah) H xs vs ∧ PoG K ct m ah H (g xs σ ah) Q
theorem PG.imp {X : Cx} {e : Expr} {t t' : TG} (h : PG X e t) (i : ∀ v σ H Q, t' v σ H Q → t v σ H Q) : PG X e t' := ⟨fun pins s σ H v u Q I r q => h.run pins s σ H v u Q I r (i _ _ _ _ q)⟩
theorem PGs.imp {X : Cx} {e : List Expr} {t t' : TGs} (h : PGs X e t) (i : ∀ v σ H Q, t' v σ H Q → t v σ H Q) : PGs X e t' := ⟨fun pins s σ H v u Q I r q => h.run pins s σ H v u Q I r (i _ _ _ _ q)⟩
abbrev SG (X : Cx) (ct : CT) (e : Expr) (g : SemG) : Prop := PG X e (rdG X.K ct g)
abbrev SGs (X : Cx) (ct : CT) (e : List Expr) (g : SemGs) : Prop := PGs X e (rdGs X.K ct g)
def gNm (i : Nat) : SemG := fun x σ h => some (σ.set i (some x), h)
def gNi : SemGs := fun xs σ h => match xs with
  | [] => some (σ, h)
  | _ => none
def gCo (g : SemG) (gs : SemGs) : SemGs := fun xs σ h => match xs with
  | x :: xs => (g (.d x) σ h).bind fun p => gs xs p.1 p.2
  | [] => none
def gTp (n : Nat) (gs : SemGs) : SemG := fun x σ h => match x with
  | .d (.tup xs) => if xs.length = n then gs xs σ h else none
  | _ => none
section
variable {X : Cx} {ct : CT} {W : WX} {pos : Pos} {e : Expr} {es : List Expr} {f : SemE} {g : SemG} {gs : SemGs}
theorem sg_name {i : Nat} {x : Str} (hN : X.N.Nodup) (hi : X.N[i]? = some x) (hx : Loc X.env.scope x) (hf : X.fn x = true ∨ X.env.scope.names.lookup x = some .local := by first | exact .inl rfl | exact .inr rfl | assumption) : SG X ct (.Name x pos) (gNm i) :=
  PG.imp (pg_name hN hi hx hf) fun v σV H Q ⟨m, ah, σ, x, hr, lr, r, p⟩ => p m H _ hr (Ext.refl _ _ _) (lr.set r i)
theorem sgs_nil : SGs X ct [] gNi := PGs.imp pgs_nil fun vs σV H Q ⟨m, ah, σ, xs, hr, lr, r, p⟩ => by
  unfold gNi at p
  split at p
  · cases r
    exact ⟨rfl, p m H _ hr (Ext.refl _ _ _) lr⟩
  · exact p.elim
theorem sgs_cons (h1 : SG X ct e g) (h2 : SGs X ct es gs) (hs : (assignEach (e :: es) X.env).map (·.2) = assign e X.env :: (assignEach es X.env).map (·.2) := by rfl) : SGs X ct (e :: es) (gCo g gs) :=
  PGs.imp (pgs_cons h1 h2 hs) fun vs σV H Q ⟨m, ah, σ, xs, hr, lr, r, p⟩ => by
    unfold gCo at p
    split at p
    · cases r with
      | cons r t =>
        refine ⟨_, _, rfl, m, ah, σ, .d _, hr, lr, r, ?_⟩
        cases q : g (.d _) σ ah with
        | none => rw [q] at p; exact p.elim
        | some z =>
          obtain ⟨σ', h'⟩ := z
          rw [q] at p
          refine fun m2 H2 σ2 h2 e2 l2 => ⟨m2, h', σ', _, h2, l2, t.mono e2.kp, ?_⟩
          dsimp only [Option.bind_some] at p
          revert p
          cases gs _ σ' h' with
          | none => exact fun p => p.elim
          | some z => exact fun p m3 H3 σ3 h3 e3 l3 => p m3 H3 σ3 h3 (e2.trans e3) l3
    · exact p.elim
theorem sg_tup {k n : Nat} (hc : X.calm = true) (h : SGs X ct es gs) (hn : (assignEach es X.env).length = n := by rfl) (hst : (assignEach es X.env).findIdx? (·.1) = none := by rfl) : SG X ct (.Tuple es k pos) (gTp n gs) :=
  PG.imp (pg_tup hc h hn hst) fun v σV H Q ⟨m, ah, σ, x, hr, lr, r, p⟩ => by
    unfold gTp at p
    split at p
    · obtain ⟨l, vs, rfl, h1, r1⟩ := tup_of r
      split at p
      · rename_i hl
        exact ⟨l, vs, rfl, h1, by rw [← r1.length]; exact hl, m, ah, σ, _, hr, lr, r1, p⟩
      · exact p.elim
    · exact p.elim
end
def sAs (f : SemE) (g : SemG) : SemS := fun σ h => sb (f σ h) σ fun x h1 => match g x σ h1 with
  | some (σ', h2) => .ok .nx σ' h2
  | none => .bad
section
variable {X : Cx} {ct : CT} {W : WX} {pos : Pos} {e tg : Expr} {es : List Expr} {f : SemE} {g : SemG} {gs : SemGs}
theorem rd_asg {D : Ends} {σV : L2.St} {H : Hp} (h : rdS X.K ct W (sAs f g) D σV H) : tAsg (rdE X.K ct W f) (rdG X.K ct g) D σV H := by
  obtain ⟨m, ah, σ, hr, lr, p⟩ := h
  refine ⟨m, ah, σ, hr, lr, (PoS.bind (R := VlR X.K ct) lr p).imp fun x H1 ⟨m1, h1, y, hr1, e1, r1, p1⟩ => ⟨m1, h1, σ, y, hr1, lr.ext e1, r1, ?_⟩⟩
  dsimp only at p1
  cases q : g y σ h1 with
  | none => rw [q] at p1; exact p1.elim
  | some z => rw [q] at p1; exact p1
theorem ss_asg (he : SE X ct W e f) (hg : SG X ct tg g) (hs : swapsWithSole [tg] e pos.line X.env = pure false := by rfl) (hw : swappedStores [tg] e X.env = pure none := by rfl)
    (h1 : (assignEach [tg] X.env).map (·.2) = [assign tg X.env] := by rfl) : SS X ct W (.Assign [tg] e pos) (sAs f g) := PS.imp (ps_asg he hg hs hw h1) fun _ _ _ h => rd_asg h
theorem ss_set {i : Nat} {x : Str} {pos' : Pos} (hN : X.N.Nodup) (hi : X.N[i]? = some x) (hx : Loc X.env.scope x) (he : SE X ct W e f) (hs : swapsWith e (some (.Name x pos')) pos.line X.env = pure false := by rfl) (hf : X.fn x = true ∨ X.env.scope.names.lookup x = some .local := by first | exact .inl rfl | exact .inr rfl | assumption) :
    SS X ct W (.Assign [.Name x pos'] e pos) (sAs f (gNm i)) := PS.imp (ps_set hN hi hx he hs hf) fun D σV H h => by
  obtain ⟨m, ah, σ, hr, lr, p⟩ := h
  exact ⟨m, ah, σ, hr, lr, (PoS.bind (R := VlR X.K ct) lr p).imp fun x H1 ⟨m1, h1, y, hr1, e1, r1, p1⟩ => p1 m1 H1 _ hr1 (Ext.refl _ _ _) ((lr.ext e1).set r1 i)⟩
end

/-! ### x op= e at a name -/
def rIp (K : PySem.W.Frag) (ct : CT) (op : Op2) : TIp := rOp K ct op
def sAu (i : Nat) (op : Op2) (f : SemE) : SemS := fun σ h => match σ[i]? with
  | some (some x) => sb (f σ h) σ fun y h1 => match op x y h1 with
    | some (z, h2) => .ok .nx (σ.set i (some z)) h2
    | none => .bad
  | _ => .bad
section
variable {X : Cx} {ct : CT} {W : WX} {pos pos' : Pos} {e : Expr} {f : SemE}
theorem ss_aug {i : Nat} {x : Str} {op : Operator} {o : Op2} (hN : X.N.Nodup) (hi : X.N[i]? = some x) (hx : Loc X.env.scope x) (he : SE X ct W e f) (ho : OpR X (inplaceOp op) (rOp X.K ct o))
    (hf : X.fn x = true ∨ X.env.scope.names.lookup x = some .local := by first | exact .inl rfl | exact .inr rfl | assumption) : SS X ct W (.AugAssign (.Name x pos') op e pos) (sAu i o f) :=
  PS.imp (ps_aug (ti := rOp X.K ct o) hN hi hx he ho hf) fun D σV H h => by
    obtain ⟨m, ah, σ, hr, lr, p⟩ := h
    unfold sAu at p
    cases q : σ[i]? with
    | none => rw [q] at p; exact p.elim
    | some z =>
      cases z with
      | none => rw [q] at p; exact p.elim
      | some z =>
        rw [q] at p
        obtain ⟨v, hv, rv⟩ := lr.at_ i z q
        refine ⟨v, hv, m, ah, σ, hr, lr, (PoS.bind (R := VlR X.K ct) lr p).imp fun y H1 ⟨m1, h1, y', hr1, e1, r1, p1⟩ => ⟨m1, h1, z, y', hr1, rv.ext e1, r1, ?_⟩⟩
        dsimp only at p1
        revert p1
        cases o z y' h1 with
        | none => exact fun p => p.elim
        | some w => exact fun p m2 H2 u h2 e2 r2 => p m2 H2 _ h2 e2 (((lr.ext e1).ext e2).set r2 i)
def oIAdd : Op2 := fun x y h => match x, y with
  | .d (.int i), .d (.int j) => some (.d (.int (i + j)), h)
  | .d (.str a), .d (.str b) => if a.length + b.length ≤ sizeLine then some (.d (.str (a ++ b)), h) else none
  | _, _ => none
theorem iadd_sound : OpR X (inplaceOp .Add) (rOp X.K ct oIAdd) := by
  refine OpR.imp (iop_add.or iop_add_str) fun x y H Q ⟨m, ah, a, b, hr, ra, rb, p⟩ => ?_
  unfold oIAdd at p
  split at p
  · cases ra; cases rb
    exact .inl ⟨_, _, rfl, rfl, p.same hr (.int _)⟩
  · cases ra; cases rb
    split at p
    · rename_i hc
      exact .inr ⟨_, _, rfl, rfl, hc, p.same hr (.str _)⟩
    · exact p.elim
  · exact p.elim
theorem isub_sound : OpR X (inplaceOp .Sub) (rOp X.K ct oSub) := OpR.imp iop_sub fun x y H Q ⟨m, ah, a, b, hr, ra, rb, p⟩ => by
  unfold oSub oI at p
  split at p
  · cases ra; cases rb
    exact ⟨_, _, rfl, rfl, p.same hr (.int _)⟩
  · exact p.elim
end

/-! ### what a for walks -/
abbrev SemI := Lo → Hs → Res (List D)
/-- the iterator hands out the data ds -/
def Wks (K : PySem.W.Frag) (ct : CT) (ds : List D) (m : List Addr) (ah : Hs) (H : Hp) (J : It) : Prop := ∀ m2 h2 H2, HR K ct m2 h2 H2 → Kp (Sf m ah) H (Sf m2 h2) H2 →
  (∀ i, ds.length ≤ i → J.stop i H2) ∧ ∀ (i : Nat) d, ds[i]? = some d → J.go i H2 ∧ ∀ x H3, J.yld i H2 x H3 → HR K ct m2 h2 H3 ∧ Ext m2 h2 H2 m2 h2 H3 ∧ DR K ct (Sf m2 h2) H3 d x
def rdI (K : PySem.W.Frag) (ct : CT) (W : WX) (f : SemI) : TI := fun σV H R => ∃ m ah σ, HR K ct m ah H ∧ LR K ct m ah H σ σV ∧ Po K ct W σV (fun m1 h1 H1 ds J => Wks K ct ds m1 h1 H1 J) m ah H (f σ ah) R
theorem PI.imp {X : Cx} {tg e : Expr} {t t' : TI} (h : PI X tg e t) (i : ∀ σ H Q, t' σ H Q → t σ H Q) : PI X tg e t' := ⟨fun pins s σ H R I q => h.run pins s σ H R I (i _ _ _ q)⟩
abbrev SI (X : Cx) (ct : CT) (W : WX) (tg e : Expr) (f : SemI) : Prop := PI X tg e (rdI X.K ct W f)
theorem Wks.ext {K : PySem.W.Frag} {ct : CT} {ds : List D} {m m' : List Addr} {ah ah' : Hs} {H H' : Hp} {J : It} (w : Wks K ct ds m ah H J) (e : Ext m ah H m' ah' H') : Wks K ct ds m' ah' H' J := fun m2 h2 H2 hr e2 => w m2 h2 H2 hr (e.kp.trans e2)
/-- the data of a list or tuple that is never changed -/
def pureSeq (x : Vl) : Option (List D) := match x with
  | .d (.tup xs) => some xs
  | .d (.lv xs) => some xs
  | _ => none
def pureLst (x : Vl) : Option (List D) := match x with
  | .d (.lv xs) => some xs
  | _ => none
def pureTup (x : Vl) : Option (List D) := match x with
  | .d (.tup xs) => some xs
  | _ => none
def iOf (p : Vl → Option (List D)) (f : SemE) : SemI := fun σ h => rb (f σ h) fun x h1 => match p x with
  | some xs => .ok xs h1
  | none => .bad
abbrev iLs (f : SemE) : SemI := iOf pureLst f
abbrev iTu (f : SemE) : SemI := iOf pureTup f
def rngD (lo : Int) (n : Nat) : List D := (List.range n).map fun (i : Nat) => D.int (lo + i)
def iR1 (f : SemE) : SemI := fun σ h => rb (f σ h) fun x h1 => match x with
  | .d (.int j) => if j < 2 ^ 62 ∧ -(2 ^ 62) ≤ j then .ok (rngD 0 j.toNat) h1 else .bad
  | _ => .bad
def iR2 (f g : SemE) : SemI := fun σ h => rb (f σ h) fun x h1 => rb (g σ h1) fun y h2 => match x, y with
  | .d (.int i), .d (.int j) => if (-(2 ^ 62) ≤ i ∧ i < 2 ^ 62) ∧ -(2 ^ 62) ≤ j ∧ j < 2 ^ 62 then .ok (rngD i (j - i).toNat) h2 else .bad
  | _, _ => .bad
theorem rngD_get (lo : Int) (n i : Nat) : (rngD lo n)[i]? = if i < n then some (D.int (lo + i)) else none := by
  unfold rngD
  rw [List.getElem?_map]
  by_cases h : i < n
  · rw [List.getElem?_range h, if_pos h]; rfl
  · rw [List.getElem?_eq_none (by simpa using h), if_neg h]; rfl
theorem rngD_len (lo : Int) (n : Nat) : (rngD lo n).length = n := by simp [rngD]
section
variable {K : PySem.W.Frag} {ct : CT} {m : List Addr} {ah : Hs} {H : Hp}
theorem wks_rng (lo : Int) (n : Nat) : Wks K ct (rngD lo n) m ah H (Itr lo n) := fun m2 h2 H2 hr ex => by
  refine ⟨fun i hi => by rw [rngD_len] at hi; exact hi, fun i d hd => ?_⟩
  rw [rngD_get] at hd
  split at hd
  · rename_i hi
    cases hd
    refine ⟨hi, fun x H3 hy => ?_⟩
    obtain ⟨rfl, rfl⟩ := hy
    exact ⟨hr, Ext.refl _ _ _, .int _⟩
  · cases hd
end
theorem pureLst_of {K : PySem.W.Frag} {ct : CT} {m : List Addr} {ah : Hs} {H : Hp} {x : Vl} {ds : List D} {v : V} (e : pureLst x = some ds) (r : VlR K ct m ah H x v) : ∃ a vs, v = .ref a ∧ (H a = some (.lst vs) ∨ ∃ o, H a = some (.frz o (.lst vs))) ∧ Sf m ah a ∧ DRs K ct (Sf m ah) H ds vs := by
  unfold pureLst at e
  split at e
  · cases e
    cases r with
    | lv h s t => exact ⟨_, _, rfl, .inl h, s, t⟩
  · cases e
end Mi

/-! Mi5: what a for walks; loops -/
namespace Mi
open PySem PySem.Spec L2

section
variable {K : PySem.W.Frag} {ct : CT} {m : List Addr} {ah : Hs} {H : Hp}
theorem sqL_uniq {a : Addr} {xs ys : List V} (h : H a = some (.lst xs) ∨ ∃ o, H a = some (.frz o (.lst xs))) : SqL K H a xs := h.elim (fun h => .of h) fun ⟨o, h⟩ => .inl (.inr ⟨o, h⟩)
/-- a yield that is told of every list that may be read there -/
theorem wks_list {a : Addr} {ds : List D} {vs : List V} (h : H a = some (.lst vs) ∨ ∃ o, H a = some (.frz o (.lst vs))) (s : Sf m ah a) (r : DRs K ct (Sf m ah) H ds vs) : Wks K ct ds m ah H (Itl K a) := fun m2 h2 H2 hr ex => by
  have h' : SqL K H2 a vs := sqL_uniq (ys := vs) (h.imp (fun h => (ex _ _ h s).1) fun ⟨o, h⟩ => ⟨o, (ex _ _ h s).1⟩)
  have r' := r.mono ex
  refine ⟨fun i hi => ⟨vs, h', by rw [← r.length]; exact hi⟩, fun i d hd => ?_⟩
  obtain ⟨y, hy, ry⟩ := r'.get hd
  refine ⟨⟨vs, y, h', hy⟩, fun x H3 hx => ?_⟩
  obtain ⟨rfl, hx⟩ := hx
  have e := hx vs h'
  rw [hy] at e
  cases e
  exact ⟨hr, Ext.refl _ _ _, ry⟩
theorem sqT_ext {S S' : Addr → Prop} {H' : Hp} {a : Addr} {vs : List V} (k : Kp S H S' H') (h : H a = some (.tup vs) ∧ S a) : H' a = some (.tup vs) ∧ S' a := k _ _ h.1 h.2
theorem sqT_of {S : Addr → Prop} {a : Addr} {vs : List V} (h : H a = some (.tup vs) ∧ S a) : SqT K H a vs := .inl (.inl h.1)
theorem wks_tup {a : Addr} {ds : List D} {vs : List V} (h : H a = some (.tup vs) ∧ Sf m ah a) (r : DRs K ct (Sf m ah) H ds vs) : Wks K ct ds m ah H (Itt K a) := fun m2 h2 H2 hr ex => by
  have h' : SqT K H2 a vs := sqT_of (sqT_ext ex h)
  have r' := r.mono ex
  refine ⟨fun i hi => ⟨vs, h', by rw [← r.length]; exact hi⟩, fun i d hd => ?_⟩
  obtain ⟨y, hy, ry⟩ := r'.get hd
  refine ⟨⟨vs, y, h', hy⟩, fun x H3 hx => ?_⟩
  obtain ⟨rfl, hx⟩ := hx
  have e := hx vs h'
  rw [hy] at e
  cases e
  exact ⟨hr, Ext.refl _ _ _, ry⟩
def enumD (ds : List D) : List D := (List.range ds.length).map fun (i : Nat) => D.tup [.int (i : Nat), ds.getD i .non]
theorem enumD_get (ds : List D) (i : Nat) : (enumD ds)[i]? = (ds[i]?).map fun d => D.tup [.int (i : Nat), d] := by
  unfold enumD
  rw [List.getElem?_map]
  by_cases h : i < ds.length
  · rw [List.getElem?_range h, List.getElem?_eq_getElem h]
    simp [List.getD, List.getElem?_eq_getElem h]
  · rw [List.getElem?_eq_none (by simpa using h), List.getElem?_eq_none (by omega)]; rfl
theorem enumD_len (ds : List D) : (enumD ds).length = ds.length := by simp [enumD]
/-- a new pair -/
theorem pair_new {m2 : List Addr} {h2 : Hs} {H2 : Hp} (hr : HR K ct m2 h2 H2) {T : Addr} (hT : H2 T = none) {x y : V} {d e : D} (rx : DR K ct (Sf m2 h2) H2 d x) (ry : DR K ct (Sf m2 h2) H2 e y) :
    HR K ct m2 h2 (upd H2 T (.tup [x, y])) ∧ Ext m2 h2 H2 m2 h2 (upd H2 T (.tup [x, y])) ∧ DR K ct (Sf m2 h2) (upd H2 T (.tup [x, y])) (.tup [d, e]) (.ref T) :=
  ⟨(hr.pure (o := .tup [x, y]) hT).1, (hr.pure (o := .tup [x, y]) hT).2.1, new_tup (.cons rx (.cons ry .nil)) (hr.pure (o := .tup [x, y]) hT).2.1.kp (hr.freshS hT)⟩
theorem wks_enum {a : Addr} {ds : List D} {vs : List V} (h : H a = some (.lst vs) ∨ ∃ o, H a = some (.frz o (.lst vs))) (s : Sf m ah a) (r : DRs K ct (Sf m ah) H ds vs) : Wks K ct (enumD ds) m ah H (Ite K a) := fun m2 h2 H2 hr ex => by
  have h' : SqL K H2 a vs := sqL_uniq (ys := vs) (h.imp (fun h => (ex _ _ h s).1) fun ⟨o, h⟩ => ⟨o, (ex _ _ h s).1⟩)
  have r' := r.mono ex
  refine ⟨fun i hi => ⟨vs, h', by rw [← r.length]; rw [enumD_len] at hi; exact hi⟩, fun i d hd => ?_⟩
  rw [enumD_get] at hd
  cases q : ds[i]? with
  | none => rw [q] at hd; cases hd
  | some d0 =>
    rw [q] at hd; cases hd
    obtain ⟨y, hy, ry⟩ := r'.get q
    refine ⟨⟨vs, y, h', hy⟩, fun x H3 hx => ?_⟩
    obtain ⟨T, x1, rfl, hT, rfl, hx⟩ := hx
    have e := hx vs h'
    rw [hy] at e
    cases e
    exact pair_new hr hT (.int _) ry
def zipD (xs ys : List D) : List D := List.zipWith (fun x y => D.tup [x, y]) xs ys
theorem zipD_get {xs ys : List D} {i : Nat} {d : D} (h : (zipD xs ys)[i]? = some d) : ∃ x y, xs[i]? = some x ∧ ys[i]? = some y ∧ d = .tup [x, y] := by
  unfold zipD at h
  rw [List.getElem?_zipWith] at h
  split at h
  · rename_i x y hx hy
    cases h
    exact ⟨x, y, hx, hy, rfl⟩
  · cases h
theorem zipD_len (xs ys : List D) : (zipD xs ys).length = min xs.length ys.length := by simp [zipD]
theorem wks_zip {a b : Addr} {ds es : List D} {vs ws : List V} (h : H a = some (.lst vs) ∨ ∃ o, H a = some (.frz o (.lst vs))) (s : Sf m ah a) (r : DRs K ct (Sf m ah) H ds vs)
    (g : H b = some (.lst ws) ∨ ∃ o, H b = some (.frz o (.lst ws))) (s2 : Sf m ah b) (r2 : DRs K ct (Sf m ah) H es ws) : Wks K ct (zipD ds es) m ah H (Itz K a b) := fun m2 h2 H2 hr ex => by
  have h' : SqL K H2 a vs := sqL_uniq (ys := vs) (h.imp (fun h => (ex _ _ h s).1) fun ⟨o, h⟩ => ⟨o, (ex _ _ h s).1⟩)
  have g' : SqL K H2 b ws := sqL_uniq (ys := ws) (g.imp (fun h => (ex _ _ h s2).1) fun ⟨o, h⟩ => ⟨o, (ex _ _ h s2).1⟩)
  have r' := r.mono ex
  have r2' := r2.mono ex
  refine ⟨fun i hi => ⟨vs, ws, h', g', by rw [zipD_len, r.length, r2.length] at hi; omega⟩, fun i d hd => ?_⟩
  obtain ⟨x0, y0, h1, h2', rfl⟩ := zipD_get hd
  obtain ⟨x, hx, rx⟩ := r'.get h1
  obtain ⟨y, hy, ry⟩ := r2'.get h2'
  refine ⟨⟨vs, ws, x, y, h', g', hx, hy⟩, fun z H3 hz => ?_⟩
  obtain ⟨T, x1, y1, rfl, hT, rfl, f1, f2⟩ := hz
  have e1 := f1 vs h'
  have e2 := f2 ws g'
  rw [hx] at e1
  rw [hy] at e2
  cases e1; cases e2
  exact pair_new hr hT rx ry
theorem wks_zipT {a b : Addr} {ds es : List D} {vs ws : List V} (h : H a = some (.tup vs) ∧ Sf m ah a) (r : DRs K ct (Sf m ah) H ds vs)
    (g : H b = some (.tup ws) ∧ Sf m ah b) (r2 : DRs K ct (Sf m ah) H es ws) : Wks K ct (zipD ds es) m ah H (RZ.ItzT K a b) := fun m2 h2 H2 hr ex => by
  have h' : SqT K H2 a vs := sqT_of (sqT_ext ex h)
  have g' : SqT K H2 b ws := sqT_of (sqT_ext ex g)
  have r' := r.mono ex
  have r2' := r2.mono ex
  refine ⟨fun i hi => ⟨vs, ws, h', g', by rw [zipD_len, r.length, r2.length] at hi; omega⟩, fun i d hd => ?_⟩
  obtain ⟨x0, y0, h1, h2', rfl⟩ := zipD_get hd
  obtain ⟨x, hx, rx⟩ := r'.get h1
  obtain ⟨y, hy, ry⟩ := r2'.get h2'
  refine ⟨⟨vs, ws, x, y, h', g', hx, hy⟩, fun z H3 hz => ?_⟩
  obtain ⟨T, x1, y1, rfl, hT, rfl, f1, f2⟩ := hz
  have e1 := f1 vs h'
  have e2 := f2 ws g'
  rw [hx] at e1
  rw [hy] at e2
  cases e1; cases e2
  exact pair_new hr hT rx ry
end
def strD (x : Str) : List D := x.cps.toList.map fun c => D.str ⟨#[c]⟩
theorem wks_str {K : PySem.W.Frag} {ct : CT} {m : List Addr} {ah : Hs} {H : Hp} (x : Str) : Wks K ct (strD x) m ah H (Its x) := fun m2 h2 H2 hr ex => by
  refine ⟨fun i hi => by unfold strD at hi; rw [List.length_map, Array.length_toList] at hi; exact hi, fun i d hd => ?_⟩
  unfold strD at hd
  rw [List.getElem?_map, Array.getElem?_toList] at hd
  cases q : x.cps[i]? with
  | none => rw [q] at hd; cases hd
  | some c =>
    rw [q] at hd; cases hd
    refine ⟨(Array.getElem?_eq_some_iff.mp q).1, fun v H3 hv => ?_⟩
    obtain ⟨rfl, c', hc, rfl⟩ := hv
    rw [q] at hc; cases hc
    exact ⟨hr, Ext.refl _ _ _, .str _⟩
def iEn (f : SemA) : SemI := fun σ h => rb (f σ h) fun xs h1 => match xs with
  | [x] => (match pureLst x with
    | some ds => .ok (enumD ds) h1
    | none => .bad)
  | _ => .bad
def iZp (f : SemA) : SemI := fun σ h => rb (f σ h) fun xs h1 => match xs with
  | [x, y] => (match pureLst x, pureLst y with
    | some ds, some es => .ok (zipD ds es) h1
    | _, _ => (match pureTup x, pureTup y with
      | some ds, some es => .ok (zipD ds es) h1
      | _, _ => .bad))
  | _ => .bad
def iSt (f : SemE) : SemI := fun σ h => rb (f σ h) fun x h1 => match x with
  | .d (.str z) => .ok (strD z) h1
  | _ => .bad
/-- a small number, told without reckoning on its sign -/
def smI (j : Int) : Bool := Nat.ble j.natAbs 1000000000
theorem smI_ok {j : Int} (h : smI j = true) : j < 2 ^ 62 ∧ -(2 ^ 62) ≤ j := by
  have := Nat.le_of_ble_eq_true h
  omega
def iA1 (f : SemA) : SemI := fun σ h => rb (f σ h) fun xs h1 => match xs with
  | [.d (.int j)] => if smI j = true then .ok (rngD 0 j.toNat) h1 else .bad
  | _ => .bad
def iA2 (f : SemA) : SemI := fun σ h => rb (f σ h) fun xs h1 => match xs with
  | [.d (.int i), .d (.int j)] => if smI i = true ∧ smI j = true then .ok (rngD i (j - i).toNat) h1 else .bad
  | _ => .bad
section
variable {X : Cx} {ct : CT} {W : WX} {tg e e2 : Expr} {f : SemE} {fs : SemA} {p pos tpos : Pos} {elts : List Expr} {kk : Nat}
theorem si_list (he : SE X ct W e f) : SI X ct W tg e (iLs f) :=
  PI.imp (pi_list he) fun σV H R ⟨m, ah, σ, hr, lr, p⟩ => ⟨m, ah, σ, hr, lr, (Po.bind (R := VlR X.K ct) p).imp fun v H1 ⟨m1, h1, x, hr1, e1, r1, p1⟩ => by
    dsimp only at p1
    split at p1
    · rename_i ds q
      obtain ⟨a, vs, rfl, h, s, r⟩ := pureLst_of q r1
      exact ⟨a, rfl, ⟨vs, sqL_uniq (ys := vs) h⟩, p1 m1 H1 _ hr1 (Ext.refl _ _ _) (wks_list h s r)⟩
    · exact p1.elim⟩
theorem si_tup (he : SE X ct W e f) : SI X ct W tg e (iTu f) :=
  PI.imp (pi_tup he) fun σV H R ⟨m, ah, σ, hr, lr, p⟩ => ⟨m, ah, σ, hr, lr, (Po.bind (R := VlR X.K ct) p).imp fun v H1 ⟨m1, h1, x, hr1, e1, r1, p1⟩ => by
    dsimp only at p1
    split at p1
    · rename_i ds q
      unfold pureTup at q
      split at q
      · cases q
        cases r1 with
        | tup h r => exact ⟨_, rfl, ⟨_, sqT_of h⟩, p1 m1 H1 _ hr1 (Ext.refl _ _ _) (wks_tup h r)⟩
      · cases q
    · exact p1.elim⟩
theorem si_rng1 (hg : Gl X "range") (hm : X.mg "range" = none) (ha : SA X ct W [e] fs) (hs : starEach [e] X.env = [(false, eval e X.env)] := by rfl) : SI X ct W tg (.Call (.Name "range" p) [e] [] pos) (iA1 fs) :=
  PI.imp (pi_range1 hg hm ha hs) fun σV H R ⟨m, ah, σ, hr, lr, p⟩ => ⟨m, ah, σ, hr, lr, (Po.bind (R := VlRs X.K ct) p).imp fun vs H1 ⟨m1, h1, x, hr1, e1, r1, p1⟩ => by
    dsimp only at p1
    split at p1
    · rename_i j
      cases r1 with
      | cons r t =>
        cases t; cases r
        split at p1
        · rename_i hj
          exact ⟨j, rfl, (smI_ok hj).2, (smI_ok hj).1, p1 m1 H1 _ hr1 (Ext.refl _ _ _) (wks_rng 0 _)⟩
        · exact p1.elim
    · exact p1.elim⟩
theorem si_rng2 (hg : Gl X "range") (hm : X.mg "range" = none) (ha : SA X ct W [e, e2] fs) (hs : starEach [e, e2] X.env = [(false, eval e X.env), (false, eval e2 X.env)] := by rfl) (hs2 : starEach [e2] X.env = [(false, eval e2 X.env)] := by rfl) :
    SI X ct W tg (.Call (.Name "range" p) [e, e2] [] pos) (iA2 fs) :=
  PI.imp (pi_range2 hg hm ha hs hs2) fun σV H R ⟨m, ah, σ, hr, lr, p⟩ => ⟨m, ah, σ, hr, lr, (Po.bind (R := VlRs X.K ct) p).imp fun vs H1 ⟨m1, h1, x, hr1, e1, r1, p1⟩ => by
    dsimp only at p1
    split at p1
    · rename_i i j
      cases r1 with
      | cons r t =>
        cases t with
        | cons r2 t =>
          cases t; cases r; cases r2
          split at p1
          · rename_i hj
            exact ⟨i, j, rfl, ⟨(smI_ok hj.1).2, (smI_ok hj.1).1, (smI_ok hj.2).2, (smI_ok hj.2).1⟩, p1 m1 H1 _ hr1 (Ext.refl _ _ _) (wks_rng i _)⟩
          · exact p1.elim
    · exact p1.elim⟩
theorem si_enum (hg : Gl X "enumerate") (hm : X.mg "enumerate" = none) (ha : SA X ct W [e] fs) (hs : starEach [e] X.env = [(false, eval e X.env)] := by rfl) : SI X ct W (.Tuple elts kk tpos) (.Call (.Name "enumerate" p) [e] [] pos) (iEn fs) :=
  PI.imp (pi_enum hg hm ha hs) fun σV H R ⟨m, ah, σ, hr, lr, p⟩ => ⟨m, ah, σ, hr, lr, (Po.bind (R := VlRs X.K ct) p).imp fun vs H1 ⟨m1, h1, x, hr1, e1, r1, p1⟩ => by
    dsimp only at p1
    split at p1
    · cases r1 with
      | cons r t =>
        cases t
        split at p1
        · rename_i ds q
          obtain ⟨a, vs, rfl, h, s, r⟩ := pureLst_of q r
          exact ⟨a, vs, rfl, sqL_uniq (ys := vs) h, p1 m1 H1 _ hr1 (Ext.refl _ _ _) (wks_enum h s r)⟩
        · exact p1.elim
    · exact p1.elim⟩
theorem si_zip (hg : Gl X "zip") (hm : X.mg "zip" = none) (ha : SA X ct W [e, e2] fs)
    (hs : starEach [e, e2] X.env = (false, eval e X.env) :: starEach [e2] X.env := by rfl) (hpl : (backTo pos (starEach [e2] X.env)).any (·.1) = false := by rfl) :
    SI X ct W (.Tuple elts kk tpos) (.Call (.Name "zip" p) [e, e2] [] pos) (iZp fs) :=
  PI.imp (RZ.pi_zipA hg hm ha hs hpl) fun σV H R ⟨m, ah, σ, hr, lr, p⟩ => ⟨m, ah, σ, hr, lr, (Po.bind (R := VlRs X.K ct) p).imp fun vs H1 ⟨m1, h1, x, hr1, e1, r1, p1⟩ => by
    dsimp only at p1
    split at p1
    · cases r1 with
      | cons r t =>
        cases t with
        | cons r2 t =>
          cases t
          split at p1
          · rename_i ds es q1 q2
            obtain ⟨a, vs, rfl, h, s, r⟩ := pureLst_of q1 r
            obtain ⟨b, ws, rfl, h2, s2, r2⟩ := pureLst_of q2 r2
            exact ⟨a, b, vs, ws, rfl, .inl ⟨sqL_uniq (ys := vs) h, sqL_uniq (ys := ws) h2, p1 m1 H1 _ hr1 (Ext.refl _ _ _) (wks_zip h s r h2 s2 r2)⟩⟩
          · split at p1
            · rename_i ds es q1 q2
              unfold pureTup at q1 q2
              split at q1
              · cases q1
                split at q2
                · cases q2
                  cases r with
                  | tup h r =>
                    cases r2 with
                    | tup h2 r2 => exact ⟨_, _, _, _, rfl, .inr ⟨sqT_of h, sqT_of h2, p1 m1 H1 _ hr1 (Ext.refl _ _ _) (wks_zipT h r h2 r2)⟩⟩
                · cases q2
              · cases q1
            · exact p1.elim
    · exact p1.elim⟩
theorem si_str (he : SE X ct W e f) : SI X ct W tg e (iSt f) :=
  PI.imp (pi_str he) fun σV H R ⟨m, ah, σ, hr, lr, p⟩ => ⟨m, ah, σ, hr, lr, (Po.bind (R := VlR X.K ct) p).imp fun v H1 ⟨m1, h1, x, hr1, e1, r1, p1⟩ => by
    dsimp only at p1
    split at p1
    · cases r1
      exact ⟨_, rfl, p1 m1 H1 _ hr1 (Ext.refl _ _ _) (wks_str _)⟩
    · exact p1.elim⟩
end

/-! ### for -/
/-- forget the objects from the n-th on -/
def clr (n : Nat) (σ : Lo) : Lo := σ.map fun o => match o with
  | some (.r k) => if k < n then some (.r k) else none
  | o => o
def forL (g : SemG) (body : SemS) : List D → Lo → Hs → RS
  | [], σ, h => .ok .nx σ h
  | d :: ds, σ, h => match g (.d d) σ h with
    | none => .bad
    | some (σ1, h1) => match body σ1 h1 with
      | .ok .nx σ2 h2 => forL g body ds (clr h.length σ2) (h2.take h.length)
      | .ok .cnt σ2 h2 => forL g body ds (clr h.length σ2) (h2.take h.length)
      | .ok .brk σ2 h2 => .ok .nx (clr h.length σ2) (h2.take h.length)
      | .ok (.ret v) σ2 h2 => .ok (.ret v) σ2 h2
      | .exc e σ2 h2 => .exc e σ2 h2
      | .bad => .bad
def sFor (it : SemI) (g : SemG) (body : SemS) : SemS := fun σ h => sb (it σ h) σ fun ds h1 => forL g body ds σ h1
/-- .. where new objects outlive a turn -/
def forN (g : SemG) (body : SemS) : List D → Lo → Hs → RS
  | [], σ, h => .ok .nx σ h
  | d :: ds, σ, h => match g (.d d) σ h with
    | none => .bad
    | some (σ1, h1) => match body σ1 h1 with
      | .ok .nx σ2 h2 => forN g body ds σ2 h2
      | .ok .cnt σ2 h2 => forN g body ds σ2 h2
      | .ok .brk σ2 h2 => .ok .nx σ2 h2
      | .ok (.ret v) σ2 h2 => .ok (.ret v) σ2 h2
      | .exc e σ2 h2 => .exc e σ2 h2
      | .bad => .bad
def sForN (it : SemI) (g : SemG) (body : SemS) : SemS := fun σ h => sb (it σ h) σ fun ds h1 => forN g body ds σ h1
section
variable {K : PySem.W.Frag} {ct : CT} {W : WX} {m m' : List Addr} {ah ah' : Hs} {H H' : Hp}
theorem LR.clr {σ : Lo} {σV : L2.St} (hr : HR K ct m' ah' H') (e : Ext m ah H m' ah' H') (hl : m.length = ah.length) (lr : LR K ct m' ah' H' σ σV) : LR K ct m (ah'.take ah.length) H' (clr ah.length σ) σV := by
  refine ⟨by unfold Mi.clr; rw [List.length_map]; exact lr.len, fun i x hx => ?_⟩
  unfold Mi.clr at hx
  rw [List.getElem?_map] at hx
  have kp := (hr.trim m.length).2
  have em : m'.take m.length = m := by
    obtain ⟨t, rfl⟩ := e.pre
    rw [List.take_left' rfl]
  rw [em, hl] at kp
  cases q : σ[i]? with
  | none => rw [q] at hx; cases hx
  | some o =>
    rw [q] at hx
    cases o with
    | none => simp at hx
    | some y =>
      obtain ⟨v, hv, rv⟩ := lr.at_ i y q
      cases y with
      | d y =>
        simp only [Option.map_some, Option.some.injEq] at hx
        subst hx
        exact ⟨v, hv, DR.mono kp rv⟩
      | r k =>
        simp only [Option.map_some, Option.some.injEq] at hx
        split at hx
        · rename_i hk
          cases hx
          obtain ⟨a, ha, rfl⟩ := rv
          refine ⟨_, hv, a, ?_, rfl⟩
          obtain ⟨t, rfl⟩ := e.pre
          rw [List.getElem?_append_left (by rw [hl]; exact hk)] at ha
          exact ha
        · cases hx
theorem HR.trim' (hr : HR K ct m ah H) (h' : HR K ct m' ah' H') (e : Ext m ah H m' ah' H') : HR K ct m (ah'.take ah.length) H' ∧ Ext m ah H m (ah'.take ah.length) H' := by
  rw [← hr.len]
  exact ⟨HR.trimmed h' e, Ext.trimmed h' e⟩
end
section
variable {X : Cx} {ct : CT} {W : WX} {pos : Pos} {tg iter : Expr} {body : List Stmt} {it : SemI} {g : SemG} {u : SemS}
theorem rd_for {D : Ends} {σV : L2.St} {H : Hp} (h : rdS X.K ct W (sFor it g u) D σV H) : tFor (rdI X.K ct W it) (rdG X.K ct g) (rdS X.K ct W u) D σV H := by
  obtain ⟨m, ah, σ, hr, lr, p⟩ := h
  refine ⟨m, ah, σ, hr, lr, (PoS.bind (R := fun m1 h1 H1 ds J => Wks X.K ct ds m1 h1 H1 J) lr p).imp fun J H1 ⟨m1, h1, ds, hr1, e1, w1, p1⟩ => ?_⟩
  dsimp only at p1 w1
  refine ⟨fun i n σV H => n = ds.length - i ∧ i ≤ ds.length ∧ ∃ m2 h2 σ2, HR X.K ct m2 h2 H ∧ LR X.K ct m2 h2 H σ2 σV ∧ Ext m1 h1 H1 m2 h2 H ∧ PoS X.K ct W D m2 h2 H (forL g u (ds.drop i) σ2 h2),
    ⟨ds.length, by simp, Nat.zero_le _, m1, h1, σ, hr1, lr.ext e1, Ext.refl _ _ _, by rw [List.drop_zero]; exact p1⟩, ?_⟩
  rintro i n σV2 H2 ⟨rfl, hi, m2, h2, σ2, hr2, l2, e2, p2⟩
  obtain ⟨ws, wg⟩ := w1 m2 h2 H2 hr2 e2.kp
  by_cases hlt : i < ds.length
  · rw [List.drop_eq_getElem_cons hlt] at p2
    obtain ⟨go, wy⟩ := wg i _ (List.getElem?_eq_getElem hlt)
    refine .inr ⟨go, fun σV3 H3 => ∃ m3 h3 σ3, HR X.K ct m3 h3 H3 ∧ LR X.K ct m3 h3 H3 σ3 σV3 ∧ Ext m1 h1 H1 m3 h3 H3 ∧ PoS X.K ct W D m3 h3 H3 (forL g u (ds.drop (i + 1)) σ3 h3),
      fun σV3 H3 ⟨m3, h3, σ3, q1, q2, q3, q4⟩ => ⟨ds.length - (i + 1), by omega, rfl, hlt, m3, h3, σ3, q1, q2, q3, q4⟩, fun x H3 hy => ?_⟩
    obtain ⟨hr3, e3, rd⟩ := wy x H3 hy
    refine ⟨m2, h2, σ2, .d _, hr3, l2.ext e3, rd, ?_⟩
    rw [forL] at p2
    cases q : g (.d ds[i]) σ2 h2 with
    | none => rw [q] at p2; exact p2.elim
    | some z =>
      obtain ⟨σ4, h4⟩ := z
      rw [q] at p2
      dsimp only at p2
      refine fun m4 H4 σV4 hr4 e4 l4 => ⟨m4, h4, σ4, hr4, l4, ?_⟩
      have e14 := (e2.trans e3).trans e4
      cases q2 : u σ4 h4 with
      | bad => rw [q2] at p2; exact p2.elim
      | exc e σ5 h5 =>
        rw [q2] at p2
        exact fun m5 H5 σV5 c d hr5 e5 l5 x5 => p2 m5 H5 σV5 c d hr5 ((e3.trans e4).trans e5) l5 x5
      | ok f σ5 h5 =>
        rw [q2] at p2
        cases f with
        | nx =>
          refine fun m5 H5 σV5 hr5 e5 l5 => ?_
          obtain ⟨hr6, e6⟩ := HR.trim' hr2 hr5 ((e3.trans e4).trans e5)
          exact ⟨m2, _, _, hr6, LR.clr hr5 ((e3.trans e4).trans e5) hr2.len l5, e2.trans e6, PoS.ext p2 e6⟩
        | cnt =>
          refine fun m5 H5 σV5 hr5 e5 l5 => ?_
          obtain ⟨hr6, e6⟩ := HR.trim' hr2 hr5 ((e3.trans e4).trans e5)
          exact ⟨m2, _, _, hr6, LR.clr hr5 ((e3.trans e4).trans e5) hr2.len l5, e2.trans e6, PoS.ext p2 e6⟩
        | brk =>
          refine fun m5 H5 σV5 hr5 e5 l5 => ?_
          obtain ⟨hr6, e6⟩ := HR.trim' hr2 hr5 ((e3.trans e4).trans e5)
          exact p2 m2 H5 σV5 hr6 e6 (LR.clr hr5 ((e3.trans e4).trans e5) hr2.len l5)
        | ret v => exact fun m5 H5 σV5 hr5 e5 l5 => p2 m5 H5 σV5 hr5 ((e3.trans e4).trans e5) l5
  · have e : i = ds.length := by omega
    subst e
    rw [List.drop_length] at p2
    exact .inl ⟨ws _ (Nat.le_refl _), PoS.nx hr2 l2 p2⟩
theorem ss_for (hp : PassesOwn (model X.prog X.w) X.A X.env X.xe) (hc : X.calm = true) (hi : SI X ct W tg iter it) (hg : SG X ct tg g) (hb : SSs X ct W body u)
    (hs : ∀ x, foldedSetIterable iter X.env x = pure x := by intro _; rfl) : SS X ct W (.For tg iter body [] pos) (sFor it g u) := PS.imp (ps_for hp hc hi hg hb hs) fun _ _ _ h => rd_for h
theorem rd_forN {D : Ends} {σV : L2.St} {H : Hp} (h : rdS X.K ct W (sForN it g u) D σV H) : tFor (rdI X.K ct W it) (rdG X.K ct g) (rdS X.K ct W u) D σV H := by
  obtain ⟨m, ah, σ, hr, lr, p⟩ := h
  refine ⟨m, ah, σ, hr, lr, (PoS.bind (R := fun m1 h1 H1 ds J => Wks X.K ct ds m1 h1 H1 J) lr p).imp fun J H1 ⟨m1, h1, ds, hr1, e1, w1, p1⟩ => ?_⟩
  dsimp only at p1 w1
  refine ⟨fun i n σV H => n = ds.length - i ∧ i ≤ ds.length ∧ ∃ m2 h2 σ2, HR X.K ct m2 h2 H ∧ LR X.K ct m2 h2 H σ2 σV ∧ Ext m1 h1 H1 m2 h2 H ∧ PoS X.K ct W D m2 h2 H (forN g u (ds.drop i) σ2 h2),
    ⟨ds.length, by simp, Nat.zero_le _, m1, h1, σ, hr1, lr.ext e1, Ext.refl _ _ _, by rw [List.drop_zero]; exact p1⟩, ?_⟩
  rintro i n σV2 H2 ⟨rfl, hi, m2, h2, σ2, hr2, l2, e2, p2⟩
  obtain ⟨ws, wg⟩ := w1 m2 h2 H2 hr2 e2.kp
  by_cases hlt : i < ds.length
  · rw [List.drop_eq_getElem_cons hlt] at p2
    obtain ⟨go, wy⟩ := wg i _ (List.getElem?_eq_getElem hlt)
    refine .inr ⟨go, fun σV3 H3 => ∃ m3 h3 σ3, HR X.K ct m3 h3 H3 ∧ LR X.K ct m3 h3 H3 σ3 σV3 ∧ Ext m1 h1 H1 m3 h3 H3 ∧ PoS X.K ct W D m3 h3 H3 (forN g u (ds.drop (i + 1)) σ3 h3),
      fun σV3 H3 ⟨m3, h3, σ3, q1, q2, q3, q4⟩ => ⟨ds.length - (i + 1), by omega, rfl, hlt, m3, h3, σ3, q1, q2, q3, q4⟩, fun x H3 hy => ?_⟩
    obtain ⟨hr3, e3, rd⟩ := wy x H3 hy
    refine ⟨m2, h2, σ2, .d _, hr3, l2.ext e3, rd, ?_⟩
    rw [forN] at p2
    cases q : g (.d ds[i]) σ2 h2 with
    | none => rw [q] at p2; exact p2.elim
    | some z =>
      obtain ⟨σ4, h4⟩ := z
      rw [q] at p2
      dsimp only at p2
      refine fun m4 H4 σV4 hr4 e4 l4 => ⟨m4, h4, σ4, hr4, l4, ?_⟩
      cases q2 : u σ4 h4 with
      | bad => rw [q2] at p2; exact p2.elim
      | exc e σ5 h5 =>
        rw [q2] at p2
        exact fun m5 H5 σV5 c d hr5 e5 l5 x5 => p2 m5 H5 σV5 c d hr5 ((e3.trans e4).trans e5) l5 x5
      | ok f σ5 h5 =>
        rw [q2] at p2
        cases f with
        | nx => exact fun m5 H5 σV5 hr5 e5 l5 => ⟨m5, h5, σ5, hr5, l5, e2.trans ((e3.trans e4).trans e5), PoS.ext p2 ((e3.trans e4).trans e5)⟩
        | cnt => exact fun m5 H5 σV5 hr5 e5 l5 => ⟨m5, h5, σ5, hr5, l5, e2.trans ((e3.trans e4).trans e5), PoS.ext p2 ((e3.trans e4).trans e5)⟩
        | brk => exact fun m5 H5 σV5 hr5 e5 l5 => p2 m5 H5 σV5 hr5 ((e3.trans e4).trans e5) l5
        | ret v => exact fun m5 H5 σV5 hr5 e5 l5 => p2 m5 H5 σV5 hr5 ((e3.trans e4).trans e5) l5
  · have e : i = ds.length := by omega
    subst e
    rw [List.drop_length] at p2
    exact .inl ⟨ws _ (Nat.le_refl _), PoS.nx hr2 l2 p2⟩
theorem ss_forN (hp : PassesOwn (model X.prog X.w) X.A X.env X.xe) (hc : X.calm = true) (hi : SI X ct W tg iter it) (hg : SG X ct tg g) (hb : SSs X ct W body u)
    (hs : ∀ x, foldedSetIterable iter X.env x = pure x := by intro _; rfl) : SS X ct W (.For tg iter body [] pos) (sForN it g u) := PS.imp (ps_for hp hc hi hg hb hs) fun _ _ _ h => rd_forN h
end

/-! ### while -/
def whL (t : SemT) (body : SemS) : Nat → Lo → Hs → RS
  | 0, _, _ => .bad
  | n + 1, σ, h => sb (t σ h) σ fun b h1 => if b = true then (match body σ h1 with
      | .ok .nx σ2 h2 => whL t body n (clr h.length σ2) (h2.take h.length)
      | .ok .cnt σ2 h2 => whL t body n (clr h.length σ2) (h2.take h.length)
      | .ok .brk σ2 h2 => .ok .nx (clr h.length σ2) (h2.take h.length)
      | .ok (.ret v) σ2 h2 => .ok (.ret v) σ2 h2
      | .exc e σ2 h2 => .exc e σ2 h2
      | .bad => .bad) else .ok .nx σ h1
/-- as many turns as anything may ask -/
def most : Nat := 10 ^ 30
def sWh (t : SemT) (body : SemS) : SemS := whL t body most
theorem whL_more {t : SemT} {body : SemS} : ∀ (n k : Nat) (σ : Lo) (h : Hs), whL t body n σ h ≠ .bad → whL t body (n + k) σ h = whL t body n σ h
  | 0, k, σ, h, hb => absurd rfl hb
  | n + 1, k, σ, h, hb => by
    rw [show n + 1 + k = (n + k) + 1 by omega, whL, whL]
    rw [whL] at hb
    cases e : t σ h with
    | bad => rfl
    | exc x h1 => rfl
    | ok b h1 =>
      rw [e] at hb
      simp only [sb_ok] at hb ⊢
      cases b with
      | false => rfl
      | true =>
        simp only [if_true] at hb ⊢
        cases e2 : body σ h1 with
        | bad => rfl
        | exc x σ2 h2 => rfl
        | ok f σ2 h2 =>
          rw [e2] at hb
          cases f with
          | nx => exact whL_more n k _ _ hb
          | cnt => exact whL_more n k _ _ hb
          | brk => rfl
          | ret v => rfl
/-- a while comes to an end in n turns -/
theorem sWh_of {t : SemT} {body : SemS} {n : Nat} {σ : Lo} {h : Hs} {r : RS} (e : whL t body n σ h = r) (hr : r ≠ .bad) (hn : n ≤ most) : sWh t body σ h = r := by
  unfold sWh
  obtain ⟨k, hk⟩ : ∃ k, most = n + k := ⟨most - n, by omega⟩
  rw [hk, whL_more n k σ h (by rw [e]; exact hr), e]
section
variable {X : Cx} {ct : CT} {W : WX} {pos : Pos} {c : Expr} {body : List Stmt} {t : SemT} {u : SemS}
theorem rd_while {D : Ends} {σV : L2.St} {H : Hp} (h : rdS X.K ct W (sWh t u) D σV H) : tWhile (rdT X.K ct W t) (rdS X.K ct W u) D σV H := by
  obtain ⟨m, ah, σ, hr, lr, p⟩ := h
  refine ⟨fun n σV H => ∃ m2 h2 σ2, HR X.K ct m2 h2 H ∧ LR X.K ct m2 h2 H σ2 σV ∧ PoS X.K ct W D m2 h2 H (whL t u n σ2 h2), ⟨most, m, ah, σ, hr, lr, p⟩, ?_⟩
  rintro n σV2 H2 ⟨m2, h2, σ2, hr2, l2, p2⟩
  cases n with
  | zero => exact p2.elim
  | succ n =>
    rw [whL] at p2
    refine ⟨m2, h2, σ2, hr2, l2, ?_⟩
    cases e : t σ2 h2 with
    | bad => rw [e] at p2; exact p2.elim
    | exc x h3 => rw [e] at p2; exact fun m3 H3 c d hr3 e3 x3 => p2 m3 H3 σV2 c d hr3 e3 (l2.ext e3) x3
    | ok b h3 =>
      rw [e] at p2
      simp only [sb_ok] at p2
      refine fun m3 H3 b' hr3 e3 r3 => ?_
      subst r3
      cases b with
      | false => exact p2 m3 H3 σV2 hr3 e3 (l2.ext e3)
      | true =>
        refine ⟨fun σV4 H4 => ∃ m4 h4 σ4, HR X.K ct m4 h4 H4 ∧ LR X.K ct m4 h4 H4 σ4 σV4 ∧ PoS X.K ct W D m4 h4 H4 (whL t u n σ4 h4), fun σV4 H4 q => ⟨n, Nat.lt_succ_self _, q⟩, m3, h3, σ2, hr3, l2.ext e3, ?_⟩
        simp only [if_true] at p2
        cases q2 : u σ2 h3 with
        | bad => rw [q2] at p2; exact p2.elim
        | exc e σ5 h5 =>
          rw [q2] at p2
          exact fun m5 H5 σV5 c d hr5 e5 l5 x5 => p2 m5 H5 σV5 c d hr5 (e3.trans e5) l5 x5
        | ok f σ5 h5 =>
          rw [q2] at p2
          cases f with
          | nx =>
            refine fun m5 H5 σV5 hr5 e5 l5 => ?_
            obtain ⟨hr6, e6⟩ := HR.trim' hr2 hr5 (e3.trans e5)
            exact ⟨m2, _, _, hr6, LR.clr hr5 (e3.trans e5) hr2.len l5, PoS.ext p2 e6⟩
          | cnt =>
            refine fun m5 H5 σV5 hr5 e5 l5 => ?_
            obtain ⟨hr6, e6⟩ := HR.trim' hr2 hr5 (e3.trans e5)
            exact ⟨m2, _, _, hr6, LR.clr hr5 (e3.trans e5) hr2.len l5, PoS.ext p2 e6⟩
          | brk =>
            refine fun m5 H5 σV5 hr5 e5 l5 => ?_
            obtain ⟨hr6, e6⟩ := HR.trim' hr2 hr5 (e3.trans e5)
            exact p2 m2 H5 σV5 hr6 e6 (LR.clr hr5 (e3.trans e5) hr2.len l5)
          | ret v => exact fun m5 H5 σV5 hr5 e5 l5 => p2 m5 H5 σV5 hr5 (e3.trans e5) l5
theorem ss_while (hp : PassesOwn (model X.prog X.w) X.A X.env X.xe) (hc : ST X ct W c t) (hb : SSs X ct W body u) : SS X ct W (.While c body [] pos) (sWh t u) := PS.imp (ps_while hp hc hb) fun _ _ _ h => rd_while h
end
end Mi

/-! Mi6: defs and their calls, instances -/
namespace Mi
open PySem PySem.Spec L2

/-! ### calls that know that no repr is under way -/
structure Room (k : Nat) (A : Around) : Prop extends L2.Room k A where
  gd : A.guards = some []
theorem Room.mono {j k : Nat} {A : Around} (r : Room k A) (h : j ≤ k) : Room j A := ⟨r.toRoom.mono h, r.gd⟩
theorem Room.units {k : Nat} {A : Around} (r : Room k A) : A.units + 64 < cLine := r.toRoom.units
theorem Room.units0 {k : Nat} {A : Around} (r : Room k A) : A.units < cLine := r.toRoom.units0
theorem Room.depth {k : Nat} {A : Around} (r : Room k A) : A.depth < recursionLimit := r.toRoom.depth
theorem Room.deeper {k : Nat} {A : Around} (r : Room (k + 1) A) (env : Env) : Room k (A.deeper env) := ⟨r.toRoom.deeper env, r.gd⟩
theorem make_guards {A : Around} {C : Addr} {us : List Value} {kw : List (Str × Value)} (h : A.guards = some []) : (A.under (.builtin "type.__call__" ⟨.ref C :: us, kw⟩)).guards = some [] := by
  show pushGuards (Code.guards (.builtin "type.__call__" ⟨.ref C :: us, kw⟩)) A.guards = some []
  rw [h, show Code.guards (.builtin "type.__call__" ⟨.ref C :: us, kw⟩) = [] by simp [Code.guards, Code.isGuard, guardIds]]
  rfl
theorem Room.make {k : Nat} {A : Around} (r : Room (k + 1) A) (C : Addr) (us : List Value) (kw : List (Str × Value)) : Room k (A.under (.builtin "type.__call__" ⟨.ref C :: us, kw⟩)) := ⟨r.toRoom.make C us kw, make_guards r.gd⟩
structure FnOk (P : Program) (w : World) (K : PySem.W.Frag) (mg : Str → Option Value) (base : Heap) (CX : CXT) (k : Nat) (f : Addr) (fd : FuncData) (ps : List Str) (sp : Sp) : Prop where
  len : ∀ vs H Q E, sp vs H Q E → vs.length = ps.length
  run : ∀ (A : Around) (outer : List Env) (s : Shared) (H : Hp) (args : Args) (us : List Value) (vs : List V) (Q : VK) (E : XK), Room k A → Env0 P w K mg base A outer s H → BindsTo s fd args (ps.zip us) → Vals vs us → sp vs H Q E → codeAny (model P w) A (.call (.ref f) args) (CR CX outer P w H s Q E) s
/-- a def keeps its promise if its body does -/
theorem fun_ok {P : Program} {w : World} {K : PySem.W.Frag} {mg : Str → Option Value} {base : Heap} {x qual : Str} {params : Arguments} {body : List Stmt} {scope : Scope} {dvs : List V} {kws : List (Str × V)} {f : Addr} {fd : FuncData} {CX : CXT} {N ps : List Str} {k : Nat} {sp : Sp}
    (F : FunD K x qual params body scope dvs kws f fd) (S : FnScope N ps scope) (len : ∀ vs H Q E, sp vs H Q E → vs.length = ps.length)
    (hbody : ∀ (cdv : Value) (A : Around) (outer : List Env) (s : Shared) (H : Hp) (vs : List V) (Q : VK) (E : XK), Room k (A.deeper (PyProof.Rows.envOfC qual scope s.heap.objs.size f cdv)) → sp vs H Q E →
      ∃ t, PSs (cxOf CX P w K mg base N qual scope f cdv A outer s H E) body t ∧ t { nx := fun _ H' => Q .non H', rt := Q } (L2.start N vs) H) : FnOk P w K mg base CX (k + 1) f fd ps sp := by
  obtain ⟨oc, od, dV, kV, doc, pm, an, cdv, ct, osl, rfl, lk, hcd, _, _⟩ := F.ex
  refine ⟨len, fun A outer s H args us vs Q E hr e0 hb r hsp => ?_⟩
  have l0 := len _ _ _ _ hsp
  have kin : K.In s.heap := e0.mod.kin.keeps fun b o e => (e0.bs b o e).1
  have nolim : s.heap.NoLimit := e0.mod.nolimit.keeps fun b o e => (e0.bs b o e).1
  have kinds : ∀ y ∈ ps.zip us, scope.names.lookup y.1 = some .local ∨ (scope.names.lookup y.1 = some .cell ∧ ((cellsFrom (s.heap.objs.size + 1) scope.names []).lookup y.1).isSome = true) := fun ⟨n, v⟩ hy =>
    (S.par n (List.of_mem_zip hy).1).imp id fun q => ⟨q, PySem.W.cellsFrom_some _ _ _ (.inl q)⟩
  refine codeAny_call_function hr.depth (kin _ _ lk) rfl S.co S.gen rfl (PySem.W.codeRec_of kin hcd) (hb _ _ _ _ (wpAny_newFunctionEnv_cells S.kind kinds fun env he s1 y => ?_))
  subst he
  refine ⟨nolim.keeps y.toInCall.keep, codeAny_func ?_⟩
  obtain ⟨t, ht, hq⟩ := hbody cdv A outer s H vs Q E (hr.deeper _) hsp
  have I0 : Inv (cxOf CX P w K mg base N qual scope f cdv A outer s H E) [] (L2.start N vs) H s1 := inv_start S hr.hd e0 l0 r y
  refine wpAny_mono (ht.run [] s1 (L2.start N vs) H _ I0 hq) (fun fl s' z => ?_) fun e s' z => z
  have done : ∀ {σ' : L2.St} {H' : Hp} {v : V} {u : Value}, Inv (cxOf CX P w K mg base N qual scope f cdv A outer s H E) [] σ' H' s' → RelV v u → Q v H' → CE outer P w H s Q u s' := fun {σ' H' v u} J rv q => ⟨v, H', J.os, J.bare, J.base, J.hok, rv, q⟩
  cases fl with
  | ret u => obtain ⟨v, σ', H', J, rv, q⟩ := z; exact done J rv q
  | next => obtain ⟨σ', H', J, q⟩ := z; exact done (v := V.non) (u := Value.none) J rfl q
  | brk => obtain ⟨_, _, _, q⟩ := z; exact q.elim
  | cont => obtain ⟨_, _, _, q⟩ := z; exact q.elim
theorem run_fnG {X : Cx} {CX : CXT} {k : Nat} {f : Addr} {fd : FuncData} {ps : List Str} {sp : Sp} {dvs : List V} {ds : List Value} {E : L2.St → XK} {pins : List (Addr × Obj)} {σ : L2.St} {H : Hp} {s : Shared} {Q : VK} {us : List Value} {vs : List V}
    (F : FnOk X.prog X.w X.K X.mg X.base CX k f fd ps sp) (hr : Room k X.A) (hb : Binds X.K fd ps ds) (hd : Vals dvs ds) (hx : PassesAt CX X σ (E σ)) (I : Inv X pins σ H s) (r : Vals vs us) (h : sp (vs ++ dvs) H Q (E σ)) : wpAny (model X.prog X.w) X.A (PySem.call (.ref f) us) (EP X pins σ Q) X.xe s := by
  have r2 : Vals (vs ++ dvs) (us ++ ds) := r.append hd
  have l2 : (us ++ ds).length = ps.length := by rw [← r2.length]; exact F.len _ _ _ _ h
  refine wpAny_call (codeAny_mono (F.run X.A X.stack s H ⟨us, []⟩ (us ++ ds) (vs ++ dvs) Q (E σ) hr I.env0 (hb s us I.kIn l2) r2 h) fun r s' q => ?_)
  cases r with
  | error e => exact hx pins H s e s' I q
  | ok fl => cases fl <;> first | exact I.after q | exact False.elim q

abbrev CallT := Nat → List Vl → Hs → Res Vl
structure MDef where
  np : Nat
  ns : Nat
  keep : Bool
  body : CallT → SemS
def startL (n : Nat) (xs : List Vl) : Lo := xs.map some ++ List.replicate (n - xs.length) none
/-- what a def hands back: data, or (keep) the changeable object itself -/
def retV (keep : Bool) (n0 : Nat) (v : Vl) (h : Hs) : Res Vl := match keep with
  | false => (match toD v h with
    | some (d, h') => .ok (.d d) (h'.take n0)
    | none => .bad)
  | true => (match v with
    | .d x => .ok (.d x) (h.take n0)
    | .r k => if k < n0 then .ok (.r k) (h.take n0) else (match h[k]? with
      | some o => .ok (.r n0) (h.take n0 ++ [o])
      | none => .bad))
def fin (keep : Bool) (n0 : Nat) (r : RS) : Res Vl := match r with
  | .ok .nx _ h => .ok (.d .non) (h.take n0)
  | .ok (.ret v) _ h => retV keep n0 v h
  | .exc e _ h => .exc e (h.take n0)
  | _ => .bad
def runD (md : MDef) (call : CallT) (xs : List Vl) (h : Hs) : Res Vl := if xs.length = md.np then fin md.keep h.length (md.body call (startL md.ns xs) h) else .bad
def callF (defs : List MDef) : Nat → CallT
  | 0 => fun _ _ _ => .bad
  | n + 1 => fun i xs h => match defs[i]? with
    | none => .bad
    | some md => runD md (callF defs n) xs h
theorem callF_len {defs : List MDef} {n i : Nat} {xs : List Vl} {h : Hs} {md : MDef} (hd : defs[i]? = some md) (hb : callF defs n i xs h ≠ .bad) : xs.length = md.np := by
  cases n with
  | zero => exact absurd rfl hb
  | succ n =>
    unfold callF at hb
    rw [hd] at hb
    dsimp only at hb
    unfold runD at hb
    by_cases e : xs.length = md.np
    · exact e
    · rw [if_neg e] at hb; exact absurd rfl hb
/-- what a caller is promised of def i -/
def spC (K : PySem.W.Frag) (ct : CT) (call : CallT) (i : Nat) : Sp := fun vs H Q E => ∃ m ah xs, HR K ct m ah H ∧ VlRs K ct m ah H xs vs ∧ Po K ct (fun c d _ H' => E c d H') [] (VlR K ct) m ah H (call i xs ah) Q

section
variable {K : PySem.W.Frag} {ct : CT} {W : WX} {m m' : List Addr} {ah ah' : Hs} {H H' : Hp}
theorem LR.start {xs : List Vl} {vs : List V} {N : List Str} (r : VlRs K ct m ah H xs vs) (hl : xs.length ≤ N.length) : LR K ct m ah H (startL N.length xs) (L2.start N vs) := by
  have hv : xs.length = vs.length := r.length
  unfold startL L2.start
  refine ⟨by simp [hv], fun i x hx => ?_⟩
  by_cases hi : i < xs.length
  · rw [List.getElem?_append_left (by simpa using hi), List.getElem?_map] at hx
    rw [List.getElem?_append_left (by simpa [← hv] using hi), List.getElem?_map]
    have get : ∀ {xs : List Vl} {vs : List V} {i : Nat} {x : Vl}, VlRs K ct m ah H xs vs → xs[i]? = some x → ∃ v, vs[i]? = some v ∧ VlR K ct m ah H x v := by
      intro xs vs i x r
      induction r generalizing i with
      | nil => intro e; simp at e
      | cons r t ih =>
        intro e
        cases i with
        | zero => simp at e; subst e; exact ⟨_, rfl, r⟩
        | succ i => simpa using ih (i := i) (by simpa using e)
    cases q : xs[i]? with
    | none => rw [q] at hx; cases hx
    | some y =>
      rw [q] at hx; cases hx
      obtain ⟨v, h1, h2⟩ := get r q
      exact ⟨v, by rw [h1]; rfl, h2⟩
  · rw [List.getElem?_append_right (by simpa using hi)] at hx
    rw [List.getElem?_replicate] at hx
    split at hx <;> cases hx
theorem fin_sound {keep : Bool} {E : XK} {r : RS} {Q : VK} (hr0 : HR K ct m ah H) (p : Po K ct (fun c d _ H' => E c d H') [] (VlR K ct) m ah H (fin keep ah.length r) Q) :
    PoS K ct (fun c d _ H' => E c d H') { nx := fun _ H' => Q .non H', rt := Q } m ah H r := by
  cases r with
  | bad => exact p
  | exc e σ h =>
    refine fun m1 H1 σV c d hr ex lr x => ?_
    obtain ⟨hr2, ex2⟩ := HR.trim' hr0 hr ex
    refine p m H1 c d hr2 ex2 ?_
    obtain ⟨x1, vs, x2, x3⟩ := x
    have kp := (hr.trim m.length).2
    obtain ⟨t, rfl⟩ := ex.pre
    rw [List.take_left' rfl, hr0.len] at kp
    exact ⟨x1, vs, x2.mono kp, x3.imp id fun ⟨dx, y1, y2, y3⟩ => ⟨dx, y1, (kp _ _ y2 y3).1, (kp _ _ y2 y3).2⟩⟩
  | ok f σ h =>
    cases f with
    | brk => exact p.elim
    | cnt => exact p.elim
    | nx =>
      refine fun m1 H1 σV hr ex lr => ?_
      obtain ⟨hr2, ex2⟩ := HR.trim' hr0 hr ex
      exact p m H1 .non hr2 ex2 .non
    | ret v =>
      refine fun m1 H1 σV hr ex lr u ru => ?_
      obtain ⟨hr2, ex2⟩ := HR.trim' hr0 hr ex
      have kp := (hr.trim m.length).2
      obtain ⟨t, et⟩ := ex.pre
      rw [et, List.take_left' rfl, hr0.len, ← et] at kp
      unfold fin retV at p
      cases keep with
      | false =>
        dsimp only at p
        cases e : toD v h with
        | none => rw [e] at p; exact p.elim
        | some q =>
          obtain ⟨d, h1⟩ := q
          rw [e] at p
          obtain ⟨hr3, ex3, r3⟩ := toD_sound hr e ru
          obtain ⟨hr4, ex4⟩ := HR.trim' hr0 hr3 (ex.trans ex3)
          have kp2 := (hr3.trim m.length).2
          rw [et, List.take_left' rfl, hr0.len, ← et] at kp2
          exact p m H1 u hr4 ex4 (DR.mono kp2 r3)
      | true =>
        dsimp only at p
        cases v with
        | d x => exact p m H1 u hr2 ex2 (DR.mono kp ru)
        | r k =>
          obtain ⟨a, ha, rfl⟩ := ru
          dsimp only at p
          split at p
          · rename_i hk
            refine p m H1 (.ref a) hr2 ex2 ⟨a, ?_, rfl⟩
            rw [et, List.getElem?_append_left (by rw [hr0.len]; exact hk)] at ha
            exact ha
          · rename_i hk
            obtain ⟨o, w, e2, hw, ow⟩ := hr.there ha
            rw [e2] at p
            dsimp only at p
            -- the new object, known at the end of the caller's
            have hm1 : ∀ (j : Nat) (b : Addr), m[j]? = some b → m1[j]? = some b := fun j b hb => ex.at hb
            have nin : ∀ j : Nat, m[j]? ≠ some a := fun j hj => by
              have := hr.inj _ _ _ (hm1 j a hj) ha
              have hj2 := (List.getElem?_eq_some_iff.mp hj).1
              rw [hr0.len] at hj2
              omega
            have lt : (h.take ah.length).length = m.length := by rw [← hr2.len]
            have lv : ∀ b, Lv (m ++ [a]) (h.take ah.length ++ [o]) b → Lv m1 h b := fun b ⟨j, q, f1, f2, f3⟩ => by
              by_cases hj : j < m.length
              · rw [List.getElem?_append_left hj] at f1
                rw [List.getElem?_append_left (by rw [lt]; exact hj), List.getElem?_take, if_pos (by rw [← hr0.len]; exact hj)] at f2
                exact ⟨j, q, hm1 j b f1, f2, f3⟩
              · rw [List.getElem?_append_right (by omega)] at f1
                rw [List.getElem?_append_right (by rw [lt]; omega), lt] at f2
                have z : j - m.length = 0 := by
                  have := (List.getElem?_eq_some_iff.mp f1).1
                  simpa using this
                rw [z] at f1 f2
                have f1' : a = b := by simpa using f1
                have f2' : o = q := by simpa using f2
                subst f1' f2'
                exact ⟨k, o, ha, e2, f3⟩
            have kp3 : Kp (Sf m1 h) H1 (Sf (m ++ [a]) (h.take ah.length ++ [o])) H1 := fun b q e s => ⟨e, fun l => s (lv b l)⟩
            have hr5 : HR K ct (m ++ [a]) (h.take ah.length ++ [o]) H1 := by
              refine ⟨by rw [List.length_append, List.length_append, lt]; rfl, fun i j b f1 f2 => ?_, fun j b q f1 f2 => ?_⟩
              · by_cases hi : i < m.length
                · rw [List.getElem?_append_left hi] at f1
                  by_cases hj : j < m.length
                  · rw [List.getElem?_append_left hj] at f2
                    exact hr0.inj _ _ _ f1 f2
                  · rw [List.getElem?_append_right (by omega)] at f2
                    have z : j - m.length = 0 := by
                      have := (List.getElem?_eq_some_iff.mp f2).1
                      simpa using this
                    rw [z] at f2
                    have : a = b := by simpa using f2
                    subst this
                    exact absurd f1 (nin i)
                · rw [List.getElem?_append_right (by omega)] at f1
                  have z : i - m.length = 0 := by
                    have := (List.getElem?_eq_some_iff.mp f1).1
                    simpa using this
                  rw [z] at f1
                  have : a = b := by simpa using f1
                  subst this
                  by_cases hj : j < m.length
                  · rw [List.getElem?_append_left hj] at f2
                    exact absurd f2 (nin j)
                  · have := (List.getElem?_eq_some_iff.mp f2).1
                    rw [List.length_append, List.length_singleton] at this
                    omega
              · by_cases hj : j < m.length
                · rw [List.getElem?_append_left hj] at f1
                  rw [List.getElem?_append_left (by rw [lt]; exact hj), List.getElem?_take, if_pos (by rw [← hr0.len]; exact hj)] at f2
                  obtain ⟨v, g1, g2⟩ := hr.ob j b q (hm1 j b f1) f2
                  exact ⟨v, g1, g2.mono kp3⟩
                · rw [List.getElem?_append_right (by omega)] at f1
                  rw [List.getElem?_append_right (by rw [lt]; omega), lt] at f2
                  have z : j - m.length = 0 := by
                    have := (List.getElem?_eq_some_iff.mp f1).1
                    simpa using this
                  rw [z] at f1 f2
                  have f1' : a = b := by simpa using f1
                  have f2' : o = q := by simpa using f2
                  subst f1' f2'
                  exact ⟨w, hw, ow.mono kp3⟩
            refine p (m ++ [a]) H1 (.ref a) hr5 ⟨⟨[a], rfl⟩, ex.kp.trans kp3⟩ ⟨a, ?_, rfl⟩
            rw [← hr0.len, List.getElem?_append_right (Nat.le_refl _), Nat.sub_self]; rfl
end

/-! ### all defs keep their promises -/
/-- one def: where it stands, its names, its parameters -/
structure Fn where
  f : Addr
  fd : FuncData
  ps : List Str
structure CallOk (P : Program) (w : World) (K : PySem.W.Frag) (mg : Str → Option Value) (base : Heap) (ct : CT) (fns : List Fn) (call : CallT) (n : Nat) : Prop where
  ok : ∀ (i : Nat) F, fns[i]? = some F → FnOk P w K mg base (L2.CX P w) (2 * n + 1) F.f F.fd F.ps (spC K ct call i)
/-- one def's body means what its MDef says -/
structure BodyOk (P : Program) (w : World) (K : PySem.W.Frag) (mg : Str → Option Value) (base : Heap) (ct : CT) (fns : List Fn) (F : Fn) (md : MDef) : Prop where
  ex : ∃ (x qual : Str) (params : Arguments) (body : List Stmt) (scope : Scope) (dvs : List V) (kws : List (Str × V)) (N : List Str), FunD K x qual params body scope dvs kws F.f F.fd ∧ FnScope N F.ps scope ∧ F.ps.length = md.np ∧ N.length = md.ns ∧ md.np ≤ md.ns ∧
    ∀ (call : CallT) (n : Nat), CallOk P w K mg base ct fns call n → ∀ (cdv : Value) (A : Around) (outer : List Env) (s : Shared) (H : Hp) (E : XK), Room (2 * n + 2) (A.deeper (PyProof.Rows.envOfC qual scope s.heap.objs.size F.f cdv)) →
      SSs (cxOf (L2.CX P w) P w K mg base N qual scope F.f cdv A outer s H E) ct (fun c d _ H' => E c d H') body (md.body call)
theorem all_ok {P : Program} {w : World} {K : PySem.W.Frag} {mg : Str → Option Value} {base : Heap} {ct : CT} {fns : List Fn} {defs : List MDef} (hl : fns.length = defs.length)
    (hb : ∀ (i : Nat) F md, fns[i]? = some F → defs[i]? = some md → BodyOk P w K mg base ct fns F md) : ∀ n, CallOk P w K mg base ct fns (callF defs n) n
  | 0 => ⟨fun i F _ => ⟨fun vs H Q E ⟨_, _, _, _, _, p⟩ => p.elim, fun A outer s H args us vs Q E hr e0 hb r ⟨_, _, _, _, _, p⟩ => p.elim⟩⟩
  | n + 1 => ⟨fun i F hF => by
    have hi : i < defs.length := by rw [← hl]; exact (List.getElem?_eq_some_iff.mp hF).1
    have hd : defs[i]? = some defs[i] := List.getElem?_eq_getElem hi
    obtain ⟨x, qual, params, body, scope, dvs, kws, N, FD, sc, e1, e2, e3, hB⟩ := (hb i F _ hF hd).ex
    have ih := all_ok hl hb n
    have len : ∀ {xs : List Vl} {h : Hs}, callF defs (n + 1) i xs h ≠ .bad → xs.length = F.ps.length := fun q => by rw [e1]; exact callF_len hd q
    have nb : ∀ {K : PySem.W.Frag} {W : WX} {m : List Addr} {ah : Hs} {H : Hp} {Q : VK} {r : Res Vl}, Po K ct W [] (VlR K ct) m ah H r Q → r ≠ .bad := fun p e => by subst e; exact p
    refine fun_ok (k := 2 * n + 2) FD sc (fun vs H Q E ⟨m, ah, xs, hr, rs, p⟩ => by rw [← rs.length]; exact len (nb p)) fun cdv A outer s H vs Q E hr ⟨m, ah, xs, h1, rs, p⟩ => ?_
    have hx : xs.length = defs[i].np := callF_len hd (nb p)
    unfold callF at p
    rw [hd] at p
    dsimp only at p
    unfold runD at p
    rw [if_pos hx] at p
    refine ⟨_, hB (callF defs n) n ih cdv A outer s H E hr, m, ah, startL defs[i].ns xs, h1, ?_, fin_sound h1 p⟩
    rw [← e2]
    exact LR.start rs (by omega)⟩

/-! ### calls -/
def eCl (call : CallT) (i : Nat) (ds : List D) (fs : SemA) : SemE := fun σ h => rb (fs σ h) fun xs h1 => call i (xs ++ ds.map Vl.d) h1
theorem VlRs.append {K : PySem.W.Frag} {ct : CT} {m : List Addr} {ah : Hs} {H : Hp} : ∀ {xs vs ys ws}, VlRs K ct m ah H xs vs → VlRs K ct m ah H ys ws → VlRs K ct m ah H (xs ++ ys) (vs ++ ws)
  | _, _, _, _, .nil, s => s
  | _, _, _, _, .cons r t, s => .cons r (VlRs.append t s)
/-- the defaults that fill up: data that stands in no heap -/
def Dfl (K : PySem.W.Frag) (ct : CT) (ds : List D) (dvs : List V) : Prop := ∀ m ah H, VlRs K ct m ah H (ds.map Vl.d) dvs
theorem Dfl.nil {K : PySem.W.Frag} {ct : CT} : Dfl K ct [] [] := fun _ _ _ => .nil
theorem Po.stil {α β : Type} {K : PySem.W.Frag} {ct : CT} {W : WX} {σV : L2.St} {R : List Addr → Hs → Hp → α → β → Prop} {m : List Addr} {ah : Hs} {H : Hp} {r : Res α} {Q : β → Hp → Prop} (p : Po K ct W σV R m ah H r Q) : Po K ct (fun c d _ H' => W c d σV H') [] R m ah H r Q := by
  cases r with
  | ok x h => exact p
  | exc x h => exact p
  | bad => exact p
section
variable {X : Cx} {ct : CT} {W : WX} {pos p apos : Pos} {e o : Expr} {es : List Expr} {f : SemE} {fs : SemA} {call : CallT} {n i : Nat} {F : Fn} {x : Str} {ds : List D} {dvs : List V} {dus : List Value} {fns : List Fn}
theorem run_cl {pins : List (Addr × Obj)} {σ : L2.St} {H : Hp} {s : Shared} {Q : VK} {us : List Value} {vs : List V} (co : CallOk X.prog X.w X.K X.mg X.base ct fns call n) (hF : fns[i]? = some F) (hr : Room (2 * n + 1) X.A) (hb : Binds X.K F.fd F.ps dus) (hd : Vals dvs dus) (tk : Takes X W)
    (I : Inv X pins σ H s) (r : Vals vs us) (h : spC X.K ct call i (vs ++ dvs) H Q (WE W σ)) : wpAny (model X.prog X.w) X.A (PySem.call (.ref F.f) us) (EP X pins σ Q) X.xe s :=
  run_fnG (E := WE W) (co.ok i F hF) hr hb hd (passAt tk σ) I r h
theorem se_call (co : CallOk X.prog X.w X.K X.mg X.base ct fns call n) (tk : Takes X W) (hr : Room (2 * n + 1) X.A) (hF : fns[i]? = some F) (hg : Gl X x) (hm : X.mg x = some (.ref F.f)) (hk : PySem.W.keepIn X.K (.ref F.f) = true) (hb : Binds X.K F.fd F.ps dus) (hd : Vals dvs dus) (hq : Dfl X.K ct ds dvs)
    (ha : SA X ct W (e :: es) fs) (hdb : (x == ("__debug__" : Str)) = false := by decide) (he : starEach (e :: es) X.env = (false, eval e X.env) :: starEach es X.env := by rfl) (hpl : (backTo pos (starEach es X.env)).any (·.1) = false := by rfl) :
    SE X ct W (.Call (.Name x p) (e :: es) [] pos) (eCl call i ds fs) := by
  refine ⟨fun pins s σV H Q I ⟨m, ah, σ, hr0, lr, p⟩ => ?_⟩
  refine wpAny_Call_Name_kw (ld_glob I hg hm ?_ hdb)
  refine PySem.W.callWith_K (h₀ := X.base) I.ok.mod.kin hk (thn (ha.run pos pins s σV H _ I ⟨m, ah, σ, hr0, lr, Po.bind (R := VlRs X.K ct) p⟩) fun us s1 ⟨vs, H1, I1, r, m1, h1, xs, hr1, e1, r1, p1⟩ => ⟨I1.kIn, ?_⟩) he hpl
  exact run_cl co hF hr hb hd tk I1 r ⟨m1, h1, _, hr1, r1.append (hq _ _ _), Po.stil p1⟩
theorem se_call0 (co : CallOk X.prog X.w X.K X.mg X.base ct fns call n) (tk : Takes X W) (hr : Room (2 * n + 1) X.A) (hF : fns[i]? = some F) (hg : Gl X x) (hm : X.mg x = some (.ref F.f)) (hk : PySem.W.keepIn X.K (.ref F.f) = true) (hb : Binds X.K F.fd F.ps dus) (hd : Vals dvs dus) (hq : Dfl X.K ct ds dvs)
    (hdb : (x == ("__debug__" : Str)) = false := by decide) : SE X ct W (.Call (.Name x p) [] [] pos) (eCl call i ds aNil) := by
  refine ⟨fun pins s σV H Q I ⟨m, ah, σ, hr0, lr, p⟩ => ?_⟩
  refine wpAny_Call_Name_kw (ld_glob I hg hm ?_ hdb)
  refine PySem.W.callWith_K0 I.kIn hk ?_
  exact run_cl (us := []) (vs := []) co hF hr hb hd tk I .nil ⟨m, ah, _, hr0, VlRs.append .nil (hq _ _ _), Po.stil p⟩
/-- the instance behind a value -/
def insOf (x : Vl) (h : Hs) : Option (Nat × List (Nat × D)) := match x with
  | .d (.ins C fs) => some (C, fs)
  | .r k => (match h[k]? with
    | some (.ins C fs) => some (C, fs)
    | _ => none)
  | _ => none
theorem ins_of {K : PySem.W.Frag} {m : List Addr} {ah : Hs} {H : Hp} (h : HR K ct m ah H) {x : Vl} {C : Nat} {fs : List (Nat × D)} {v : V} (e : insOf x ah = some (C, fs)) (r : VlR K ct m ah H x v) : ∃ a dx vs, v = .ref a ∧ H a = some (.ins (ct.ca C) dx vs) ∧ DRf K ct (Sf m ah) H fs vs := by
  unfold insOf at e
  split at e
  · cases e
    cases r with
    | ins h1 _ h2 => exact ⟨_, _, _, rfl, h1, h2⟩
  · rename_i k
    split at e
    · rename_i C' fs' hk
      cases e
      obtain ⟨a, h1, rfl⟩ := r
      obtain ⟨u, h2, h3⟩ := h.ob k a _ h1 hk
      cases h3 with
      | ins t => exact ⟨a, _, _, rfl, h2, t⟩
    · cases e
  · cases e
theorem lookup_drf {K : PySem.W.Frag} {S : Addr → Prop} {H : Hp} {n : Nat} : ∀ {fs : List (Nat × D)} {vs : List (Str × V)}, DRf K ct S H fs vs → (∀ d, fs.lookup n = some d → ∃ v, vs.lookup (ct.nm n) = some v ∧ DR K ct S H d v) ∧ (fs.lookup n = none → vs.lookup (ct.nm n) = none)
  | _, _, .nil => ⟨fun d e => (by cases e), fun _ => rfl⟩
  | _, _, .cons (n := k) (d := d0) (v := v0) r t => by
    obtain ⟨i1, i2⟩ := lookup_drf (n := n) t
    by_cases q : n = k
    · subst q
      have b1 : (n == n) = true := beq_self_eq_true n
      have b2 : (ct.nm n == ct.nm n) = true := beq_self_eq_true _
      refine ⟨fun d e => ?_, fun e => ?_⟩
      · simp only [List.lookup, b1] at e
        cases e
        exact ⟨_, by simp only [List.lookup, b2], r⟩
      · simp only [List.lookup, b1] at e
        cases e
    · have b1 : (n == k) = false := beq_eq_false_iff_ne.mpr q
      have b2 : (ct.nm n == ct.nm k) = false := beq_eq_false_iff_ne.mpr fun z => q (ct.inj _ _ z)
      refine ⟨fun d e => ?_, fun e => ?_⟩
      · simp only [List.lookup, b1] at e
        obtain ⟨v, h1, h2⟩ := i1 d e
        exact ⟨v, by simp only [List.lookup, b2]; exact h1, h2⟩
      · simp only [List.lookup, b1] at e
        simp only [List.lookup, b2]; exact i2 e
theorem lookup_none {K : PySem.W.Frag} {S : Addr → Prop} {H : Hp} {mm : Str} (hn : ∀ n, ct.nm n ≠ mm) : ∀ {fs : List (Nat × D)} {vs : List (Str × V)}, DRf K ct S H fs vs → vs.lookup mm = none
  | _, _, .nil => rfl
  | _, _, .cons (n := k) r t => by
    have b : (mm == ct.nm k) = false := beq_eq_false_iff_ne.mpr fun z => hn k z.symm
    simp only [List.lookup, b]
    exact lookup_none hn t
def putN (n : Nat) (d : D) : List (Nat × D) → List (Nat × D)
  | [] => [(n, d)]
  | (k, x) :: r => if k = n then (k, d) :: r else (k, x) :: putN n d r
theorem putN_drf {K : PySem.W.Frag} {S : Addr → Prop} {H : Hp} {n : Nat} {d : D} {v : V} (r : DR K ct S H d v) : ∀ {fs : List (Nat × D)} {vs : List (Str × V)}, DRf K ct S H fs vs → DRf K ct S H (putN n d fs) (putF (ct.nm n) v vs)
  | _, _, .nil => .cons r .nil
  | _, _, .cons (n := k) r0 t => by
    unfold putN putF
    by_cases q : k = n
    · subst q
      rw [if_pos rfl, if_pos rfl]
      exact .cons r t
    · rw [if_neg q, if_neg fun z => q (ct.inj _ _ z)]
      exact .cons r0 (putN_drf r t)
/-- e.f -/
def eFd (ok : Nat → Bool) (n : Nat) (f : SemE) : SemE := fun σ h => rb (f σ h) fun x h1 => match insOf x h1 with
  | some (C, fs) => if ok C = true then (match fs.lookup n with
    | some d => .ok (.d d) h1
    | none => .bad) else .bad
  | none => .bad
theorem se_fld {ok : Nat → Bool} {k : Nat} {fl : Str} (he : SE X ct W e f) (hf : ct.nm k = fl) (hok : ∀ C, ok C = true → Cls X.K (ct.ca C) ∧ NoAttr X.K (ct.ca C) fl) (hb : attributeBase e fl X.env (eval e X.env) = eval e X.env := by rfl) : SE X ct W (.Attribute e fl pos) (eFd ok k f) := by
  subst hf
  exact PE.imp (pe_fld he hb) fun σV H Q ⟨m, ah, σ, hr, lr, p⟩ => ⟨m, ah, σ, hr, lr, (Po.bind (R := VlR X.K ct) p).imp fun v H1 ⟨m1, h1, x, hr1, e1, r1, p1⟩ => by
    dsimp only at p1
    cases q : insOf x h1 with
    | none => rw [q] at p1; exact p1.elim
    | some z =>
      obtain ⟨C, fs⟩ := z
      rw [q] at p1
      dsimp only at p1
      split at p1
      · rename_i hc
        obtain ⟨a, dx, vs, rfl, h2, r2⟩ := ins_of hr1 q r1
        cases q2 : fs.lookup k with
        | none => rw [q2] at p1; exact p1.elim
        | some d =>
          rw [q2] at p1
          obtain ⟨v, h3, r3⟩ := (lookup_drf r2).1 d q2
          exact ⟨a, _, dx, vs, v, rfl, h2, (hok C hc).1, (hok C hc).2, h3, p1 m1 H1 v hr1 (Ext.refl _ _ _) r3⟩
      · exact p1.elim⟩
/-- self.f = e -/
def sFd (ok : Nat → Bool) (n : Nat) (f : SemE) (g : SemE) : SemS := fun σ h => sb (g σ h) σ fun y h1 => match toD y h1 with
  | none => .bad
  | some (d, h2) => sb (f σ h2) σ fun x h3 => match x with
    | .r k => (match h3[k]? with
      | some (.ins C fs) => if ok C = true ∧ fs.length < 900 then .ok .nx σ (h3.set k (.ins C (putN n d fs))) else .bad
      | _ => .bad)
    | _ => .bad
theorem ss_fld {ok : Nat → Bool} {k : Nat} {fl : Str} {g : SemE} {pos' : Pos} (he : SE X ct W o f) (hv : SE X ct W e g) (hf : ct.nm k = fl) (hok : ∀ C, ok C = true → Cls X.K (ct.ca C) ∧ NoAttr X.K (ct.ca C) fl)
    (hs : swapsWith e (some (.Attribute o fl pos')) pos.line X.env = pure false := by rfl) : SS X ct W (.Assign [.Attribute o fl pos'] e pos) (sFd ok k f g) := by
  subst hf
  exact PS.imp (ps_fld he hv hs) fun D σV H ⟨m, ah, σ, hr, lr, p⟩ => ⟨m, ah, σ, hr, lr, (PoS.bind (R := VlR X.K ct) lr p).imp fun y H1 ⟨m1, h1, y', hr1, e1, r1, p1⟩ => by
    dsimp only at p1
    cases q : toD y' h1 with
    | none => rw [q] at p1; exact p1.elim
    | some z =>
      obtain ⟨d, h2⟩ := z
      rw [q] at p1
      dsimp only at p1
      obtain ⟨hr2, e2, r2⟩ := toD_sound hr1 q r1
      have l2 := (lr.ext e1).ext e2
      refine ⟨m1, h2, σ, hr2, l2, (PoS.bind (R := VlR X.K ct) l2 (PoS.ext (r := sb (f σ h2) σ fun x h3 => _) p1 e2)).imp fun x H2 ⟨m3, h3, x', hr3, e3, r3, p3⟩ => ?_⟩
      dsimp only at p3
      split at p3
      · rename_i k0
        split at p3
        · rename_i C fs hk
          split at p3
          · rename_i hc
            obtain ⟨a, ha, rfl⟩ := r3
            obtain ⟨u, h4, h5⟩ := hr3.ob k0 a _ ha hk
            cases h5 with
            | ins t =>
              have t2 := putN_drf (n := k) (r2.mono e3.kp) t
              obtain ⟨hr6, e6⟩ := hr3.write ha hk (by simp) (OR.ins t2)
              refine ⟨a, _, _, _, rfl, h4, (hok C hc.1).1, (hok C hc.1).2, by rw [← t.length]; exact Nat.lt_trans hc.2 (by decide), ?_⟩
              exact p3 m3 _ σV hr6 e6 ((l2.ext e3).ext e6)
          · exact p3.elim
        · exact p3.elim
      · exact p3.elim⟩
/-- o.m(..) of an instance of class C -/
def eMe (call : CallT) (i C : Nat) (ds : List D) (f : SemE) (fs : SemA) : SemE := fun σ h => rb (f σ h) fun x h1 => match insOf x h1 with
  | some (C', _) => if C' = C then rb (fs σ h1) fun xs h2 => call i (x :: (xs ++ ds.map Vl.d)) h2 else .bad
  | none => .bad
theorem se_meth {mm : Str} {C : Nat} {pl : Sem Bool} (co : CallOk X.prog X.w X.K X.mg X.base ct fns call n) (tk : Takes X W) (hr : Room (2 * n + 1) X.A) (hF : fns[i]? = some F) (he : SE X ct W o f) (c : Cls X.K (ct.ca C)) (hm : Meth X.K (ct.ca C) mm F.f) (hn : ∀ n, ct.nm n ≠ mm)
    (hb : Binds X.K F.fd F.ps dus) (hd : Vals dvs dus) (hq : Dfl X.K ct ds dvs) (ha : SA X ct W (e :: es) fs)
    (hst : starEach (e :: es) X.env = (false, eval e X.env) :: starEach es X.env := by rfl) (hpl : (backTo pos (starEach es X.env)).any (·.1) = false := by rfl)
    (ht : eval (.Call (.Attribute o mm apos) (e :: es) [] pos) X.env = (do
      let ov ← eval o X.env
      standAt apos.atName
      let (f, first) ← holding [ov] (getMethod ov mm pl)
      callWith pos f first (backTo pos (starEach (e :: es) X.env)) (backToKw pos (keywordEach [] X.env))) := by rfl) :
    SE X ct W (.Call (.Attribute o mm apos) (e :: es) [] pos) (eMe call i C ds f fs) := by
  refine ⟨fun pins s σV H Q I ⟨m, ah, σ, hr0, lr, p⟩ => ?_⟩
  refine PySem.W.methodCall_KW (pl := pl) (thn (he.run pins s σV H _ I ⟨m, ah, σ, hr0, lr, Po.bind (R := VlR X.K ct) p⟩) fun u s1 ⟨v, H1, I1, rx, m1, h1, x, hr1, e1, r1, p1⟩ => ?_) ht
  dsimp only at p1
  cases q : insOf x h1 with
  | none => rw [q] at p1; exact p1.elim
  | some z =>
    obtain ⟨C', fl⟩ := z
    rw [q] at p1
    dsimp only at p1
    split at p1
    · rename_i hC
      subst hC
      obtain ⟨a, dx, vs, rfl, h2, r2⟩ := ins_of hr1 q r1
      obtain rfl : u = Value.ref a := rx
      refine getmeth_ok I1 h2 c hm (lookup_none hn r2) ?_
      refine PySem.W.callWith_K (first := [.ref a]) (h₀ := X.base) I.ok.mod.kin hm.kp (thn (ha.run pos pins s1 σV H1 _ I1 ⟨m1, h1, σ, hr1, lr.ext e1, Po.bind (R := VlRs X.K ct) p1⟩) fun us s2 ⟨ws, H2, I2, r, m2, h2', xs, hr2, e2, r3, p2⟩ => ⟨I2.kIn, ?_⟩) hst hpl
      exact run_cl (us := .ref a :: us) (vs := .ref a :: ws) co hF hr hb hd tk I2 (.cons rfl r) ⟨m2, h2', _, hr2, .cons (r1.ext e2) (r3.append (hq _ _ _)), Po.stil p2⟩
    · exact p1.elim
theorem se_meth0 {mm : Str} {C : Nat} {pl : Sem Bool} (co : CallOk X.prog X.w X.K X.mg X.base ct fns call n) (tk : Takes X W) (hr : Room (2 * n + 1) X.A) (hF : fns[i]? = some F) (he : SE X ct W o f) (c : Cls X.K (ct.ca C)) (hm : Meth X.K (ct.ca C) mm F.f) (hn : ∀ n, ct.nm n ≠ mm)
    (hb : Binds X.K F.fd F.ps dus) (hd : Vals dvs dus) (hq : Dfl X.K ct ds dvs)
    (ht : eval (.Call (.Attribute o mm apos) [] [] pos) X.env = (do
      let ov ← eval o X.env
      standAt apos.atName
      let (f, first) ← holding [ov] (getMethod ov mm pl)
      callWith pos f first (backTo pos (starEach [] X.env)) (backToKw pos (keywordEach [] X.env))) := by rfl) :
    SE X ct W (.Call (.Attribute o mm apos) [] [] pos) (eMe call i C ds f aNil) := by
  refine ⟨fun pins s σV H Q I ⟨m, ah, σ, hr0, lr, p⟩ => ?_⟩
  refine PySem.W.methodCall_KW (pl := pl) (thn (he.run pins s σV H _ I ⟨m, ah, σ, hr0, lr, Po.bind (R := VlR X.K ct) p⟩) fun u s1 ⟨v, H1, I1, rx, m1, h1, x, hr1, e1, r1, p1⟩ => ?_) ht
  dsimp only at p1
  cases q : insOf x h1 with
  | none => rw [q] at p1; exact p1.elim
  | some z =>
    obtain ⟨C', fl⟩ := z
    rw [q] at p1
    dsimp only at p1
    split at p1
    · rename_i hC
      subst hC
      obtain ⟨a, dx, vs, rfl, h2, r2⟩ := ins_of hr1 q r1
      obtain rfl : u = Value.ref a := rx
      refine getmeth_ok I1 h2 c hm (lookup_none hn r2) ?_
      refine PySem.W.callWith_K0 (first := [.ref a]) I1.kIn hm.kp ?_
      exact run_cl (us := [.ref a]) (vs := [.ref a]) co hF hr hb hd tk I1 (.cons rfl .nil) ⟨m1, h1, _, hr1, .cons r1 (VlRs.append .nil (hq _ _ _)), Po.stil p1⟩
    · exact p1.elim
/-- C(..) -/
def mkI (call : CallT) (i C : Nat) (xs : List Vl) (h : Hs) : Res Vl := match call i (.r h.length :: xs) (h ++ [.ins C []]) with
  | .ok (.d .non) h2 => (match h2[h.length]? with
    | some (.ins C' fs) => .ok (.d (.ins C' fs)) (h2.take h.length)
    | _ => .bad)
  | .exc e h2 => .exc e (h2.take h.length)
  | _ => .bad
def eMk (call : CallT) (i C : Nat) (ds : List D) (fs : SemA) : SemE := fun σ h => rb (fs σ h) fun xs h1 => mkI call i C (xs ++ ds.map Vl.d) h1
theorem run_makeS {pins : List (Addr × Obj)} {σ : L2.St} {H : Hp} {s : Shared} {Q : VK} {us : List Value} {vs : List V} {C f : Addr} {k : Nat} {fd : FuncData} {ps : List Str} {sp : Sp} {CX : CXT} {E : XK} (M : Mk X.K C f) (F : FnOk X.prog X.w X.K X.mg X.base CX k f fd ps sp) (hr : Room (k + 1) X.A) (hb : Binds X.K fd ps dus) (hd : Vals dvs dus)
    (hx : PassesAt CX X σ E) (I : Inv X pins σ H s) (r : Vals vs us)
    (h : ∀ x dx, H x = none → H dx = none → dx ≠ x → sp (.ref x :: (vs ++ dvs)) (upd (upd H dx (.own x)) x (.ins C dx [])) (fun v H2 => v = .non ∧ Q (.ref x) H2) E) :
    wpAny (model X.prog X.w) X.A (PySem.call (.ref C) us) (EP X pins σ Q) X.xe s := by
  have hq := h (s.heap.objs.size + 1) s.heap.objs.size (I.hok.fresh (Nat.le_succ _)) (I.hok.fresh (Nat.le_refl _)) (Nat.ne_of_lt (Nat.lt_succ_self _))
  have I2 := Inv.made (C := C) I
  have r2 : Vals (V.ref (s.heap.objs.size + 1) :: (vs ++ dvs)) (Value.ref (s.heap.objs.size + 1) :: (us ++ dus)) := .cons rfl (r.append hd)
  have hl : (Value.ref (s.heap.objs.size + 1) :: us ++ dus).length = ps.length := by
    have e := r2.length
    rw [F.len _ _ _ _ hq] at e
    exact e.symm
  refine wpAny_call (make_map (f := f) I.kIn M.makes M.init (beq_iff_eq.mp M.fn) (codeAny_mono (F.run _ X.stack _ _ ⟨Value.ref (s.heap.objs.size + 1) :: us, []⟩ (Value.ref (s.heap.objs.size + 1) :: (us ++ dus)) _ _ E (hr.make C us [])
    (I2.env0.make C us []) (hb _ (Value.ref (s.heap.objs.size + 1) :: us) I2.kIn hl) r2 hq) fun r s' hq' => ?_))
  cases r with
  | error e => exact hx pins _ _ e s' I2 hq'
  | ok fl =>
    cases fl with
    | ret u =>
      obtain ⟨v, H', I3, rv, ev, q3⟩ := I2.after hq'
      subst ev
      exact ⟨rv, ⟨V.ref (s.heap.objs.size + 1), H', I3, rfl, q3⟩⟩
    | next => exact False.elim hq'
    | brk => exact False.elim hq'
    | cont => exact False.elim hq'
theorem mkI_sound {K : PySem.W.Frag} {m : List Addr} {ah : Hs} {H : Hp} {xs : List Vl} {vs : List V} {Q : VK} {E : XK} {C : Nat} (hr : HR K ct m ah H) (rs : VlRs K ct m ah H xs vs) (p : Po K ct (fun c d _ H' => E c d H') [] (VlR K ct) m ah H (mkI call i C xs ah) Q) :
    ∀ x dx, H x = none → H dx = none → dx ≠ x → spC K ct call i (.ref x :: vs) (upd (upd H dx (.own x)) x (.ins (ct.ca C) dx [])) (fun v H2 => v = .non ∧ Q (.ref x) H2) E := by
  intro x dx hx hdx ne
  obtain ⟨hr1, e1⟩ := hr.more (upd_more (o := .own x) hdx)
  have hx1 : upd H dx (.own x) x = none := by rw [upd_ne ne.symm]; exact hx
  obtain ⟨hr2, e2⟩ := hr1.alloc hx1 (OR.ins (ct := ct) (C := C) (dx := dx) .nil)
  have e12 := e1.trans e2
  refine ⟨_, _, .r ah.length :: xs, hr2, .cons ⟨x, at_new hr1, rfl⟩ (rs.ext e12), ?_⟩
  unfold mkI at p
  cases q : call i (.r ah.length :: xs) (ah ++ [.ins C []]) with
  | bad => rw [q] at p; exact p.elim
  | exc ex h2 =>
    rw [q] at p
    refine fun m3 H3 c d hr3 e3 x3 => ?_
    obtain ⟨hr4, e4⟩ := HR.trim' hr hr3 (e12.trans e3)
    refine p m H3 c d hr4 e4 ?_
    obtain ⟨x1, ws, x2, x3⟩ := x3
    have kp := (hr3.trim m.length).2
    obtain ⟨t, rfl⟩ := (e12.trans e3).pre
    rw [List.take_left' rfl, hr.len] at kp
    exact ⟨x1, ws, x2.mono kp, x3.imp id fun ⟨dx, y1, y2, y3⟩ => ⟨dx, y1, (kp _ _ y2 y3).1, (kp _ _ y2 y3).2⟩⟩
  | ok v h2 =>
    rw [q] at p
    cases v with
    | r k => exact p.elim
    | d v =>
      cases v with
      | non =>
        dsimp only at p
        refine fun m3 H3 w hr3 e3 rw3 => ?_
        cases rw3
        refine ⟨rfl, ?_⟩
        have hx3 : m3[ah.length]? = some x := e3.at (at_new hr1)
        cases q2 : h2[ah.length]? with
        | none => rw [q2] at p; exact p.elim
        | some o =>
          rw [q2] at p
          cases o with
          | ins C' fs =>
            dsimp only at p
            obtain ⟨u, h4, h5⟩ := hr3.ob _ x _ hx3 q2
            cases h5 with
            | ins t =>
              obtain ⟨hr4, e4⟩ := HR.trim' hr hr3 (e12.trans e3)
              have kp := (hr3.trim m.length).2
              obtain ⟨tt, et⟩ := (e12.trans e3).pre
              rw [et, List.take_left' rfl, hr.len, ← et] at kp
              refine p m H3 (.ref x) hr4 e4 (.ins h4 (fun ⟨j, o, f1, f2, f3⟩ => ?_) (t.mono kp))
              have := hr3.inj _ _ _ ((e12.trans e3).at f1) hx3
              have hj := (List.getElem?_eq_some_iff.mp f1).1
              rw [hr.len] at hj
              omega
          | _ => exact p.elim
      | _ => exact p.elim
theorem se_make {C : Nat} (co : CallOk X.prog X.w X.K X.mg X.base ct fns call n) (tk : Takes X W) (hr : Room (2 * n + 2) X.A) (hF : fns[i]? = some F) (M : Mk X.K (ct.ca C) F.f) (hg : Gl X x) (hm : X.mg x = some (.ref (ct.ca C))) (hb : Binds X.K F.fd F.ps dus) (hd : Vals dvs dus) (hq : Dfl X.K ct ds dvs)
    (ha : SA X ct W (e :: es) fs) (hdb : (x == ("__debug__" : Str)) = false := by decide) (he : starEach (e :: es) X.env = (false, eval e X.env) :: starEach es X.env := by rfl) (hpl : (backTo pos (starEach es X.env)).any (·.1) = false := by rfl) :
    SE X ct W (.Call (.Name x p) (e :: es) [] pos) (eMk call i C ds fs) := by
  refine ⟨fun pins s σV H Q I ⟨m, ah, σ, hr0, lr, p⟩ => ?_⟩
  refine wpAny_Call_Name_kw (ld_glob I hg hm ?_ hdb)
  refine PySem.W.callWith_K (h₀ := X.base) I.ok.mod.kin M.kp (thn (ha.run pos pins s σV H _ I ⟨m, ah, σ, hr0, lr, Po.bind (R := VlRs X.K ct) p⟩) fun us s1 ⟨vs, H1, I1, r, m1, h1, xs, hr1, e1, r1, p1⟩ => ⟨I1.kIn, ?_⟩) he hpl
  exact run_makeS (E := WE W σV) M (co.ok i F hF) hr hb hd (passAt tk σV) I1 r (mkI_sound hr1 (r1.append (hq _ _ _)) (Po.stil p1))
theorem se_make0 {C : Nat} (co : CallOk X.prog X.w X.K X.mg X.base ct fns call n) (tk : Takes X W) (hr : Room (2 * n + 2) X.A) (hF : fns[i]? = some F) (M : Mk X.K (ct.ca C) F.f) (hg : Gl X x) (hm : X.mg x = some (.ref (ct.ca C))) (hb : Binds X.K F.fd F.ps dus) (hd : Vals dvs dus) (hq : Dfl X.K ct ds dvs)
    (hdb : (x == ("__debug__" : Str)) = false := by decide) : SE X ct W (.Call (.Name x p) [] [] pos) (eMk call i C ds aNil) := by
  refine ⟨fun pins s σV H Q I ⟨m, ah, σ, hr0, lr, p⟩ => ?_⟩
  refine wpAny_Call_Name_kw (ld_glob I hg hm ?_ hdb)
  refine PySem.W.callWith_K0 I.kIn M.kp ?_
  exact run_makeS (us := []) (vs := []) (E := WE W σV) M (co.ok i F hF) hr hb hd (passAt tk σV) I .nil (mkI_sound hr0 (VlRs.append .nil (hq _ _ _)) (Po.stil p))
end
end Mi

/-! Mi7: list comprehensions -/
namespace Mi
open PySem PySem.Spec L2

def wipeL (σ : Lo) : List Nat → Lo
  | [] => σ
  | v :: vs => (wipeL σ vs).set v none
abbrev W0 : WX := fun _ _ _ _ => False
section
variable {K : PySem.W.Frag} {ct : CT} {m : List Addr} {ah : Hs} {H : Hp}
theorem LR.none {σ : Lo} {σV : L2.St} (lr : LR K ct m ah H σ σV) (i : Nat) : LR K ct m ah H (σ.set i Option.none) (σV.set i Option.none) := by
  refine ⟨by rw [List.length_set, List.length_set, lr.len], fun j y hy => ?_⟩
  by_cases e : i = j
  · subst e
    by_cases hi : i < σ.length
    · rw [List.getElem?_set_self hi] at hy; cases hy
    · rw [List.getElem?_eq_none (by rw [List.length_set]; omega)] at hy; cases hy
  · rw [List.getElem?_set_ne e] at hy ⊢
    exact lr.at_ j y hy
theorem LR.wipe {σ : Lo} {σV : L2.St} (lr : LR K ct m ah H σ σV) : ∀ vs : List Nat, LR K ct m ah H (wipeL σ vs) (L2.wipe σV vs)
  | [] => lr
  | v :: vs => (LR.wipe lr vs).none v
theorem wipe_set {σV : L2.St} {i : Nat} {x : Option V} : ∀ {vs : List Nat}, L2.wipe (σV.set i x) vs = if i ∈ vs then L2.wipe σV vs else (L2.wipe σV vs).set i x
  | [] => by simp [L2.wipe]
  | v :: vs => by
    unfold L2.wipe
    rw [wipe_set (vs := vs)]
    by_cases h : i ∈ vs
    · rw [if_pos h, if_pos (List.mem_cons_of_mem _ h)]
    · rw [if_neg h]
      by_cases e : i = v
      · subst e
        rw [if_pos List.mem_cons_self, List.set_set]
      · rw [if_neg (by simp [e, h])]
        rw [List.set_comm _ _ e]
end
/-! ### targets of a block's own names -/
def PoGc (K : PySem.W.Frag) (ct : CT) (vs : List Nat) (σ0 : L2.St) (m : List Addr) (ah : Hs) (H : Hp) (o : Option (Lo × Hs)) (Q : L2.St → Hp → Prop) : Prop := match o with
  | some (σ', h) => ∀ m' H' σV', HR K ct m' h H' → Ext m ah H m' h H' → LR K ct m' h H' σ' σV' → L2.wipe σV' vs = L2.wipe σ0 vs → Q σV' H'
  | none => False
def rdGc (K : PySem.W.Frag) (ct : CT) (vs : List Nat) (g : SemG) : TG := fun v σV H Q => ∃ m ah σ x, HR K ct m ah H ∧ LR K ct m ah H σ σV ∧ VlR K ct m ah H x v ∧ PoGc K ct vs σV m ah H (g x σ ah) Q
def rdGsc (K : PySem.W.Frag) (ct : CT) (vs : List Nat) (g : SemGs) : TGs := fun ws σV H Q => ∃ m ah σ xs, HR K ct m ah H ∧ LR K ct m ah H σ σV ∧ DRs K ct (Sf m ah) H xs ws ∧ PoGc K ct vs σV m ah H (g xs σ ah) Q
abbrev SGc (X : Cx) (ct : CT) (vs : List Nat) (e : Expr) (g : SemG) : Prop := PG X e (rdGc X.K ct vs g)
abbrev SGsc (X : Cx) (ct : CT) (vs : List Nat) (e : List Expr) (g : SemGs) : Prop := PGs X e (rdGsc X.K ct vs g)
section
variable {X : Cx} {ct : CT} {pos : Pos} {e : Expr} {es : List Expr} {g : SemG} {gs : SemGs} {vs : List Nat}
theorem sgc_name {i : Nat} {x : Str} (hN : X.N.Nodup) (hi : X.N[i]? = some x) (hx : Loc X.env.scope x) (hm : i ∈ vs) (hf : X.fn x = true ∨ X.env.scope.names.lookup x = some .local := by first | exact .inl rfl | exact .inr rfl | assumption) : SGc X ct vs (.Name x pos) (gNm i) :=
  PG.imp (pg_name hN hi hx hf) fun v σV H Q ⟨m, ah, σ, x, hr, lr, r, p⟩ => p m H _ hr (Ext.refl _ _ _) (lr.set r i) (by rw [wipe_set, if_pos hm])
theorem sgsc_nil : SGsc X ct vs [] gNi := PGs.imp pgs_nil fun ws σV H Q ⟨m, ah, σ, xs, hr, lr, r, p⟩ => by
  unfold gNi at p
  split at p
  · cases r
    exact ⟨rfl, p m H _ hr (Ext.refl _ _ _) lr rfl⟩
  · exact p.elim
theorem sgsc_cons (h1 : SGc X ct vs e g) (h2 : SGsc X ct vs es gs) (hs : (assignEach (e :: es) X.env).map (·.2) = assign e X.env :: (assignEach es X.env).map (·.2) := by rfl) : SGsc X ct vs (e :: es) (gCo g gs) :=
  PGs.imp (pgs_cons h1 h2 hs) fun ws σV H Q ⟨m, ah, σ, xs, hr, lr, r, p⟩ => by
    unfold gCo at p
    split at p
    · cases r with
      | cons r t =>
        refine ⟨_, _, rfl, m, ah, σ, .d _, hr, lr, r, ?_⟩
        cases q : g (.d _) σ ah with
        | none => rw [q] at p; exact p.elim
        | some z =>
          obtain ⟨σ', h'⟩ := z
          rw [q] at p
          refine fun m2 H2 σ2 h2 e2 l2 w2 => ⟨m2, h', σ', _, h2, l2, t.mono e2.kp, ?_⟩
          dsimp only [Option.bind_some] at p
          revert p
          cases gs _ σ' h' with
          | none => exact fun p => p.elim
          | some z => exact fun p m3 H3 σ3 h3 e3 l3 w3 => p m3 H3 σ3 h3 (e2.trans e3) l3 (w3.trans w2)
    · exact p.elim
theorem sgc_tup {k n : Nat} (hc : X.calm = true) (h : SGsc X ct vs es gs) (hn : (assignEach es X.env).length = n := by rfl) (hst : (assignEach es X.env).findIdx? (·.1) = none := by rfl) : SGc X ct vs (.Tuple es k pos) (gTp n gs) :=
  PG.imp (pg_tup hc h hn hst) fun v σV H Q ⟨m, ah, σ, x, hr, lr, r, p⟩ => by
    unfold gTp at p
    split at p
    · obtain ⟨l, ws, rfl, h1, r1⟩ := tup_of r
      split at p
      · rename_i hl
        exact ⟨l, ws, rfl, h1, by rw [← r1.length]; exact hl, m, ah, σ, _, hr, lr, r1, p⟩
      · exact p.elim
    · exact p.elim
end
/-! ### the tests of a clause -/
abbrev SPT (X : Cx) (ct : CT) (W : WX) (es : List Expr) (f : SemT) : Prop := PTs X es (rdT X.K ct W f)
theorem PTs.imp {X : Cx} {e : List Expr} {t t' : TT} (h : PTs X e t) (i : ∀ σ H Q, t' σ H Q → t σ H Q) : PTs X e t' := ⟨fun pins s σ H Q I q => h.run pins s σ H Q I (i _ _ _ q)⟩
def tYs : SemT := fun _ h => .ok true h
theorem spt_nil {X : Cx} {ct : CT} {W : WX} : SPT X ct W [] tYs := PTs.imp pts_nil fun σV H Q ⟨m, ah, σ, hr, lr, p⟩ => p m H true hr (Ext.refl _ _ _) rfl
theorem spt_one {X : Cx} {ct : CT} {W : WX} {c : Expr} {t : SemT} (h : ST X ct W c t) : SPT X ct W [c] t := pts_one h

/-! ### what is made -/
def cmpAdd (n0 : Nat) (y : Vl) (h : Hs) : Option Hs := match toD y h with
  | some (d, h') => (match h'[n0]? with
    | some (.lst acc) => if acc.length < sizeLine then some ((h'.set n0 (.lst (acc ++ [d]))).take (n0 + 1)) else none
    | _ => none)
  | none => none
def cmpL (vs : List Nat) (g : SemG) (t : SemT) (f : SemE) (n0 : Nat) : List D → Lo → Hs → Option Hs
  | [], _, h => some h
  | d :: ds, σ, h => match g (.d d) (wipeL σ vs) h with
    | none => none
    | some (σ1, h1) => match t σ1 h1 with
      | .ok b h2 => if b = true then (match f σ1 h2 with
          | .ok y h3 => (match cmpAdd n0 y h3 with
            | some h4 => cmpL vs g t f n0 ds σ h4
            | none => none)
          | _ => none)
        else cmpL vs g t f n0 ds σ (h2.take (n0 + 1))
      | _ => none
def lcEnd (mu : Bool) (n0 : Nat) (h : Hs) : Res Vl := match mu with
  | true => .ok (.r n0) h
  | false => (match h[n0]? with
    | some (.lst acc) => .ok (.d (.lv acc)) (h.take n0)
    | _ => .bad)
def eLc (mu : Bool) (vs : List Nat) (it : SemI) (g : SemG) (t : SemT) (f : SemE) : SemE := fun σ h => rb (it σ h) fun ds h1 => match cmpL vs g t f h1.length ds σ (h1 ++ [.lst []]) with
  | some h2 => lcEnd mu h1.length h2
  | none => .bad
/-- [f for g in it if t for g1 in it1 if t1] -/
def cm2L (vs vs1 : List Nat) (g : SemG) (t : SemT) (it1 : SemI) (g1 : SemG) (t1 : SemT) (f : SemE) (n0 : Nat) : List D → Lo → Hs → Option Hs
  | [], _, h => some h
  | d :: ds, σ, h => match g (.d d) (wipeL σ vs) h with
    | none => none
    | some (σ1, h1) => match t σ1 h1 with
      | .ok b h2 => if b = true then (match it1 σ1 h2 with
          | .ok es h3 => (match cmpL vs1 g1 t1 f n0 es (clr (n0 + 1) σ1) (h3.take (n0 + 1)) with
            | some h4 => cm2L vs vs1 g t it1 g1 t1 f n0 ds σ h4
            | none => none)
          | _ => none)
        else cm2L vs vs1 g t it1 g1 t1 f n0 ds σ (h2.take (n0 + 1))
      | _ => none
def eLc2 (mu : Bool) (vs vs1 : List Nat) (it : SemI) (g : SemG) (t : SemT) (it1 : SemI) (g1 : SemG) (t1 : SemT) (f : SemE) : SemE := fun σ h => rb (it σ h) fun ds h1 => match cm2L vs vs1 g t it1 g1 t1 f h1.length ds σ (h1 ++ [.lst []]) with
  | some h2 => lcEnd mu h1.length h2
  | none => .bad

section
variable {K : PySem.W.Frag} {ct : CT} {m m' : List Addr} {ah ah' : Hs} {H H' : Hp}
/-- one more -/
theorem cmpAdd_sound {Dd : Addr} {h : Hs} (hr1 : HR K ct m ah H) (hrA : HR K ct (m ++ [Dd]) ah' H') {m5 : List Addr} {h5 : Hs} {H5 : Hp} (hr5 : HR K ct m5 h5 H5) (e5 : Ext (m ++ [Dd]) ah' H' m5 h5 H5) (hl : ah'.length = ah.length + 1) {y : Vl} {v : V} (r : VlR K ct m5 h5 H5 y v) (q : cmpAdd ah.length y h5 = some h) :
    ∃ acc, H5 Dd = some (.lst acc) ∧ acc.length < sizeLine ∧ HR K ct (m ++ [Dd]) h (upd H5 Dd (.lst (acc ++ [v]))) ∧ Ext (m ++ [Dd]) ah' H' (m ++ [Dd]) h (upd H5 Dd (.lst (acc ++ [v]))) := by
  unfold cmpAdd at q
  cases q1 : toD y h5 with
  | none => rw [q1] at q; cases q
  | some z =>
    obtain ⟨d, h6⟩ := z
    rw [q1] at q
    dsimp only at q
    obtain ⟨hr6, e6, r6⟩ := toD_sound hr5 q1 r
    have hD : m5[ah.length]? = some Dd := e5.at (at_new hr1)
    cases q2 : h6[ah.length]? with
    | none => rw [q2] at q; cases q
    | some o =>
      rw [q2] at q
      cases o with
      | lst acc =>
        dsimp only at q
        split at q
        · rename_i hz
          cases q
          obtain ⟨u, hu, ou⟩ := hr6.ob _ _ _ hD q2
          cases ou with
          | lst t =>
            obtain ⟨hr7, e7⟩ := hr6.write hD q2 (by simp) (OR.lst (t.append (.cons r6 .nil)))
            obtain ⟨hr8, e8⟩ := HR.trim' hrA hr7 ((e5.trans e6).trans e7)
            rw [hl] at hr8 e8
            exact ⟨_, hu, by rw [← t.length]; exact hz, hr8, e8⟩
        · cases q
      | _ => cases q
/-- the list is made -/
theorem lcEnd_sound {W : WX} {σV : L2.St} {Dd : Addr} {h : Hs} {mu : Bool} {Q : VK} (hr1 : HR K ct m ah H) (hD : H Dd = none) (hr : HR K ct (m ++ [Dd]) h H') (e : Ext m ah H (m ++ [Dd]) h H') (p : Po K ct W σV (VlR K ct) m ah H (lcEnd mu ah.length h) Q) : Q (.ref Dd) H' := by
  cases mu with
  | true => exact p _ H' _ hr e ⟨Dd, at_new hr1, rfl⟩
  | false =>
    unfold lcEnd at p
    dsimp only at p
    cases q : h[ah.length]? with
    | none => rw [q] at p; exact p.elim
    | some o =>
      rw [q] at p
      cases o with
      | lst acc =>
        dsimp only at p
        obtain ⟨u, hu, ou⟩ := hr.ob _ _ _ (at_new hr1) q
        cases ou with
        | lst t =>
          obtain ⟨hr2, e2⟩ := HR.trim' hr1 hr e
          have kp := (hr.trim m.length).2
          rw [List.take_left' rfl, hr1.len] at kp
          exact p m H' _ hr2 e2 (.lv hu (fun ⟨j, o, f1, f2, f3⟩ => hr1.fresh hD j f1) (t.mono kp))
      | _ => exact p.elim
end

section
variable {X : Cx} {ct : CT} {W : WX} {pos : Pos} {it it1 : SemI} {g g1 : SemG} {t t1 : SemT} {f : SemE} {vs vs1 : List Nat} {mu : Bool}
theorem wipe_wipe (σV : L2.St) (us : List Nat) : L2.wipe (L2.wipe σV us) us = L2.wipe σV us := by
  have key : ∀ (us : List Nat) (τ : L2.St), (∀ v ∈ us, τ[v]? = none ∨ τ[v]? = some Option.none) → L2.wipe τ us = τ := by
    intro us
    induction us with
    | nil => intro τ _; rfl
    | cons v us ih =>
      intro τ hτ
      unfold L2.wipe
      rw [ih τ fun w hw => hτ w (List.mem_cons_of_mem _ hw)]
      rcases hτ v List.mem_cons_self with z | z
      · rw [List.set_eq_of_length_le (List.getElem?_eq_none_iff.mp z)]
      · apply List.ext_getElem?
        intro j
        by_cases e : v = j
        · subst e; rw [List.getElem?_set_self (List.getElem?_eq_some_iff.mp z).1, z]
        · rw [List.getElem?_set_ne e]
  refine key us _ fun v hv => ?_
  cases e : (L2.wipe σV us)[v]? with
  | none => exact .inl rfl
  | some o =>
    cases o with
    | none => exact .inr rfl
    | some y => exact absurd hv (wipe_some e).2
theorem rd_lc {σV : L2.St} {H : Hp} {Q : VK} (h : rdE X.K ct W (eLc mu vs it g t f) σV H Q) : tLc (rdI X.K ct W it) (rdGc X.K ct vs g) (rdT X.K ct W0 t) (rdE X.K ct W0 f) vs σV H Q := by
  obtain ⟨m, ah, σ, hr, lr, p⟩ := h
  refine ⟨m, ah, σ, hr, lr, (Po.bind (R := fun m1 h1 H1 ds J => Wks X.K ct ds m1 h1 H1 J) p).imp fun J H1 ⟨m1, h1, ds, hr1, e1, w1, p1⟩ Dd hD => ?_⟩
  dsimp only at p1 w1
  cases q : cmpL vs g t f h1.length ds σ (h1 ++ [.lst []]) with
  | none => rw [q] at p1; exact p1.elim
  | some hE =>
    rw [q] at p1
    dsimp only at p1
    obtain ⟨hrA, eA⟩ := hr1.alloc hD (OR.lst (ct := ct) .nil)
    have lrA := (lr.ext e1).ext eA
    refine ⟨fun i n H => n = ds.length - i ∧ i ≤ ds.length ∧ ∃ h2, HR X.K ct (m1 ++ [Dd]) h2 H ∧ Ext (m1 ++ [Dd]) (h1 ++ [.lst []]) (upd H1 Dd (.lst [])) (m1 ++ [Dd]) h2 H ∧ cmpL vs g t f h1.length (ds.drop i) σ h2 = some hE,
      ⟨ds.length, by simp, Nat.zero_le _, _, hrA, Ext.refl _ _ _, by rw [List.drop_zero]; exact q⟩, ?_⟩
    rintro i n H2 ⟨rfl, hi, h2, hr2, e2, q2⟩
    obtain ⟨ws, wg⟩ := w1 _ h2 H2 hr2 (eA.trans e2).kp
    by_cases hlt : i < ds.length
    · rw [List.drop_eq_getElem_cons hlt] at q2
      obtain ⟨go, wy⟩ := wg i _ (List.getElem?_eq_getElem hlt)
      refine .inr ⟨go, fun H3 => ∃ h3, HR X.K ct (m1 ++ [Dd]) h3 H3 ∧ Ext (m1 ++ [Dd]) (h1 ++ [.lst []]) (upd H1 Dd (.lst [])) (m1 ++ [Dd]) h3 H3 ∧ cmpL vs g t f h1.length (ds.drop (i + 1)) σ h3 = some hE,
        fun H3 ⟨h3, a1, a2, a3⟩ => ⟨ds.length - (i + 1), by omega, rfl, hlt, h3, a1, a2, a3⟩, fun x H3 hy => ?_⟩
      obtain ⟨hr3, e3, rd⟩ := wy x H3 hy
      refine ⟨_, h2, _, .d _, hr3, ((lrA.ext e2).ext e3).wipe vs, rd, ?_⟩
      rw [cmpL] at q2
      cases q3 : g (.d ds[i]) (wipeL σ vs) h2 with
      | none => rw [q3] at q2; cases q2
      | some z =>
        obtain ⟨σ4, h4⟩ := z
        rw [q3] at q2
        dsimp only at q2
        refine fun m4 H4 σV4 hr4 e4 l4 w4 => ⟨w4.trans ?_, m4, h4, σ4, hr4, l4, ?_⟩
        · exact wipe_wipe _ _
        cases q4 : t σ4 h4 with
        | bad => rw [q4] at q2; cases q2
        | exc e h5 => rw [q4] at q2; cases q2
        | ok b h5 =>
          rw [q4] at q2
          dsimp only at q2
          refine fun m5 H5 b' hr5 e5 rb5 => ?_
          subst rb5
          have e25 := (e3.trans e4).trans e5
          cases b with
          | false =>
            rw [if_neg Bool.false_ne_true] at q2
            obtain ⟨hr6, e6⟩ := HR.trim' hr2 hr5 e25
            have hl : h2.length = h1.length + 1 := by rw [← hr2.len, ← hr1.len, List.length_append]; rfl
            rw [hl] at hr6 e6
            exact ⟨_, hr6, e2.trans e6, q2⟩
          | true =>
            rw [if_pos rfl] at q2
            refine ⟨m5, h5, σ4, hr5, l4.ext e5, ?_⟩
            cases q5 : f σ4 h5 with
            | bad => rw [q5] at q2; cases q2
            | exc e h6 => rw [q5] at q2; cases q2
            | ok y h6 =>
              rw [q5] at q2
              dsimp only at q2
              cases q6 : cmpAdd h1.length y h6 with
              | none => rw [q6] at q2; cases q2
              | some h7 =>
                rw [q6] at q2
                dsimp only at q2
                refine fun m6 H6 v hr6 e6 r6 => ?_
                have hl : h2.length = h1.length + 1 := by rw [← hr2.len, ← hr1.len, List.length_append]; rfl
                obtain ⟨acc, a1, a2, a3, a4⟩ := cmpAdd_sound hr1 hr2 hr6 (e25.trans e6) hl r6 q6
                exact ⟨acc, a1, a2, h7, a3, e2.trans a4, q2⟩
    · have e : i = ds.length := by omega
      subst e
      rw [List.drop_length, cmpL] at q2
      cases q2
      exact .inl ⟨ws _ (Nat.le_refl _), lcEnd_sound hr1 hD hr2 (eA.trans e2) p1⟩
theorem rd_lc2 {σV : L2.St} {H : Hp} {Q : VK} (h : rdE X.K ct W (eLc2 mu vs vs1 it g t it1 g1 t1 f) σV H Q) : tLc2 (rdI X.K ct W it) (rdGc X.K ct vs g) (rdT X.K ct W0 t) (rdI X.K ct W0 it1) (rdGc X.K ct vs1 g1) (rdT X.K ct W0 t1) (rdE X.K ct W0 f) vs vs1 σV H Q := by
  obtain ⟨m, ah, σ, hr, lr, p⟩ := h
  refine ⟨m, ah, σ, hr, lr, (Po.bind (R := fun m1 h1 H1 ds J => Wks X.K ct ds m1 h1 H1 J) p).imp fun J H1 ⟨m1, h1, ds, hr1, e1, w1, p1⟩ Dd hD => ?_⟩
  dsimp only at p1 w1
  cases q : cm2L vs vs1 g t it1 g1 t1 f h1.length ds σ (h1 ++ [.lst []]) with
  | none => rw [q] at p1; exact p1.elim
  | some hE =>
    rw [q] at p1
    dsimp only at p1
    obtain ⟨hrA, eA⟩ := hr1.alloc hD (OR.lst (ct := ct) .nil)
    have lrA := (lr.ext e1).ext eA
    refine ⟨fun i n H => n = ds.length - i ∧ i ≤ ds.length ∧ ∃ h2, HR X.K ct (m1 ++ [Dd]) h2 H ∧ Ext (m1 ++ [Dd]) (h1 ++ [.lst []]) (upd H1 Dd (.lst [])) (m1 ++ [Dd]) h2 H ∧ cm2L vs vs1 g t it1 g1 t1 f h1.length (ds.drop i) σ h2 = some hE,
      ⟨ds.length, by simp, Nat.zero_le _, _, hrA, Ext.refl _ _ _, by rw [List.drop_zero]; exact q⟩, ?_⟩
    rintro i n H2 ⟨rfl, hi, h2, hr2, e2, q2⟩
    have hl2 : h2.length = h1.length + 1 := by rw [← hr2.len, ← hr1.len, List.length_append]; rfl
    obtain ⟨ws, wg⟩ := w1 _ h2 H2 hr2 (eA.trans e2).kp
    by_cases hlt : i < ds.length
    · rw [List.drop_eq_getElem_cons hlt] at q2
      obtain ⟨go, wy⟩ := wg i _ (List.getElem?_eq_getElem hlt)
      refine .inr ⟨go, fun H3 => ∃ h3, HR X.K ct (m1 ++ [Dd]) h3 H3 ∧ Ext (m1 ++ [Dd]) (h1 ++ [.lst []]) (upd H1 Dd (.lst [])) (m1 ++ [Dd]) h3 H3 ∧ cm2L vs vs1 g t it1 g1 t1 f h1.length (ds.drop (i + 1)) σ h3 = some hE,
        fun H3 ⟨h3, a1, a2, a3⟩ => ⟨ds.length - (i + 1), by omega, rfl, hlt, h3, a1, a2, a3⟩, fun x H3 hy => ?_⟩
      obtain ⟨hr3, e3, rd⟩ := wy x H3 hy
      refine ⟨_, h2, _, .d _, hr3, ((lrA.ext e2).ext e3).wipe vs, rd, ?_⟩
      rw [cm2L] at q2
      cases q3 : g (.d ds[i]) (wipeL σ vs) h2 with
      | none => rw [q3] at q2; cases q2
      | some z =>
        obtain ⟨σ4, h4⟩ := z
        rw [q3] at q2
        dsimp only at q2
        refine fun m4 H4 σV4 hr4 e4 l4 w4 => ⟨w4.trans (wipe_wipe _ _), m4, h4, σ4, hr4, l4, ?_⟩
        cases q4 : t σ4 h4 with
        | bad => rw [q4] at q2; cases q2
        | exc e h5 => rw [q4] at q2; cases q2
        | ok b h5 =>
          rw [q4] at q2
          dsimp only at q2
          refine fun m5 H5 b' hr5 e5 rb5 => ?_
          subst rb5
          have e25 := (e3.trans e4).trans e5
          cases b with
          | false =>
            rw [if_neg Bool.false_ne_true] at q2
            obtain ⟨hr6, e6⟩ := HR.trim' hr2 hr5 e25
            rw [hl2] at hr6 e6
            exact ⟨_, hr6, e2.trans e6, q2⟩
          | true =>
            rw [if_pos rfl] at q2
            have l5 := l4.ext e5
            refine ⟨m5, h5, σ4, hr5, l5, ?_⟩
            cases q5 : it1 σ4 h5 with
            | bad => rw [q5] at q2; cases q2
            | exc e h6 => rw [q5] at q2; cases q2
            | ok es h6 =>
              rw [q5] at q2
              dsimp only at q2
              cases q6 : cmpL vs1 g1 t1 f h1.length es (clr (h1.length + 1) σ4) (h6.take (h1.length + 1)) with
              | none => rw [q6] at q2; cases q2
              | some h7 =>
                rw [q6] at q2
                dsimp only at q2
                refine fun m6 H6 J1 hr6 e6 w6 => ?_
                have e26 := e25.trans e6
                obtain ⟨hrB, eB⟩ := HR.trim' hr2 hr6 e26
                rw [hl2] at hrB eB
                have kpB : Kp (Sf m6 h6) H6 (Sf (m1 ++ [Dd]) (h6.take (h1.length + 1))) H6 := by
                  have := (hr6.trim (m1 ++ [Dd]).length).2
                  obtain ⟨tt, et⟩ := e26.pre
                  rw [et, List.take_left' rfl, hr2.len, hl2, ← et] at this
                  exact this
                have lB : LR X.K ct (m1 ++ [Dd]) (h6.take (h1.length + 1)) H6 (clr (h1.length + 1) σ4) σV4 := by
                  have := LR.clr hr6 e26 hr2.len (l5.ext e6)
                  rw [hl2] at this
                  exact this
                refine ⟨fun j k H => k = es.length - j ∧ j ≤ es.length ∧ ∃ h8, HR X.K ct (m1 ++ [Dd]) h8 H ∧ Ext (m1 ++ [Dd]) (h6.take (h1.length + 1)) H6 (m1 ++ [Dd]) h8 H ∧ cmpL vs1 g1 t1 f h1.length (es.drop j) (clr (h1.length + 1) σ4) h8 = some h7,
                  ⟨es.length, by simp, Nat.zero_le _, _, hrB, Ext.refl _ _ _, by rw [List.drop_zero]; exact q6⟩, ?_⟩
                rintro j k H8 ⟨rfl, hj, h8, hr8, e8, q8⟩
                obtain ⟨ws1, wg1⟩ := w6 _ h8 H8 hr8 (kpB.trans e8.kp)
                by_cases hlt1 : j < es.length
                · rw [List.drop_eq_getElem_cons hlt1] at q8
                  obtain ⟨go1, wy1⟩ := wg1 j _ (List.getElem?_eq_getElem hlt1)
                  refine .inr ⟨go1, fun H9 => ∃ h9, HR X.K ct (m1 ++ [Dd]) h9 H9 ∧ Ext (m1 ++ [Dd]) (h6.take (h1.length + 1)) H6 (m1 ++ [Dd]) h9 H9 ∧ cmpL vs1 g1 t1 f h1.length (es.drop (j + 1)) (clr (h1.length + 1) σ4) h9 = some h7,
                    fun H9 ⟨h9, a1, a2, a3⟩ => ⟨es.length - (j + 1), by omega, rfl, hlt1, h9, a1, a2, a3⟩, fun x1 H9 hy1 => ?_⟩
                  obtain ⟨hr9, e9, rd9⟩ := wy1 x1 H9 hy1
                  refine ⟨_, h8, _, .d _, hr9, ((lB.ext e8).ext e9).wipe vs1, rd9, ?_⟩
                  rw [cmpL] at q8
                  cases q9 : g1 (.d es[j]) (wipeL (clr (h1.length + 1) σ4) vs1) h8 with
                  | none => rw [q9] at q8; cases q8
                  | some z =>
                    obtain ⟨σA, hA⟩ := z
                    rw [q9] at q8
                    dsimp only at q8
                    refine fun mA HA σVA hrA' eA' lA' wA' => ⟨wA'.trans (wipe_wipe _ _), mA, hA, σA, hrA', lA', ?_⟩
                    have hl8 : h8.length = h1.length + 1 := by rw [← hr8.len, ← hr1.len, List.length_append]; rfl
                    cases qA : t1 σA hA with
                    | bad => rw [qA] at q8; cases q8
                    | exc e h5 => rw [qA] at q8; cases q8
                    | ok b hB =>
                      rw [qA] at q8
                      dsimp only at q8
                      refine fun mB HB b' hrB' eB' rb5 => ?_
                      subst rb5
                      have e9B := (e9.trans eA').trans eB'
                      cases b with
                      | false =>
                        rw [if_neg Bool.false_ne_true] at q8
                        obtain ⟨hrC, eC⟩ := HR.trim' hr8 hrB' e9B
                        rw [hl8] at hrC eC
                        exact ⟨_, hrC, e8.trans eC, q8⟩
                      | true =>
                        rw [if_pos rfl] at q8
                        refine ⟨mB, hB, σA, hrB', lA'.ext eB', ?_⟩
                        cases qB : f σA hB with
                        | bad => rw [qB] at q8; cases q8
                        | exc e h6 => rw [qB] at q8; cases q8
                        | ok y hC =>
                          rw [qB] at q8
                          dsimp only at q8
                          cases qC : cmpAdd h1.length y hC with
                          | none => rw [qC] at q8; cases q8
                          | some hD' =>
                            rw [qC] at q8
                            dsimp only at q8
                            refine fun mC HC v hrC eC rC => ?_
                            obtain ⟨acc, a1, a2, a3, a4⟩ := cmpAdd_sound hr1 hr8 hrC (e9B.trans eC) hl8 rC qC
                            exact ⟨acc, a1, a2, hD', a3, e8.trans a4, q8⟩
                · have e : j = es.length := by omega
                  subst e
                  rw [List.drop_length, cmpL] at q8
                  cases q8
                  exact .inl ⟨ws1 _ (Nat.le_refl _), _, hr8, e2.trans (eB.trans e8), q2⟩
    · have e : i = ds.length := by omega
      subst e
      rw [List.drop_length, cm2L] at q2
      cases q2
      exact .inl ⟨ws _ (Nat.le_refl _), lcEnd_sound hr1 hD hr2 (eA.trans e2) p1⟩
variable {elt tg iter tg1 iter1 : Expr} {ifs ifs1 : List Expr} {scope : Scope} {own : List (Str × Nat)}
abbrev BlkA (X : Cx) (scope : Scope) (φ : Cx → Prop) : Prop := ∀ (s : Shared) (H : Hp) (C : Addr) (cl : List (Str × Addr)) (fp : List Addr), φ (X.blk s H scope (compEnvC scope cl C X.env) fp)
theorem se_lc (mu : Bool) (hc : X.calm = true) (hN : X.N.Nodup) (hi : SI X ct W tg iter it) (ok : BlkOk X.N X.env.scope scope own) (hvs : own.map (·.2) = vs)
    (hg : BlkA X scope fun Y => SGc Y ct vs tg g) (ht : BlkA X scope fun Y => SPT Y ct W0 ifs t) (he : BlkA X scope fun Y => SE Y ct W0 elt f) (hs : ∀ x, foldedSetIterable iter X.env x = pure x := by intro _; rfl) :
    SE X ct W (.ListComp elt [⟨tg, iter, ifs, 0⟩] scope pos) (eLc mu vs it g t f) := by
  subst hvs
  exact PE.imp (pe_lc hc hN hi ok hg ht he hs) fun _ _ _ h => rd_lc h
theorem ss_setLc (mu : Bool) {i : Nat} {y : Str} {py spos : Pos} (hc : X.calm = true) (hN : X.N.Nodup) (hy : X.N[i]? = some y) (hyl : X.env.scope.names.lookup y = some .local)
    (hsw : swapsWith (.ListComp elt [⟨tg, iter, ifs, 0⟩] scope pos) (some (.Name y py)) spos.line X.env = pure true) (hi : SI X ct W tg iter it) (ok : BlkOk X.N X.env.scope scope own) (hvs : own.map (·.2) = vs)
    (hg : BlkA X scope fun Y => SGc Y ct vs tg g) (ht : BlkA X scope fun Y => SPT Y ct W0 ifs t) (he : BlkA X scope fun Y => SE Y ct W0 elt f) (hs : ∀ x, foldedSetIterable iter X.env x = pure x := by intro _; rfl) :
    SS X ct W (.Assign [.Name y py] (.ListComp elt [⟨tg, iter, ifs, 0⟩] scope pos) spos) (sAs (eLc mu vs it g t f) (gNm i)) := by
  subst hvs
  refine PS.imp (ps_setLc (g := rdGc X.K ct (own.map (·.2)) g) (tt := rdT X.K ct W0 t) (te := rdE X.K ct W0 f) hc hN hy hyl hsw hi ok hg ht he hs) fun D σV H ⟨m, ah, σ, hr, lr, p⟩ => ?_
  exact rd_lc ⟨m, ah, σ, hr, lr, (PoS.bind (R := VlR X.K ct) lr p).imp fun x H1 ⟨m1, h1, y, hr1, e1, r1, p1⟩ => p1 m1 H1 _ hr1 (Ext.refl _ _ _) ((lr.ext e1).set r1 i)⟩
theorem se_lc2 (mu : Bool) (hc : X.calm = true) (hN : X.N.Nodup) (hi : SI X ct W tg iter it) (ok : BlkOk X.N X.env.scope scope own) (hvs : own.map (·.2) = vs) (hv : ∀ i ∈ vs1, i ∈ own.map (·.2))
    (hg : BlkA X scope fun Y => SGc Y ct vs tg g) (ht : BlkA X scope fun Y => SPT Y ct W0 ifs t)
    (hi1 : BlkA X scope fun Y => SI Y ct W0 tg1 iter1 it1) (hg1 : BlkA X scope fun Y => SGc Y ct vs1 tg1 g1) (ht1 : BlkA X scope fun Y => SPT Y ct W0 ifs1 t1)
    (he : BlkA X scope fun Y => SE Y ct W0 elt f) (hs : ∀ x, foldedSetIterable iter X.env x = pure x := by intro _; rfl) (hs1 : ∀ env x, foldedSetIterable iter1 env x = pure x := by intro _ _; rfl) :
    SE X ct W (.ListComp elt [⟨tg, iter, ifs, 0⟩, ⟨tg1, iter1, ifs1, 0⟩] scope pos) (eLc2 mu vs vs1 it g t it1 g1 t1 f) := by
  subst hvs
  exact PE.imp (pe_lc2 hc hN hi ok hv hg ht hi1 hg1 ht1 he hs hs1) fun _ _ _ h => rd_lc2 h
theorem ss_setLc2 (mu : Bool) {i : Nat} {y : Str} {py spos : Pos} (hc : X.calm = true) (hN : X.N.Nodup) (hy : X.N[i]? = some y) (hyl : X.env.scope.names.lookup y = some .local)
    (hsw : swapsWith (.ListComp elt [⟨tg, iter, ifs, 0⟩, ⟨tg1, iter1, ifs1, 0⟩] scope pos) (some (.Name y py)) spos.line X.env = pure true) (hi : SI X ct W tg iter it) (ok : BlkOk X.N X.env.scope scope own) (hvs : own.map (·.2) = vs) (hv : ∀ i ∈ vs1, i ∈ own.map (·.2))
    (hg : BlkA X scope fun Y => SGc Y ct vs tg g) (ht : BlkA X scope fun Y => SPT Y ct W0 ifs t)
    (hi1 : BlkA X scope fun Y => SI Y ct W0 tg1 iter1 it1) (hg1 : BlkA X scope fun Y => SGc Y ct vs1 tg1 g1) (ht1 : BlkA X scope fun Y => SPT Y ct W0 ifs1 t1)
    (he : BlkA X scope fun Y => SE Y ct W0 elt f) (hs : ∀ x, foldedSetIterable iter X.env x = pure x := by intro _; rfl) (hs1 : ∀ env x, foldedSetIterable iter1 env x = pure x := by intro _ _; rfl) :
    SS X ct W (.Assign [.Name y py] (.ListComp elt [⟨tg, iter, ifs, 0⟩, ⟨tg1, iter1, ifs1, 0⟩] scope pos) spos) (sAs (eLc2 mu vs vs1 it g t it1 g1 t1 f) (gNm i)) := by
  subst hvs
  refine PS.imp (ps_setLc2 (g := rdGc X.K ct (own.map (·.2)) g) (tt := rdT X.K ct W0 t) (wi1 := rdI X.K ct W0 it1) (g1 := rdGc X.K ct vs1 g1) (tt1 := rdT X.K ct W0 t1) (te := rdE X.K ct W0 f) hc hN hy hyl hsw hi ok hv hg ht hi1 hg1 ht1 he hs hs1) fun D σV H ⟨m, ah, σ, hr, lr, p⟩ => ?_
  exact rd_lc2 ⟨m, ah, σ, hr, lr, (PoS.bind (R := VlR X.K ct) lr p).imp fun x H1 ⟨m1, h1, y, hr1, e1, r1, p1⟩ => p1 m1 H1 _ hr1 (Ext.refl _ _ _) ((lr.ext e1).set r1 i)⟩
end
end Mi

/-! Mi8: more operations: min, max, append, extend, stores, tuples of ranges, in for tuples, isinstance, own == -/
namespace Mi
open PySem PySem.Spec L2

section
variable {X : Cx} {ct : CT} {W : WX} {pos p apos : Pos} {e o : Expr} {es : List Expr} {f g : SemE} {fs : SemA}
/-! ### min, max of two ints -/
def n2 (k : Int → Int → Int) : OpN := fun xs h => match xs with
  | [.d (.int i), .d (.int j)] => some (.d (.int (k i j)), h)
  | _ => none
def nMin2 : OpN := n2 fun i j => if j < i then j else i
def nMax2 : OpN := n2 fun i j => if j > i then j else i
theorem n2_sound {id : String} {k : Int → Int → Int} (hc : CallR X (.builtin id) (fun xs H Q => ∃ i j, xs = [.int i, .int j] ∧ Q (.int (k i j)) H)) : CallR X (.builtin id) (rN X.K ct (n2 k)) := by
  refine CallR.imp hc fun vs H Q ⟨m, ah, xs, hr, rs, p⟩ => ?_
  unfold n2 at p
  split at p
  · cases rs with
    | cons r t =>
      cases t with
      | cons r2 t => cases t; cases r; cases r2; exact ⟨_, _, rfl, p.same hr (.int _)⟩
  · exact p.elim
theorem min2_sound (hc : X.calm = true) : CallR X (.builtin "min") (rN X.K ct nMin2) := n2_sound (call_min2 hc)
theorem max2_sound (hc : X.calm = true) : CallR X (.builtin "max") (rN X.K ct nMax2) := n2_sound (call_max2 hc)

/-! ### methods of a changeable list -/
def eLm (op : List D → List D → Hs → Option (List D × Vl)) (f : SemE) (fs : SemA) : SemE := fun σ h => rb (f σ h) fun x h1 => match x with
  | .r k => (match h1[k]? with
    | some (.lst _) => rb (fs σ h1) fun ys h2 => (match h2[k]? with
      | some (.lst xs) => (match toDs ys h2 with
        | some (ds, h3) => (match h3[k]? with
          | some (.lst _) => (match op xs ds h3 with
            | some (xs', v) => .ok v (h3.set k (.lst xs'))
            | none => .bad)
          | _ => .bad)
        | none => .bad)
      | _ => .bad)
    | _ => .bad)
  | _ => .bad
def lmAppend : List D → List D → Hs → Option (List D × Vl) := fun xs ds _ => match ds with
  | [d] => if xs.length < sizeLine then some (xs ++ [d], .d .non) else none
  | _ => none
theorem toDs_keep {k : Nat} {xs : List D} : ∀ {ys : List Vl} {h : Hs} {ds : List D} {h' : Hs}, toDs ys h = some (ds, h') → h'[k]? = some (.lst xs) → h[k]? = some (.lst xs)
  | [], h, ds, h', e, q => by cases e; exact q
  | y :: ys, h, ds, h', e, q => by
    unfold toDs at e
    cases e1 : toD y h with
    | none => rw [e1] at e; cases e
    | some z =>
      obtain ⟨d, h1⟩ := z
      rw [e1] at e
      simp only [Option.bind_some] at e
      cases e2 : toDs ys h1 with
      | none => rw [e2] at e; cases e
      | some z2 =>
        obtain ⟨ds2, h2⟩ := z2
        rw [e2] at e
        simp only [Option.map_some, Option.some.injEq, Prod.mk.injEq] at e
        obtain ⟨_, rfl⟩ := e
        have q1 := toDs_keep (k := k) (xs := xs) e2 q
        unfold toD at e1
        split at e1
        · cases e1; exact q1
        · rename_i j
          have hj : ∀ o : O, h1 = h.set j .dead → h[k]? = some (.lst xs) := fun _ z => by
            subst z
            by_cases hk : j = k
            · subst hk
              by_cases hl : j < h.length
              · rw [List.getElem?_set_self hl] at q1; cases q1
              · rw [List.getElem?_eq_none (by rw [List.length_set]; omega)] at q1; cases q1
            · rw [List.getElem?_set_ne hk] at q1; exact q1
          split at e1 <;> first | (cases e1; exact hj .dead rfl) | cases e1
theorem se_append {cpos : Pos} (he : SE X ct W o f) (ha : SA X ct W [e] fs)
    (hbase : attributeBase o "append" X.env (eval o X.env) = eval o X.env := by rfl)
    (hfew : ((backTo cpos (starEach [e] X.env)).all (fun x => !x.1) && (backToKw cpos (keywordEach [] X.env)).all (fun x => x.1.isSome)
      && decide ([e].length + ([] : List Keyword).length + (if ([] : List Keyword).isEmpty then 0 else 1) < 30)) = true := by rfl)
    (hline : (apos.endLine == cpos.line) = true := by rfl) (hs : starEach [e] X.env = (false, eval e X.env) :: starEach [] X.env := by rfl) (hplain : (backTo cpos (starEach [] X.env)).any (·.1) = false := by rfl) :
    SE X ct W (.Call (.Attribute o "append" apos) [e] [] cpos) (eLm lmAppend f fs) :=
  PE.imp (pe_bm PySem.F.plainAttrs_list PySem.F.slot_list_append PySem.F.type_list_append (r := rAppend) mt_append he ha hbase hfew hline hs hplain) fun σV H Q ⟨m, ah, σ, hr, lr, p⟩ => by
    refine ⟨m, ah, σ, hr, lr, (Po.bind (R := VlR X.K ct) p).imp fun v H1 ⟨m1, h1, x, hr1, e1, r1, p1⟩ => ?_⟩
    dsimp only at p1
    split at p1
    · rename_i k
      split at p1
      · rename_i ys hk
        obtain ⟨a, vs, ha, rfl, g1, g2⟩ := hr1.lstK hk r1
        refine ⟨.inl ⟨rfl, vs, .of g1⟩, m1, h1, σ, hr1, lr.ext e1, (Po.bind (R := VlRs X.K ct) p1).imp fun us H2 ⟨m2, h2, ys2, hr2, e2, r2, p2⟩ => ?_⟩
        dsimp only at p2
        split at p2
        · rename_i xs hk2
          split at p2
          · rename_i ds h3 q3
            obtain ⟨hr3, e3, r3⟩ := toDs_sound hr2 q3 r2
            split at p2
            · rename_i xs2 hk3
              have ee := toDs_keep q3 hk3
              rw [hk2] at ee
              cases ee
              unfold lmAppend at p2
              split at p2
              · rename_i xs' v hop
                split at hop
                · split at hop
                  · rename_i hz
                    cases hop
                    have ha2 := e2.at ha
                    obtain ⟨u, g3, g4⟩ := hr3.ob k a _ ha2 hk3
                    cases g4 with
                    | lst t =>
                      cases r3 with
                      | cons r3 tt =>
                        cases tt
                        obtain ⟨hr4, e4⟩ := hr3.write ha2 hk3 (by simp) (OR.lst (t.append (.cons r3 .nil)))
                        refine ⟨a, _, _, rfl, rfl, g3, by rw [← t.length]; exact hz, p2 m2 _ _ hr4 (e3.trans e4) .non⟩
                  · cases hop
                · cases hop
              · exact p2.elim
            · exact p2.elim
          · exact p2.elim
        · exact p2.elim
      · exact p1.elim
    · exact p1.elim
/-- x.extend(y), y a list or tuple of data -/
theorem ext_tup (l : Addr) (items : Array Value) (n : Nat) (b : Addr) (items2 : Array Value) (n2 : Nat) (dct : Option Addr) (sl : Array (Option Value)) (h0 : (!items.isEmpty && Builtin.List.listTooLong (items.size + items2.size)) = false) (h1 : items.size ≤ sizeLine) (h2 : items.size + items2.size ≤ sizeLine + 1) :
    Meets (Builtin.«list.extend» ⟨[.ref l, .ref b], []⟩) (fun _ R s => s.heap.get? l = some { cls := .type "list", data := .seq items n } ∧ s.heap.get? b = some { cls := .type "tuple", dict := dct, data := .seq items2 n2, slots := sl } ∧
      R (.ok (.ret .none)) { s with heap := s.heap.update l (Obj.mapSeq fun x => x ++ items2) }) :=
  .of_wp fun prog w A R s ⟨hl, hb, h⟩ => by
    obtain ⟨hp, g, d, tk, os⟩ := s
    have f1 := AutoSeq1.idx_int
    have f2 := AutoSeq1.sub_tuple_tuple
    have f3 := AutoSeq1.sub_list_list
    have f4 := AutoSeq1.sub_tuple_list
    have f5 := AutoSeq1.sub_list_tuple
    have hs0 : ¬ (!items.isEmpty && Builtin.List.listTooLong (items.size + items2.size)) = true := by rw [h0]; exact Bool.false_ne_true
    have hz' : (items ++ items2).size ≤ sizeLine + 1 := by rw [Array.size_append]; exact h2
    wp_walk using (wpAny_updateSeq hl rfl (hz := h1) (_hz' := hz')), AutoSeq1.wpAny_loadPart' hl, AutoSeq1.wpAny_loadPart' hb
    exact ⟨_, rfl, h⟩
def rExtS (K : PySem.W.Frag) : V → List V → Hp → VK → Prop := fun x vs H Q => ∃ l b xs zs, x = .ref l ∧ vs = [.ref b] ∧ H l = some (.lst xs) ∧ (H b = some (.lst zs) ∨ SqT K H b zs) ∧ xs.length + zs.length ≤ sizeLine ∧ Q .non (upd H l (.lst (xs ++ zs)))
theorem mt_extS : MtM X "list.extend" (rExtS X.K) := by
  intro pins s σ H x vs v us Q I rx rv h
  obtain ⟨l, b, xs, zs, rfl, rfl, hH, hB | hB, hz, q⟩ := h
  · exact mt_extend pins s σ H _ _ v us Q I rx rv ⟨l, b, xs, zs, rfl, rfl, hH, hB, hz, q⟩
  · cases rx
    obtain ⟨u, rfl, ru⟩ := rv.one
    cases ru
    obtain ⟨z, its, n, r, hl, e⟩ := I.lstM hH
    obtain ⟨its2, r2, ⟨⟨c2, d2, dt2, sl2⟩, e2, hc2, n2, hd2⟩, hz2⟩ := I.tuple hB
    dsimp only at hc2 hd2
    subst hc2 hd2
    have l2 := r2.length
    have hsz : its.toArray.size + its2.toArray.size ≤ sizeLine := by rw [List.size_toArray, List.size_toArray]; omega
    refine call_meets PySem.F.slot_list_extend ⟨_, e, rfl⟩ PySem.F.entry_list_extend (PySem.F.args_list_extend_2 _ _)
      (ext_tup l its.toArray n b its2.toArray n2 d2 sl2 (by rw [notLongL hsz, Bool.and_false]) (by rw [List.size_toArray]; omega) (by omega)) ⟨e, e2, ?_⟩
    refine ⟨.non, _, I.lset (its' := its ++ its2) (t' := s.toks) hH e (by simp) (r.append r2) ?_, rfl, q⟩
    rw [List.length_append]
    omega
def eXt (f : SemE) (fs : SemA) : SemE := fun σ h => rb (f σ h) fun x h1 => match x with
  | .r k => (match h1[k]? with
    | some (.lst _) => rb (fs σ h1) fun ys h2 => (match ys, h2[k]? with
      | [y], some (.lst xs) => (match pureSeq y with
        | some zs => if xs.length + zs.length ≤ sizeLine then .ok (.d .non) (h2.set k (.lst (xs ++ zs))) else .bad
        | none => .bad)
      | _, _ => .bad)
    | _ => .bad)
  | _ => .bad
theorem se_extend {cpos : Pos} (he : SE X ct W o f) (ha : SA X ct W [e] fs)
    (hbase : attributeBase o "extend" X.env (eval o X.env) = eval o X.env := by rfl)
    (hfew : ((backTo cpos (starEach [e] X.env)).all (fun x => !x.1) && (backToKw cpos (keywordEach [] X.env)).all (fun x => x.1.isSome)
      && decide ([e].length + ([] : List Keyword).length + (if ([] : List Keyword).isEmpty then 0 else 1) < 30)) = true := by rfl)
    (hline : (apos.endLine == cpos.line) = true := by rfl) (hs : starEach [e] X.env = (false, eval e X.env) :: starEach [] X.env := by rfl) (hplain : (backTo cpos (starEach [] X.env)).any (·.1) = false := by rfl) :
    SE X ct W (.Call (.Attribute o "extend" apos) [e] [] cpos) (eXt f fs) :=
  PE.imp (pe_bm PySem.F.plainAttrs_list PySem.F.slot_list_extend PySem.F.type_list_extend (r := rExtS X.K) mt_extS he ha hbase hfew hline hs hplain) fun σV H Q ⟨m, ah, σ, hr, lr, p⟩ => by
    refine ⟨m, ah, σ, hr, lr, (Po.bind (R := VlR X.K ct) p).imp fun v H1 ⟨m1, h1, x, hr1, e1, r1, p1⟩ => ?_⟩
    dsimp only at p1
    split at p1
    · rename_i k
      split at p1
      · rename_i ys hk
        obtain ⟨a, vs, ha, rfl, g1, g2⟩ := hr1.lstK hk r1
        refine ⟨.inl ⟨rfl, vs, .of g1⟩, m1, h1, σ, hr1, lr.ext e1, (Po.bind (R := VlRs X.K ct) p1).imp fun us H2 ⟨m2, h2, ys2, hr2, e2, r2, p2⟩ => ?_⟩
        dsimp only at p2
        split at p2
        · rename_i y xs hk2
          split at p2
          · rename_i zs hzs
            split at p2
            · rename_i hz
              have ha2 := e2.at ha
              obtain ⟨u, g3, g4⟩ := hr2.ob k a _ ha2 hk2
              cases g4 with
              | lst t =>
                cases r2 with
                | @cons _ w _ _ r2 tt =>
                  cases tt
                  have key : ∃ b ws, w = V.ref b ∧ (H2 b = some (.lst ws) ∨ SqT X.K H2 b ws) ∧ DRs X.K ct (Sf m2 h2) H2 zs ws := by
                    unfold pureSeq at hzs
                    split at hzs
                    · cases hzs
                      obtain ⟨b, ws, rfl, q1, q2⟩ := tup_of r2
                      exact ⟨b, ws, rfl, .inr q1, q2⟩
                    · cases hzs
                      cases r2 with
                      | lv b1 b2 b3 => exact ⟨_, _, rfl, .inl b1, b3⟩
                    · cases hzs
                  obtain ⟨b, ws, rfl, q1, q2⟩ := key
                  obtain ⟨hr4, e4⟩ := hr2.write ha2 hk2 (by simp) (OR.lst (t.append q2))
                  refine ⟨a, b, _, ws, rfl, rfl, g3, q1, by rw [← t.length, ← q2.length]; exact hz, p2 m2 _ _ hr4 e4 .non⟩
            · exact p2.elim
          · exact p2.elim
        · exact p2.elim
      · exact p1.elim
    · exact p1.elim

/-! ### xs[i] = v -/
/-- the store into a list at a name -/
def gSt (f g : SemE) : SemG := fun x σ h => match toD x h with
  | none => none
  | some (d, h0) => match f σ h0 with
    | .ok (.r k) h1 => (match g σ h1 with
      | .ok (.d (.int i)) h2 => (match h2[k]? with
        | some (.lst xs) => (match ixN xs.length i with
          | some j => some (σ, h2.set k (.lst (xs.set j d)))
          | none => none)
        | _ => none)
      | _ => none)
    | _ => none
theorem sg_store {i : Expr} (ho : SE X ct W0 o f) (hi : SE X ct W0 i g)
    (ha : ∀ v, assign (.Subscript o i pos) X.env v = (do
      let ov ← holding [v] (eval o X.env)
      let iv ← holding [v, ov] (eval i X.env)
      standAt pos
      holding [v, ov, iv] (setItem ov iv v)
      release [v, ov, iv] []) := by intro _; rfl) : SG X ct (.Subscript o i pos) (gSt f g) :=
  PG.imp (pg_sub ho hi set_list ha) fun v σV H Q ⟨m, ah, σ, x, hr, lr, r, p⟩ => by
    unfold gSt at p
    cases q : toD x ah with
    | none => rw [q] at p; exact p.elim
    | some z =>
      obtain ⟨d, h0⟩ := z
      rw [q] at p
      dsimp only at p
      obtain ⟨hr0, e0, r0⟩ := toD_sound hr q r
      refine ⟨m, h0, σ, hr0, lr.ext e0, ?_⟩
      cases q1 : f σ h0 with
      | bad => rw [q1] at p; exact p.elim
      | exc ex h1 => rw [q1] at p; exact p.elim
      | ok y h1 =>
        rw [q1] at p
        cases y with
        | d y => exact p.elim
        | r k =>
          dsimp only at p
          refine fun m1 H1 ov hr1 e1 r1 => ⟨m1, h1, σ, hr1, (lr.ext e0).ext e1, ?_⟩
          cases q2 : g σ h1 with
          | bad => rw [q2] at p; exact p.elim
          | exc ex h2 => rw [q2] at p; exact p.elim
          | ok y h2 =>
            rw [q2] at p
            split at p
            · rename_i y2 i h2' heq
              cases heq
              refine fun m2 H2 iv hr2 e2 r2 => ?_
              cases r2
              split at p
              · rename_i xs hk
                split at p
                · rename_i j hj
                  obtain ⟨a, hm, rfl⟩ := VlR.ext e2 r1
                  obtain ⟨u, g3, g4⟩ := hr2.ob k a _ hm hk
                  cases g4 with
                  | lst t =>
                    obtain ⟨hr4, e4⟩ := hr2.write hm hk (by simp) (OR.lst (t.set (r0.mono (e1.trans e2).kp) j))
                    refine ⟨a, _, _, j, rfl, rfl, g3, by rw [← t.length]; exact hj, ?_⟩
                    exact p m2 _ _ hr4 (((e0.trans e1).trans e2).trans e4) ((((lr.ext e0).ext e1).ext e2).ext e4)
                · exact p.elim
              · exact p.elim
            · exact p.elim

/-! ### tuple(range(n)) -/
def smR (n : Int) : Bool := decide (0 ≤ n) && Nat.ble n.natAbs 16777216
theorem smR_ok {n : Int} (h : smR n = true) : 0 ≤ n ∧ n ≤ 16777216 := by
  unfold smR at h
  simp only [Bool.and_eq_true, decide_eq_true_eq] at h
  have := Nat.le_of_ble_eq_true h.2
  omega
def eTR (f : SemE) : SemE := fun σ h => rb (f σ h) fun x h1 => match x with
  | .d (.int n) => if smR n = true then .ok (.d (.tup (rngD 0 n.toNat))) h1 else .bad
  | _ => .bad
theorem rngD_drs {K : PySem.W.Frag} {S : Addr → Prop} {H : Hp} {n : Int} (h : 0 ≤ n) : DRs K ct S H (rngD 0 n.toNat) (rgV 0 n) := by
  unfold rngD rgV
  rw [show n - 0 = n by omega]
  generalize List.range n.toNat = l
  induction l with
  | nil => exact .nil
  | cons a l ih => exact .cons (.int _) ih
theorem se_tupR {p2 pos2 : Pos} (hc : X.calm = true) (hg : Gl X "tuple") (hm : X.mg "tuple" = none) (hg2 : Gl X "range") (hm2 : X.mg "range" = none) (he : SE X ct W e f)
    (na : starEach [Expr.Call (.Name "range" p2) [e] [] pos2] X.env = (false, eval (.Call (.Name "range" p2) [e] [] pos2) X.env) :: starEach [] X.env := by rfl) (na2 : starEach [e] X.env = (false, eval e X.env) :: starEach [] X.env := by rfl) :
    SE X ct W (.Call (.Name "tuple" p) [.Call (.Name "range" p2) [e] [] pos2] [] pos) (eTR f) :=
  PE.imp (pe_tupRg hc hg hm (prg_1 hg2 hm2 he na2) na) fun σV H Q ⟨m, ah, σ, hr, lr, p⟩ => ⟨m, ah, σ, hr, lr, (Po.bind (R := VlR X.K ct) p).imp fun v H1 ⟨m1, h1, x, hr1, e1, r1, p1⟩ => by
    dsimp only at p1
    split at p1
    · rename_i n
      cases r1
      split at p1
      · rename_i hn
        replace hn := smR_ok hn
        refine ⟨_, rfl, RgOk.of_le (by omega) hn.2 (by omega) hn.1, fun a ha => ?_⟩
        exact p1 m1 _ _ (hr1.pure (o := .tup (rgV 0 n)) ha).1 (hr1.pure (o := .tup (rgV 0 n)) ha).2.1 (new_tup (rngD_drs hn.1) (hr1.pure (o := .tup (rgV 0 n)) ha).2.1.kp (hr1.freshS ha))
      · exact p1.elim
    · exact p1.elim⟩

/-! ### x in a list or tuple of flat data -/
def flD : D → Bool
  | .non => true
  | .bl _ => true
  | .int _ => true
  | .str _ => true
  | _ => false
def eqF : D → D → Bool
  | .non, .non => true
  | .bl a, .bl b => a == b
  | .bl a, .int b => (if a then 1 else 0) == b
  | .int a, .bl b => a == (if b then 1 else 0)
  | .int a, .int b => a == b
  | .str a, .str b => a == b
  | _, _ => false
theorem fl_of {K : PySem.W.Frag} {S : Addr → Prop} {H : Hp} {d : D} {v : V} (h : flD d = true) (r : DR K ct S H d v) : flatV v = true := by
  cases r <;> first | rfl | cases h
theorem eqF_of {K : PySem.W.Frag} {S : Addr → Prop} {H : Hp} {d d' : D} {v v' : V} (h : flD d = true) (h' : flD d' = true) (r : DR K ct S H d v) (r' : DR K ct S H d' v') : eqV v v' = eqF d d' := by
  cases r <;> first | (cases h; done) | (cases r' <;> first | rfl | (cases h'; done))
def inF (x y : Vl) (h : Hs) : Option Bool := match x, seqOf y h with
  | .d d, some ds => if flD d = true ∧ ds.all flD = true then some (ds.any fun z => eqF z d) else none
  | _, _ => none
def oInF (neg : Bool) : Op2 := fun x y h => (inF x y h).map fun c => (.d (.bl (if neg then !c else c)), h)
theorem inV_of {K : PySem.W.Frag} {S : Addr → Prop} {H : Hp} {d : D} {v : V} (h : flD d = true) (r : DR K ct S H d v) : ∀ {ds : List D} {vs : List V}, ds.all flD = true → DRs K ct S H ds vs → vs.all flatV = true ∧ inV v vs = ds.any fun z => eqF z d
  | _, _, _, .nil => ⟨rfl, rfl⟩
  | _, _, hs, .cons r1 t => by
    rw [List.all_cons, Bool.and_eq_true] at hs
    obtain ⟨i1, i2⟩ := inV_of h r hs.2 t
    unfold inV at i2 ⊢
    rw [List.all_cons, List.any_cons, List.any_cons, i1, i2, fl_of hs.1 r1, eqF_of hs.1 h r1 r]
    exact ⟨rfl, rfl⟩
theorem inF_sound {op : CmpOp} {neg : Bool} (ho : OpR X (compareOp op) (rIn X.K neg)) : OpR X (compareOp op) (rOp X.K ct (oInF neg)) := by
  refine OpR.imp ho fun x y H Q ⟨m, ah, a, b, hr, ra, rb, p⟩ => ?_
  unfold oInF at p
  cases e : inF a b ah with
  | none => rw [e] at p; exact p.elim
  | some c =>
  rw [e] at p
  unfold inF at e
  split at e
  · rename_i d ds hs
    by_cases hc : flD d = true ∧ ds.all flD = true
    · rw [if_pos hc] at e
      cases e
      obtain ⟨l, vs, rfl, h1, r1⟩ := seq_of hr hs rb
      obtain ⟨i1, i2⟩ := inV_of hc.1 ra hc.2 r1
      refine ⟨l, vs, rfl, h1, fl_of hc.1 ra, i1, ?_⟩
      rw [i2]
      cases neg <;> exact p.same hr (.bl _)
    · rw [if_neg hc] at e; cases e
  · cases e
theorem inT_sound : OpR X (compareOp .In) (rOp X.K ct (oInF false)) := inF_sound op_in_seq
theorem notInT_sound : OpR X (compareOp .NotIn) (rOp X.K ct (oInF true)) := inF_sound op_notIn_seq
end

/-! ### isinstance -/
inductive Ty where
  | b (n : String) | c (C : Nat)
deriving DecidableEq
def tyD (x : Vl) (h : Hs) : Option Ty := match insOf x h with
  | some (C, _) => some (.c C)
  | none => (tyO x h).map .b
def tyW (ct : CT) : Ty → Value
  | .b n => .type n
  | .c C => .ref (ct.ca C)
/-- what isinstance asks of an own class -/
structure IsiC (K : PySem.W.Frag) (C : Addr) : Prop where
  cl : Cls K C
  ha : PySem.W.findIn K (.ref C) "__class__" = some (some (.builtin "object.__class__"))
  hn : PySem.W.specialIn K (.builtin "object.__class__") "__get__" = some (some (.builtin "getset_descriptor.__get__"))
  htk : PySem.W.takesIn K (.builtin "object.__class__") = some true
  hm : PySem.W.mroIn K C (.type "object") = some true
def lookT (t : Ty) : List (Ty × Bool) → Option Bool
  | [] => none
  | (s, b) :: r => if s = t then some b else lookT t r
/-- the answers of isinstance for the types that may come -/
def IsiOk (K : PySem.W.Frag) (ct : CT) (u : Value) (l : List (Ty × Bool)) : Prop := ∀ t b, lookT t l = some b → PySem.W.kitOne K (tyW ct t) u = some b ∧ ∀ C, t = .c C → IsiC K (ct.ca C)
theorem IsiOk.nil {K : PySem.W.Frag} {ct : CT} {u : Value} : IsiOk K ct u [] := fun t b h => nomatch h
theorem IsiOk.cons {K : PySem.W.Frag} {ct : CT} {u : Value} {s : Ty} {b : Bool} {l : List (Ty × Bool)} (h1 : PySem.W.kitOne K (tyW ct s) u = some b) (h2 : ∀ C, s = .c C → IsiC K (ct.ca C)) (h : IsiOk K ct u l) : IsiOk K ct u ((s, b) :: l) := fun t b' e => by
  unfold lookT at e
  split at e
  · rename_i q
    subst q
    cases e
    exact ⟨h1, h2⟩
  · exact h t b' e
theorem IsiOk.consB {K : PySem.W.Frag} {ct : CT} {u : Value} {s : String} {b : Bool} {l : List (Ty × Bool)} (h1 : PySem.W.kitOne K (.type s) u = some b) (h : IsiOk K ct u l) : IsiOk K ct u ((.b s, b) :: l) := .cons h1 (fun _ e => nomatch e) h
theorem IsiOk.consC {K : PySem.W.Frag} {ct : CT} {u : Value} {s : Nat} {b : Bool} {l : List (Ty × Bool)} (h1 : PySem.W.kitOne K (.ref (ct.ca s)) u = some b) (h2 : IsiC K (ct.ca s)) (h : IsiOk K ct u l) : IsiOk K ct u ((.c s, b) :: l) := .cons h1 (fun _ e => by cases e; exact h2) h
theorem isi_any {K : PySem.W.Frag} {ct : CT} {b : String} (h : kitB b b = some true) : ∀ l : List (String × Bool), (l.all fun p => decide (kitB p.1 b = some p.2)) = true → IsiOk K ct (.type b) (l.map fun p => (Ty.b p.1, p.2))
  | [], _ => .nil
  | p :: l, e => by
    simp only [List.all_cons, Bool.and_eq_true, decide_eq_true_eq] at e
    exact .consB (kit_ty e.1) (isi_any h l (by simpa using e.2))
def eIsi (l : List (Ty × Bool)) (f : SemE) : SemE := fun σ h => rb (f σ h) fun x h1 => match tyD x h1 with
  | some t => (match lookT t l with
    | some b => .ok (.d (.bl b)) h1
    | none => .bad)
  | none => .bad
theorem tyD_sound {K : PySem.W.Frag} {ct : CT} {m : List Addr} {ah : Hs} {H : Hp} (hr : HR K ct m ah H) {x : Vl} {v : V} {t : Ty} (r : VlR K ct m ah H x v) (e : tyD x ah = some t) (hc : ∀ C, t = .c C → IsiC K (ct.ca C)) : TyX K H v (tyW ct t) := by
  unfold tyD at e
  split at e
  · rename_i C fs q
    cases e
    obtain ⟨a, dx, vs, rfl, h1, _⟩ := ins_of hr q r
    have z := hc C rfl
    exact .base (.ins h1 z.cl z.ha z.hn z.htk z.hm)
  · cases q : tyO x ah with
    | none => rw [q] at e; cases e
    | some n => rw [q] at e; cases e; exact tyO_sound hr r q
section
variable {X : Cx} {ct : CT} {W : WX} {pos p p2 : Pos} {e : Expr} {f : SemE} {x : Str} {l : List (Ty × Bool)}
theorem pe_isi {c : V} {u : Value} (hk : ClsV c u) (h2 : PE X (.Name x p2) (tC c)) (ho : IsiOk X.K ct u l) (hg : Gl X "isinstance") (hm : X.mg "isinstance" = none) (he : SE X ct W e f)
    (h1 : starEach [e, .Name x p2] X.env = (false, eval e X.env) :: starEach [.Name x p2] X.env := by rfl) : SE X ct W (.Call (.Name "isinstance" p) [e, .Name x p2] [] pos) (eIsi l f) :=
  PE.imp (pe_callB call_isi hg hm PyProof.Rows.boot_isinstance (pa_cons he (pa_cons h2 pa_nil (by rfl)) h1) (by decide) (by decide) h1 (by rfl)) fun σV H Q ⟨m, ah, σ, hr, lr, p⟩ => ⟨m, ah, σ, hr, lr, (Po.bind (R := VlR X.K ct) p).imp fun v H1 ⟨m1, h1, x, hr1, e1, r1, p1⟩ => by
    dsimp only at p1
    cases q : tyD x h1 with
    | none => rw [q] at p1; exact p1.elim
    | some t =>
      rw [q] at p1
      dsimp only at p1
      cases q2 : lookT t l with
      | none => rw [q2] at p1; exact p1.elim
      | some b =>
        rw [q2] at p1
        obtain ⟨k1, k2⟩ := ho t b q2
        exact ⟨v, c, _, u, b, rfl, hk, tyD_sound hr1 r1 q k2, k1, p1 m1 H1 _ hr1 (Ext.refl _ _ _) (.bl b)⟩⟩
/-- isinstance(e, T), T built in -/
theorem se_isiB {T : String} (hg2 : Gl X x) (hm2 : X.mg x = none) (hv : bootBuiltins x = some (.type T)) (ho : IsiOk X.K ct (.type T) l) (hg : Gl X "isinstance") (hm : X.mg "isinstance" = none) (he : SE X ct W e f) (hn : x ≠ "__name__" := by decide) (hd : (x == ("__debug__" : Str)) = false := by decide)
    (h1 : starEach [e, .Name x p2] X.env = (false, eval e X.env) :: starEach [.Name x p2] X.env := by rfl) : SE X ct W (.Call (.Name "isinstance" p) [e, .Name x p2] [] pos) (eIsi l f) :=
  pe_isi (.ty T) (pe_bltn hg2 hm2 hv (v := .ty T) rfl hn hd) ho hg hm he h1
/-- isinstance(e, C), C own -/
theorem se_isiC {C : Addr} (hg2 : Gl X x) (hm2 : X.mg x = some (.ref C)) (ho : IsiOk X.K ct (.ref C) l) (hg : Gl X "isinstance") (hm : X.mg "isinstance" = none) (he : SE X ct W e f) (hd : (x == ("__debug__" : Str)) = false := by decide)
    (h1 : starEach [e, .Name x p2] X.env = (false, eval e X.env) :: starEach [.Name x p2] X.env := by rfl) : SE X ct W (.Call (.Name "isinstance" p) [e, .Name x p2] [] pos) (eIsi l f) :=
  pe_isi (.own C) (pe_glob hg2 hm2 (v := .ref C) rfl hd) ho hg hm he h1

/-! ### == of two instances of an own class -/
def oOwn (call : CallT) (i C : Nat) : Op2 := fun x y h => match insOf x h, insOf y h with
  | some (C1, _), some (C2, _) => if C1 = C ∧ C2 = C then (match call i [x, y] h with
    | .ok (.d (.bl b)) h' => some (.d (.bl b), h')
    | _ => none) else none
  | _, _ => none
theorem own_sound {call : CallT} {i C n : Nat} {fns : List Fn} {F : Fn} (co : CallOk X.prog X.w X.K X.mg X.base ct fns call n) (hr : Room (2 * n + 1) X.A) (hF : fns[i]? = some F)
    (hs : PySem.W.findIn X.K (.ref (ct.ca C)) "__eq__" = some (some (.ref F.f))) (hf : PySem.W.isFn X.K (.ref F.f) = true) (hb : Binds X.K F.fd F.ps []) : OpR X (compareOp .Eq) (rOp X.K ct (oOwn call i C)) := by
  intro pins s σ H x y v u Q I rx ry ⟨m, ah, a, b, h1, ra, rb, p⟩
  unfold oOwn at p
  split at p
  · rename_i C1 f1 C2 f2 q1 q2
    split at p
    · rename_i hc
      obtain ⟨rfl, rfl⟩ := hc
      obtain ⟨l1, d1, v1, rfl, g1, _⟩ := ins_of h1 q1 ra
      obtain ⟨l2, d2, v2, rfl, g2, _⟩ := ins_of h1 q2 rb
      cases rx
      cases ry
      obtain ⟨mA, J, _⟩ := ins_get I.hok g1
      obtain ⟨mB, J', _⟩ := ins_get I.hok g2
      obtain ⟨od, J, _⟩ := J.look
      obtain ⟨od', J', _⟩ := J'.look
      obtain ⟨mm, hFr⟩ := I.fr
      refine PySem.W.cmp_K (op := .Eq) (tb := .ref (ct.ca C2)) hr.units0 hFr I.ok.mod.kin J J'.type (by simp [PySem.W.notFirst]) hs hf ?_
      cases q : call i [a, b] ah with
      | bad => rw [q] at p; exact p.elim
      | exc ex h2 => rw [q] at p; exact p.elim
      | ok z h2 =>
        rw [q] at p
        split at p
        · rename_i z' bb h3 heq
          cases heq
          refine wpAny_mono (run_cl (W := W0) (Q := fun v H' => v = .bl bb ∧ Q (.bl bb) H') (us := [.ref l1, .ref l2]) (vs := [.ref l1, .ref l2]) (dvs := []) co hF hr hb .nil (fun _ _ ⟨_, _, _, _, _, _, _, _, _, _, _, _, _, _, _, _, w⟩ => w.elim) I (.cons rfl (.cons rfl .nil))
            ⟨m, ah, [a, b], h1, .cons ra (.cons rb .nil), ?_⟩) (fun w s' ⟨x, H', I', rw', e1, q'⟩ => ?_) fun _ _ z => z
          · rw [q]
            refine fun m2 H2 v2 hr2 e2 r2 => ?_
            cases r2
            exact ⟨rfl, p m2 H2 _ hr2 e2 (.bl bb)⟩
          · subst e1
            cases rw'
            exact ⟨.bl bb, H', I', rfl, q'⟩
        · exact p.elim
    · exact p.elim
  · exact p.elim
end
end Mi

/-! Mi9: enumerate over a tuple -/
namespace Mi
open PySem PySem.Spec L2

/-- the tuple at a, each item in a new pair -/
def IteT (K : PySem.W.Frag) (a : Addr) : It :=
  { go := fun i H => ∃ (xs : List V) (x : V), SqT K H a xs ∧ xs[i]? = some x
    yld := fun i H v H' => ∃ T x, v = .ref T ∧ H T = none ∧ H' = upd H T (.tup [.int (i : Nat), x]) ∧ ∀ xs, SqT K H a xs → xs[i]? = some x
    stop := fun i H => ∃ xs : List V, SqT K H a xs ∧ xs.length ≤ i }
theorem SqT.uniq {X : Cx} {pins : List (Addr × Obj)} {σ : L2.St} {H : Hp} {s : Shared} {a : Addr} {xs ys : List V} (I : Inv X pins σ H s) (h : SqT X.K H a xs) (g : SqT X.K H a ys) : xs = ys := I.tuple_inj h g
theorem turn_enumT {P : Program} {w : World} {K : PySem.W.Frag} {elts : List Expr} {kk : Nat} {tpos : Pos} (a e it : Addr) :
    Turn P w K (.Tuple elts kk tpos) (IteT K a) [e, it] e (fun i h => (∃ old, IsEnum h e it ((i : Nat) : Int) old) ∧ h.IsTupleIter it a i ∧ e ≠ it) where
  mem := List.mem_cons_self
  obj := fun i h st b hb => by
    obtain ⟨⟨old, he⟩, ⟨o, ho, hc, hd⟩, _⟩ := st
    rcases List.mem_cons.mp hb with rfl | hb
    · exact ⟨_, he, fun v q => nomatch q⟩
    · obtain rfl := List.mem_singleton.mp hb
      exact ⟨o, ho, fun v q => by rw [hd] at q; cases q⟩
  keep := fun i h h' ⟨⟨old, he⟩, hi, hne⟩ k => ⟨⟨old, k e List.mem_cons_self _ he⟩, hi.at fun o q => k it (List.mem_cons_of_mem _ (List.mem_singleton.mpr rfl)) o q, hne⟩
  item := by
    rintro X rfl rfl rfl hc i pins s σ H E I hf ⟨⟨old, he⟩, hit, hne⟩ ⟨xs, x, hq, hx⟩
    obtain ⟨its, rv, p, hz⟩ := I.tuple hq
    obtain ⟨u, hu, ru⟩ := rv.get hx
    have hel : e < s.heap.objs.size := Heap.lt_size he
    have hil : it < s.heap.objs.size := by obtain ⟨_, q, _⟩ := hit; exact Heap.lt_size q
    have nae : a ≠ e := fun z => by
      obtain ⟨o, ho, hcl, _⟩ := p
      rw [z] at ho
      have := (Option.some.inj (ho.symm.trans he))
      subst this
      exact absurd (Value.type.inj hcl) (by decide)
    have nai : a ≠ it := fun z => by
      obtain ⟨o, ho, hcl, _⟩ := p
      obtain ⟨o2, ho2, hcl2, _⟩ := hit
      rw [z] at ho
      have := (Option.some.inj (ho.symm.trans ho2))
      subst this
      exact absurd (Value.type.inj (hcl.symm.trans hcl2)) (by decide)
    have hh : X.A.in1.handled = none := I.ok.hd hc
    refine wpAny_pyNext_enum_itemD (Draws.tuple hh it a nai its.toArray) he ⟨hit, p⟩ (by have := (List.getElem?_eq_some_iff.mp hu).1; simpa using this) hne
      (fun z => by rcases List.mem_cons.mp z with q | q; exact hne q; exact nae (List.mem_singleton.mp q).symm) fun y h' tk hy ho hs' hT hsz hk => ?_
    obtain ⟨hit', hpt⟩ := hs'
    have ey : y = u := by
      have e2 : its.toArray[i]? = some u := by simpa using hu
      rw [e2] at hy
      exact (Option.some.inj hy).symm
    subst ey
    refine ⟨_, rfl, wpAny_letOwnedTupleGo_enum (s := { s with heap := h', toks := tk + 1 }) ho fun h'' he' sb => ?_⟩
    have hT2 : h''.get? s.heap.objs.size = some { cls := .type "tuple", data := .seq #[.int i tk, y] } := (sb.2 _ (Nat.ne_of_gt hel)).trans hT
    have new : ObjOk X.prog X.w (upd H s.heap.objs.size (.tup [.int (i : Nat), x])) h'' s.heap.objs.size (.tup [.int (i : Nat), x]) :=
      ⟨by show 2 ≤ sizeLine; decide, [.int i tk, y], .cons ⟨_, rfl⟩ (.cons ru .nil), ⟨_, hT2, rfl, _, rfl⟩⟩
    have mem : ∀ b, b ∉ [e, it] → b ≠ e ∧ b ≠ it := fun b hb => ⟨fun z => hb (z ▸ List.mem_cons_self), fun z => hb (z ▸ List.mem_cons_of_mem _ (List.mem_singleton.mpr rfl))⟩
    have I1 : Inv X pins σ (upd H s.heap.objs.size (.tup [.int (i : Nat), x])) { s with heap := h'', toks := tk + 1 } :=
      I.turnedNew (ch := [e, it]) (fun b ob hb q => (sb.2 b (mem b hb).1).trans (hk b ob (mem b hb).1 (mem b hb).2 q)) hf (Nat.le_refl _) new
    refine ⟨.ref s.heap.objs.size, _, I1, rfl, ⟨_, x, rfl, I.hok.fresh (Nat.le_refl _), rfl, fun ys hy => by rw [SqT.uniq I hy hq]; exact hx⟩, ⟨⟨y, ?_⟩, hit'.at fun o q => (sb.2 it (Ne.symm hne)).trans q, hne⟩, fun b hb => ?_⟩
    · rw [show ((i + 1 : Nat) : Int) = (i : Int) + 1 by omega]; exact he'
    · have hb' : b < s.heap.objs.size := by
        rcases List.mem_cons.mp hb with rfl | hb
        · exact hel
        · obtain rfl := List.mem_singleton.mp hb; exact hil
      rw [upd_ne (Nat.ne_of_lt hb')]
      exact (hf b hb).1
  done := by
    rintro X rfl rfl rfl hc i pins s σ H E I hf ⟨⟨old, he⟩, hit, hne⟩ ⟨xs, hq, hx⟩
    obtain ⟨its, rv, p, hz⟩ := I.tuple hq
    obtain ⟨f0, f1, f2, f3, f4, f5⟩ := hf it (List.mem_cons_of_mem _ (List.mem_singleton.mpr rfl))
    have hl := rv.length
    have nai : a ≠ it := fun z => by
      obtain ⟨o, ho, hcl, _⟩ := p
      obtain ⟨o2, ho2, hcl2, _⟩ := hit
      rw [z] at ho
      have := (Option.some.inj (ho.symm.trans ho2))
      subst this
      exact absurd (Value.type.inj (hcl.symm.trans hcl2)) (by decide)
    have hh : X.A.in1.in1.handled = none := I.ok.hd hc
    unfold pyNext
    refine wpAny_bind (wpAny_attempt (wpAny_callSpecial?_slot (name := Str.ofString "__next__") ⟨_, he, rfl⟩ F.slot_enumerate_next
      (wpAny_call_entry F.slot_enumerate_next ⟨_, he, rfl⟩ F.entry_enumerate_next ?_ (F.args_enumerate_next_1 _))))
    show wpAny _ _ (field (.ref e) 2 >>= _) _ _ _
    refine wpAny_bind (wpAny_field he rfl (x := .ref it) rfl ?_)
    refine wpAny_bind (wpAny_nextOf_tuple_end (A := X.A.in1) hh hit p (by simp; omega) fun h' x he' hx' => ?_)
    obtain ⟨o, ho, hc'⟩ := hx'
    refine wpAny_bind (wpAny_isInstance (T := "StopIteration") (b := true) ⟨o, ho, hc'⟩ isSubtype_stop ?_)
    exact wpAny_pure ⟨rfl, I.turned (t' := s.toks) (fun b o hb q => he' b o hb q) f0 f1 f3 f4 f5⟩
  self := fun A i s Q E ⟨⟨_, he⟩, _⟩ h => wpAny_pyIter_enum he h

abbrev tupIt (t : Addr) : Obj := { cls := .type "tuple_iterator", data := .fields #[.ref t, .int 0 0] }
abbrev enRec (it : Addr) : Obj := { cls := .type "enumerate", data := .fields #[.none, .bool false, .ref it, rawInt 0, .none, .none] }
set_option maxHeartbeats 1000000 in
theorem enum_newT (t : Addr) (items : Array Value) :
    Meets (Builtin.«enumerate.__new__» ⟨[.type "enumerate", .ref t], []⟩) (fun _ R s => s.heap.IsTuple t items ∧
      R (.ok (.ret (.ref (s.heap.push (tupIt t)).objs.size))) { s with heap := (s.heap.push (tupIt t)).push (enRec s.heap.objs.size) }) :=
  .of_wp fun prog w A R s h => by
    obtain ⟨hp, g, d, tk, os⟩ := s; obtain ⟨h1, h⟩ := h
    have hsub := sub_enumerate
    have q1 : ∀ {A' : Around} {E : Value → Shared → Prop} {Q : Value → Shared → Prop}, Q (.ref hp.objs.size) ⟨hp.push (tupIt t), g, d, tk, os⟩ → wpAny (model prog w) A' (pyIter (.ref t)) Q E ⟨hp, g, d, tk, os⟩ :=
      fun q => wpAny_pyIter_tuple h1 q
    wp_walk using q1
    refine wpAny_stack_any fun st => wpAny_pure ?_
    split
    · rename_i c _ _ _ _ _
      cases (c == Value.type "enumerate") <;> (wp_walk using q1; exact ⟨_, rfl, h⟩)
    · wp_walk using q1
      exact ⟨_, rfl, h⟩
theorem call_enumT {prog : Program} {w : World} {A : Around} {E : Value → Shared → Prop} {s : Shared} {t : Addr} {items : Array Value} {Q : Value → Shared → Prop} (hL : s.heap.IsTuple t items)
    (h : ∀ h', IsEnum h' (s.heap.objs.size + 1) s.heap.objs.size 0 .none → h'.IsTupleIter s.heap.objs.size t 0 →
      (∀ b o, s.heap.get? b = some o → h'.get? b = some o) → Q (.ref (s.heap.objs.size + 1)) { s with heap := h' }) :
    wpAny (model prog w) A (call (.type "enumerate") [.ref t]) Q E s := by
  refine callType_new F.called_enumerate (by decide) (F.typeCall_enumerate_1 _) (F.newCall_enumerate_1 _) (fun obj => F.args_object_init_2 obj _) F.entry_enumerate_new (enum_newT t items) ⟨hL, ?_⟩
  have hz : (s.heap.push (tupIt t)).objs.size = s.heap.objs.size + 1 := Heap.size_push ..
  have he : ((s.heap.push (tupIt t)).push (enRec s.heap.objs.size)).get? (s.heap.objs.size + 1) = some (enRec s.heap.objs.size) := by
    rw [← hz]; exact Heap.get?_push_size _ rfl
  show _ ∧ _
  rw [hz]
  exact ⟨⟨_, he, rfl⟩, h _ he ⟨_, Heap.get?_push_of_some _ (Heap.get?_push_size _ rfl), rfl, rfl⟩ fun b o x => Heap.get?_push_of_some _ (Heap.get?_push_of_some _ x)⟩

def iEnumT (K : PySem.W.Frag) (ta : TA) : TI := fun σ H R => ta σ H fun vs H1 => ∃ a xs, vs = [.ref a] ∧ SqT K H1 a xs ∧ R (IteT K a) H1
section
variable {X : Cx} {ct : CT} {W : WX} {e : Expr} {ta : TA} {p pos tpos : Pos} {elts : List Expr} {kk : Nat} {fs : SemA}
theorem pi_enumT (hg : Gl X "enumerate") (hm : X.mg "enumerate" = none) (ha : PA X [e] ta) (hs : starEach [e] X.env = [(false, eval e X.env)] := by rfl) :
    PI X (.Tuple elts kk tpos) (.Call (.Name "enumerate" p) [e] [] pos) (iEnumT X.K ta) := by
  refine ⟨fun pins s σ H R I h => ?_⟩
  refine PyProof.Rows.Call_ (ld_blt I hg hm PyProof.Rows.boot_enumerate (PyProof.Rows.callWith_type1 (thn (ha.run pos pins s σ H _ I h) fun us s1 ⟨vs, H1, I1, r1, a, xs, ex, hq, q⟩ => ?_) hs rfl))
  subst ex
  obtain ⟨u, rfl, r⟩ := r1.one
  cases r
  obtain ⟨its, rv, p', hz⟩ := I1.tuple hq
  refine call_enumT p' fun h' he hit hk => wpAny_pyIter_enum he ?_
  refine ⟨s1.heap.objs.size + 1, [s1.heap.objs.size + 1, s1.heap.objs.size], _, _, H1, rfl, I1.kept (t' := s1.toks) hk, turn_enumT a (s1.heap.objs.size + 1) s1.heap.objs.size, ⟨⟨.none, he⟩, hit, Nat.succ_ne_self _⟩, fun b hb => ?_, q⟩
  have hle : s1.heap.objs.size ≤ b := by
    rcases List.mem_cons.mp hb with rfl | hb
    · exact Nat.le_add_right _ _
    · obtain rfl := List.mem_singleton.mp hb; exact Nat.le_refl _
  exact I1.fpOk hle (I1.hok.fresh hle)
theorem wks_enumT {K : PySem.W.Frag} {m : List Addr} {ah : Hs} {H : Hp} {a : Addr} {ds : List D} {vs : List V} (h : H a = some (.tup vs) ∧ Sf m ah a) (r : DRs K ct (Sf m ah) H ds vs) : Wks K ct (enumD ds) m ah H (IteT K a) := fun m2 h2 H2 hr ex => by
  have h' : SqT K H2 a vs := sqT_of (sqT_ext ex h)
  have r' := r.mono ex
  refine ⟨fun i hi => ⟨vs, h', by rw [← r.length]; rw [enumD_len] at hi; exact hi⟩, fun i d hd => ?_⟩
  rw [enumD_get] at hd
  cases q : ds[i]? with
  | none => rw [q] at hd; cases hd
  | some d0 =>
    rw [q] at hd; cases hd
    obtain ⟨y, hy, ry⟩ := r'.get q
    refine ⟨⟨vs, y, h', hy⟩, fun x H3 hx => ?_⟩
    obtain ⟨T, x1, rfl, hT, rfl, hx⟩ := hx
    have e := hx vs h'
    rw [hy] at e
    cases e
    exact pair_new hr hT (.int _) ry
def iEnT (f : SemA) : SemI := fun σ h => rb (f σ h) fun xs h1 => match xs with
  | [.d (.tup ds)] => .ok (enumD ds) h1
  | _ => .bad
theorem si_enumT (hg : Gl X "enumerate") (hm : X.mg "enumerate" = none) (ha : SA X ct W [e] fs) (hs : starEach [e] X.env = [(false, eval e X.env)] := by rfl) : SI X ct W (.Tuple elts kk tpos) (.Call (.Name "enumerate" p) [e] [] pos) (iEnT fs) :=
  PI.imp (pi_enumT hg hm ha hs) fun σV H R ⟨m, ah, σ, hr, lr, p⟩ => ⟨m, ah, σ, hr, lr, (Po.bind (R := VlRs X.K ct) p).imp fun vs H1 ⟨m1, h1, xs, hr1, e1, r1, p1⟩ => by
    dsimp only at p1
    split at p1
    · cases r1 with
      | cons r t =>
        cases t
        cases r with
        | tup h r => exact ⟨_, _, rfl, sqT_of h, p1 m1 H1 _ hr1 (Ext.refl _ _ _) (wks_enumT h r)⟩
    · exact p1.elim⟩
end
end Mi

/-! Mi10: what the printed parts lean on: names, facts, the head's own hook, the law's end -/
namespace Mi
open PySem PySem.Spec L2

/-! ### a list or a tuple is walked -/
def iSeq (f : SemE) : SemI := iOf pureSeq f
theorem si_seq {X : Cx} {ct : CT} {W : WX} {tg e : Expr} {f : SemE} (he : SE X ct W e f) : SI X ct W tg e (iSeq f) :=
  ⟨fun pins s σV H R I ⟨m, ah, σ, hr, lr, p⟩ => by
    unfold iSeq iOf at p
    cases q : f σ ah with
    | bad => rw [q] at p; exact p.elim
    | exc e h => rw [q] at p; exact (si_list he).run pins s σV H R I ⟨m, ah, σ, hr, lr, by unfold iLs iOf; rw [q]; exact p⟩
    | ok x h =>
      rw [q] at p
      cases q2 : pureLst x with
      | some ds =>
        refine (si_list he).run pins s σV H R I ⟨m, ah, σ, hr, lr, ?_⟩
        unfold iLs iOf
        rw [q]
        have e3 : pureSeq x = some ds := by
          cases x with
          | r k => cases q2
          | d d => cases d <;> first | exact q2 | cases q2
        simp only [rb_ok, e3] at p
        simp only [rb_ok, q2]
        exact p
      | none =>
        cases q3 : pureTup x with
        | some ds =>
          refine (si_tup he).run pins s σV H R I ⟨m, ah, σ, hr, lr, ?_⟩
          unfold iTu iOf
          rw [q]
          have e3 : pureSeq x = some ds := by
            cases x with
            | r k => cases q3
            | d d => cases d <;> first | exact q3 | cases q3
          simp only [rb_ok, e3] at p
          simp only [rb_ok, q3]
          exact p
        | none =>
          have e3 : pureSeq x = none := by
            cases x with
            | r k => rfl
            | d d => cases d <;> first | rfl | (cases q2; done) | (cases q3; done)
          simp only [rb_ok, e3] at p
          exact p.elim⟩

/-! ### names of attributes -/
def nmL (l : List Str) (n : Nat) : Str := match l[n]? with
  | some x => x
  | none => ⟨Array.replicate (n + 1) 0⟩
def okL (l : List Str) : Bool := decide l.Nodup && l.all fun x => x.cps[0]? != some 0
theorem nmL_new {l : List Str} {x : Str} (h1 : x ∉ l) (h2 : x.cps[0]? ≠ some 0) (n : Nat) : nmL l n ≠ x := fun e => by
  unfold nmL at e
  split at e
  · rename_i y hy
    subst e
    exact h1 (List.mem_of_getElem? hy)
  · subst e
    exact h2 (by simp)
theorem nmL_inj {l : List Str} (h : okL l = true) (a b : Nat) (e : nmL l a = nmL l b) : a = b := by
  unfold okL at h
  simp only [Bool.and_eq_true, decide_eq_true_eq, List.all_eq_true, bne_iff_ne, ne_eq] at h
  obtain ⟨nd, nz⟩ := h
  unfold nmL at e
  cases ha : l[a]? with
  | some x =>
    rw [ha] at e
    cases hb : l[b]? with
    | some y =>
      rw [hb] at e
      dsimp only at e
      subst e
      have la := (List.getElem?_eq_some_iff.mp ha).1
      exact (List.getElem?_inj la nd).mp (ha.trans hb.symm)
    | none =>
      rw [hb] at e
      dsimp only at e
      exact absurd (by rw [e]; simp) (nz x (List.mem_of_getElem? ha))
  | none =>
    rw [ha] at e
    cases hb : l[b]? with
    | some y =>
      rw [hb] at e
      dsimp only at e
      exact absurd (by rw [← e]; simp) (nz y (List.mem_of_getElem? hb))
    | none =>
      rw [hb] at e
      dsimp only at e
      have := congrArg (fun z : Str => z.cps.size) e
      simpa using this

/-! ### what is known of the written part -/
/-- the answers of isinstance with a built-in class -/
abbrev isiL (t : List String) : List (Ty × Bool) := ["NoneType", "bool", "int", "str", "tuple", "list", "dict"].map fun a => (Ty.b a, decide (a ∈ t))
theorem isi_int {K : PySem.W.Frag} {ct : CT} : IsiOk K ct (.type "int") (isiL ["int", "bool"]) := isi_any (by decide +kernel) [("NoneType", false), ("bool", true), ("int", true), ("str", false), ("tuple", false), ("list", false), ("dict", false)] (by decide +kernel)
theorem isi_bool {K : PySem.W.Frag} {ct : CT} : IsiOk K ct (.type "bool") (isiL ["bool"]) := isi_any (by decide +kernel) [("NoneType", false), ("bool", true), ("int", false), ("str", false), ("tuple", false), ("list", false), ("dict", false)] (by decide +kernel)
theorem isi_str {K : PySem.W.Frag} {ct : CT} : IsiOk K ct (.type "str") (isiL ["str"]) := isi_any (by decide +kernel) [("NoneType", false), ("bool", false), ("int", false), ("str", true), ("tuple", false), ("list", false), ("dict", false)] (by decide +kernel)
theorem isi_tuple {K : PySem.W.Frag} {ct : CT} : IsiOk K ct (.type "tuple") (isiL ["tuple"]) := isi_any (by decide +kernel) [("NoneType", false), ("bool", false), ("int", false), ("str", false), ("tuple", true), ("list", false), ("dict", false)] (by decide +kernel)
theorem isi_list {K : PySem.W.Frag} {ct : CT} : IsiOk K ct (.type "list") (isiL ["list"]) := isi_any (by decide +kernel) [("NoneType", false), ("bool", false), ("int", false), ("str", false), ("tuple", false), ("list", true), ("dict", false)] (by decide +kernel)
theorem isi_dict {K : PySem.W.Frag} {ct : CT} : IsiOk K ct (.type "dict") (isiL ["dict"]) := isi_any (by decide +kernel) [("NoneType", false), ("bool", false), ("int", false), ("str", false), ("tuple", false), ("list", false), ("dict", true)] (by decide +kernel)
/-- what a call of a def leans on -/
structure FnI (K : PySem.W.Frag) (F : Fn) : Prop where
  kp : PySem.W.keepIn K (.ref F.f) = true
  bi : Binds K F.fd F.ps []
/-- .. of the context -/
structure Cq (X : Cx) (ct : CT) (fns : List Fn) (call : CallT) (n : Nat) : Prop where
  co : CallOk X.prog X.w X.K X.mg X.base ct fns call n
  ro : Room (2 * n + 2) X.A
theorem takesW {X : Cx} : Takes X W0 := fun _ _ ⟨_, _, _, _, _, _, _, _, _, _, _, _, _, _, _, _, w⟩ => w.elim
section
variable {X : Cx} {ct : CT} {W : WX} {pos p apos : Pos} {e o : Expr} {es : List Expr} {f : SemE} {fs : SemA} {call : CallT} {n i : Nat} {F : Fn} {x : Str} {fns : List Fn}
theorem sc_call (c : Cq X ct fns call n) (tk : Takes X W) (fi : FnI X.K F) (hm : X.mg x = some (.ref F.f)) (hF : fns[i]? = some F) (hg : Gl X x) (ha : SA X ct W (e :: es) fs) (hdb : (x == ("__debug__" : Str)) = false := by decide)
    (he : starEach (e :: es) X.env = (false, eval e X.env) :: starEach es X.env := by rfl) (hpl : (backTo pos (starEach es X.env)).any (·.1) = false := by rfl) : SE X ct W (.Call (.Name x p) (e :: es) [] pos) (eCl call i [] fs) :=
  se_call c.co tk (c.ro.mono (Nat.le_succ _)) hF hg hm fi.kp fi.bi .nil Dfl.nil ha hdb he hpl
theorem sc_call0 (c : Cq X ct fns call n) (tk : Takes X W) (fi : FnI X.K F) (hm : X.mg x = some (.ref F.f)) (hF : fns[i]? = some F) (hg : Gl X x) (hdb : (x == ("__debug__" : Str)) = false := by decide) : SE X ct W (.Call (.Name x p) [] [] pos) (eCl call i [] aNil) :=
  se_call0 c.co tk (c.ro.mono (Nat.le_succ _)) hF hg hm fi.kp fi.bi .nil Dfl.nil hdb
theorem sc_make {C : Nat} (c : Cq X ct fns call n) (tk : Takes X W) (fi : FnI X.K F) (M : Mk X.K (ct.ca C) F.f) (hm : X.mg x = some (.ref (ct.ca C))) (hF : fns[i]? = some F) (hg : Gl X x) (ha : SA X ct W (e :: es) fs) (hdb : (x == ("__debug__" : Str)) = false := by decide)
    (he : starEach (e :: es) X.env = (false, eval e X.env) :: starEach es X.env := by rfl) (hpl : (backTo pos (starEach es X.env)).any (·.1) = false := by rfl) : SE X ct W (.Call (.Name x p) (e :: es) [] pos) (eMk call i C [] fs) :=
  se_make c.co tk c.ro hF M hg hm fi.bi .nil Dfl.nil ha hdb he hpl
theorem sc_own {C : Nat} (c : Cq X ct fns call n) (fi : FnI X.K F) (M : Meth X.K (ct.ca C) "__eq__" F.f) (hF : fns[i]? = some F) : OpR X (compareOp .Eq) (rOp X.K ct (oOwn call i C)) :=
  own_sound c.co (c.ro.mono (Nat.le_succ _)) hF M.at_ M.fn fi.bi
theorem unR {k : Nat} {A : Around} (r : Room k A) : A.units + 64 < cLine := by have := r.un; omega
theorem unR5 {k : Nat} {A : Around} (r : Room k A) : A.units + 65 < cLine := by have := r.un; omega
theorem un (c : Cq X ct fns call n) : X.A.units + 65 < cLine := by have := c.ro.un; omega
theorem un' (c : Cq X ct fns call n) : X.A.units + 64 < cLine := by have := c.ro.un; omega
end

/-! ### a head that tells further facts -/
open He in
def obsMG (n : Nat) (xf : PySem.W.Frag → Bool) (fa : List Fa) (fn : List DefD) (g : Addr → Option Obj) : Bool × AlD := obsM xf fa fn (frG g (asD g n))
open He in
def hookM (n : Nat) (xf : PySem.W.Frag → Bool) (fa : List Fa) (fn : List DefD) : PySem.W.Hook where
  α := Bool × AlD
  obs := fun s => obsMG n xf fa fn s.heap.get?
  val := fun _ => (true, valD fn)
  says := fun _ h => ∃ K : PySem.W.Frag, K.In h ∧ SaysM xf fa fn K
  of := fun _ _ e => ⟨_, frG_in, e⟩
  keeps := fun _ _ _ ⟨K, hK, c⟩ k => ⟨K, PySem.W.Frag.In.keeps hK k, c⟩
open He in
theorem obsMG_eq {n : Nat} {xf : PySem.W.Frag → Bool} {fa : List Fa} {fn : List DefD} {g : Addr → Option Obj} {s : Shared} (h : ∀ a, g a = s.heap.get? a) : obsMG n xf fa fn g = (hookM n xf fa fn).obs s := by
  rw [show g = s.heap.get? from funext h]; rfl
theorem SaysM.d {xf : PySem.W.Frag → Bool} {fa : List He.Fa} {fn : List He.DefD} {K : PySem.W.Frag} (c : SaysM xf fa fn K) : He.SaysD fa fn K := congrArg (fun z : Bool × He.AlD => z.2) c
theorem SaysM.x {xf : PySem.W.Frag → Bool} {fa : List He.Fa} {fn : List He.DefD} {K : PySem.W.Frag} (c : SaysM xf fa fn K) : xf K = true := congrArg (fun z : Bool × He.AlD => z.1) c
theorem isiB_ok {K : PySem.W.Frag} {C : Addr} (c : Cls K C) (h : isiB K C = true) : IsiC K C := by
  unfold isiB at h
  simp only [Bool.and_eq_true, decide_eq_true_eq] at h
  exact ⟨c, He.eqO_ok h.1, He.eqO_ok h.2.1, h.2.2.1, h.2.2.2⟩
theorem kitA_ok {K : PySem.W.Frag} {t u : Value} {b : Bool} (h : kitA K t u b = true) : PySem.W.kitOne K t u = some b := of_decide_eq_true h
/-! ### the law's end -/
/-- the script as it comes in -/
theorem scr_in {K : PySem.W.Frag} {ct : CT} {H : Hp} {a : Addr} {ns : List Int} (hO : Only H) (h : SqL K H a (ns.map V.int)) : HR K ct [] [] H ∧ DR K ct (Sf [] []) H (.scr (ns.map D.int)) (.ref a) := by
  have r : DRs K ct (Sf [] []) H (ns.map D.int) (ns.map V.int) := by
    clear h hO
    induction ns with
    | nil => exact .nil
    | cons n ns ih => exact .cons (.int n) ih
  have s : Sf [] [] a := fun ⟨k, o, e, _⟩ => by simp at e
  refine ⟨⟨rfl, fun i j a e => by simp at e, fun k a o e => by simp at e⟩, ?_⟩
  refine .scr (h.imp (fun h => ⟨?_, s⟩) id) r
  rcases h with h | h
  · rcases hO a with z | ⟨o, xs, z⟩ <;> rw [z] at h <;> cases h
  · exact h
end Mi

/-! Mi11: the end of a law, where the def's promise knows that no repr is under way -/
namespace Mi
open PySem PySem.Spec PyProof.Rows L2
/-- the law's def is called: nothing but the script may be tracked -/
theorem call_law {P : Program} {w : World} {K : PySem.W.Frag} {mg mb : Str → Option Value} {CX : CXT} {k : Nat} {fA scA : Addr} {fd : FuncData} {x : Str} {sp : Sp} {s1 : Shared} {us : List Value} {ns : List Int}
    (kx : K.In s1.heap) (hmn : s1.heap.Ns mainGlobals mg) (hbn : s1.heap.Ns builtinsNs mb) (hbt : ∀ x : Str, x ≠ "__name__" → mb x = bootBuiltins x) (hli : s1.heap.NoLimit) (hge : s1.gens = #[])
    (hsc : s1.heap.get? scA = some { cls := .type "list", data := .seq us.toArray }) (hin : IntsAre us ns) (hle : ns.length ≤ sizeLine) (hro : Room k callerA)
    (F : ∀ base : Heap, K.In base → base.Ns mainGlobals mg → FnOk P w K mg base CX k fA fd [x] sp) (hbi : ∀ (s : Shared) (u : Value), BindsTo s fd ⟨[u], []⟩ [(x, u)])
    (hpr : ∀ H : Hp, Only H → SqL K H scA (ns.map V.int) → sp [.ref scA] H (fun v _ => v = .bl true) fun _ _ _ => False) (hno : ∀ H e s', CX [] H s1 (fun _ _ _ => False) e s' → False) :
    codeAny (model P w) callerA (.call (.ref fA) ⟨[.ref scA], []⟩) (fun r s' => r = .ok (.ret (.bool true)) ∧ OldK s1.heap s'.heap ∧ s'.os = s1.os ∧ AllBare s'.gens) s1 := by
  have rel := vals_ints hin
  have lenU := hin.length
  have main : ∀ H : Hp, Only H → SqL K H scA (ns.map V.int) → HOk P w H s1.heap → (∀ b, H b ≠ none → b = scA) → (H scA ≠ none → K.lookup scA = none) →
      codeAny (model P w) callerA (.call (.ref fA) ⟨[.ref scA], []⟩) (fun r s' => r = .ok (.ret (.bool true)) ∧ OldK s1.heap s'.heap ∧ s'.os = s1.os ∧ AllBare s'.gens) s1 := by
    intro H only seq hok lone unwritten
    have at_b : ∀ {b : Addr} {o : Obj}, s1.heap.get? b = some o → H b = none → (hidT s1.heap H).get? b = some o := fun e n => hidT_get e n
    have dicts : ∀ {b : Addr} {o : Obj} {es : Array DictEntry} {ep : Nat}, s1.heap.get? b = some o → o.data = .dict es ep → H b = none := fun {b o es ep} e d => by
      cases q : H b with
      | none => rfl
      | some u =>
        obtain rfl : b = scA := lone b (by rw [q]; simp)
        rw [hsc] at e
        cases e
        exact (nomatch (show Data.seq us.toArray _ = Data.dict es ep from d))
    have spaces : ∀ {b : Addr} {m : Str → Option Value}, s1.heap.Ns b m → (hidT s1.heap H).Ns b m := fun ⟨o, es, ep, e, d, r⟩ => ⟨o, es, ep, at_b e (dicts e d), d, r⟩
    have kin : K.In (hidT s1.heap H) := fun b o e => at_b (kx b o e) (by
      cases q : H b with
      | none => rfl
      | some u =>
        obtain rfl : b = scA := lone b (by rw [q]; simp)
        rw [unwritten (by rw [q]; simp)] at e
        cases e)
    have modu : Mod K mg (hidT s1.heap H) := ⟨kin, spaces hmn, ⟨mb, spaces hbn, hbt⟩, let ⟨mc, h1, h2⟩ := hli; ⟨mc, spaces h1, h2⟩⟩
    have env0 : Env0 P w K mg (hidT s1.heap H) callerA [] s1 H := ⟨rfl, modu, fun b o e => of_hidT e, Nat.le_of_eq (hidT_size _ _), trivial, fun b hb => (nomatch (show b ∈ ([] : List Addr) from hb)), hok, .of_eq hge⟩
    refine codeAny_mono ((F _ kin (spaces hmn)).run callerA [] s1 H ⟨[.ref scA], []⟩ [.ref scA] [.ref scA] _ _ hro env0 (hbi s1 (.ref scA)) (.cons rfl .nil) (hpr H only seq)) fun r s' z => ?_
    match r, z with
    | .error e, z => exact (hno H e s' z).elim
    | .ok .next, z => exact False.elim z
    | .ok .brk, z => exact False.elim z
    | .ok .cont, z => exact False.elim z
    | .ok (.ret u), z =>
      obtain ⟨v, H', os, bare, un, hok', rv, q⟩ := z
      have q1 : v = .bl true := q
      subst q1
      obtain rfl : u = Value.bool true := rv
      refine ⟨rfl, OldK.of_keep fun b o e => ?_, os, bare⟩
      rcases hH : H b with _ | u
      · exact un.keep b o e hH (fun z => nomatch (show b ∈ ([] : List Addr) from z)) (by simp)
      · rcases only b with z | ⟨ob, xs, z⟩
        · rw [hH] at z; cases z
        · obtain ⟨e1, _⟩ := hok b _ z
          obtain ⟨e2, _⟩ := hok' b _ (un.frzs b ob _ z)
          rw [e] at e1
          cases e1
          exact e2
  rcases hk : K.lookup scA with _ | o
  · refine main (fun b => if b = scA then some (.frz { cls := .type "list", data := .seq us.toArray } (.lst (ns.map V.int))) else none) (fun b => ?_) (.inl (.inr ⟨{ cls := .type "list", data := .seq us.toArray }, if_pos rfl⟩)) (fun b u z => ?_) (fun b z => ?_) fun _ => hk
    · by_cases e : b = scA
      · exact .inr ⟨_, _, if_pos e⟩
      · exact .inl (if_neg e)
    · by_cases e : b = scA
      · cases (if_pos e).symm.trans z
        subst e
        exact ⟨hsc, by rw [List.length_map]; exact hle, us, _, rel, hsc⟩
      · cases (if_neg e).symm.trans z
    · exact Classical.byContradiction fun e => z (if_neg e)
  · have e := kx scA o hk
    rw [hsc] at e
    cases e
    exact main (fun _ => none) (fun _ => .inl rfl) (.inr ⟨_, us.toArray, _, hk, rfl, rfl, rfl, by rw [List.size_toArray, lenU]; exact hle, by simpa using rel⟩) (fun b u z => nomatch (show (none : Option HO) = some u from z)) (fun b z => absurd rfl z) fun z => absurd rfl z
/-- the walk of a law by facts -/
theorem walk_law {l : PySem.W.OpenLaw} {n k : Nat} {q : Program} {loose : List Str} {XP : (Str → Option Value) → Heap → Prop} {YP : World → Heap → Prop} {d : DefRec} {CX : CXT} {x : Str} (hmo : l.most = some n) (hmo2 : n ≤ sizeLine) (hde : d.params.defaults = []) (hro : Room k callerA)
    (F : ∀ (w : World) (mg : Str → Option Value) (fA : Addr) (h : Heap), YP w h → h.Ns mainGlobals mg → mg d.name = some (.ref fA) → ∃ (K : PySem.W.Frag) (fd : FuncData) (sp : Sp), K.In h ∧ (∀ (s : Shared) (u : Value), BindsTo s fd ⟨[u], []⟩ [(x, u)]) ∧
      (∀ (H : Hp) (a : Addr) (ns : List Int), ns.length ≤ n → Only H → SqL K H a (ns.map V.int) → sp [.ref a] H (fun v _ => v = .bl true) fun _ _ _ => False) ∧ ∀ base : Heap, K.In base → base.Ns mainGlobals mg → FnOk l.prog w K mg base CX k fA fd [x] sp)
    (hno : ∀ (H : Hp) (s : Shared) (e : Value) (s' : Shared), CX [] H s (fun _ _ _ => False) e s' → False) : PySem.W.WalkO q loose XP YP l.row.toRowW d [] (fun f vs => PySem.call f vs) := by
  refine Att.attach_call hmo hde fun w s₀ s₁ mg mb fA o pm cd doc a vs ns G Y ho hd hcd hmg hobj hints hlen hg => ?_
  obtain ⟨K, fd, sp, kx, hb, hsp, hF⟩ := F w mg fA _ Y G.T.g hmg
  exact call_law kx G.T.g G.T.b G.T.builtins G.T.nolimit hg hobj hints (Nat.le_trans hlen hmo2) hro hF hb (fun H hO hS => hsp H a ns hlen hO hS) fun H e s' => hno H s₁ e s'
theorem FnOk.still {P : Program} {w : World} {K : PySem.W.Frag} {mg : Str → Option Value} {base : Heap} {k : Nat} {f : Addr} {fd : FuncData} {ps : List Str} {sp : Sp} (F : FnOk P w K mg base (L2.CX P w) k f fd ps sp) :
    FnOk P w K mg base L2.CX0 k f fd ps (fun vs H Q _ => sp vs H Q fun _ _ _ => False) :=
  ⟨fun vs H Q E h => F.len vs H Q _ h, fun A outer s H args us vs Q E hr e0 hb r h => codeAny_mono (F.run A outer s H args us vs Q _ hr e0 hb r h) fun r s' q => by
    cases r with
    | error e => obtain ⟨_, _, _, _, _, _, _, _, _, _, _, _, z⟩ := q; exact z.elim
    | ok fl => cases fl <;> exact q⟩
theorem law_sp {K : PySem.W.Frag} {ct : CT} {defs : List MDef} {n i : Nat} (hlaw : ∀ ns : List Int, ns.length ≤ 63 → ∃ h, callF defs n i [.d (.scr (ns.map D.int))] [] = .ok (.d (.bl true)) h)
    (H : Hp) (a : Addr) (ns : List Int) (hl : ns.length ≤ 63) (hO : Only H) (hS : SqL K H a (ns.map V.int)) : spC K ct (callF defs n) i [.ref a] H (fun v _ => v = .bl true) (fun _ _ _ => False) := by
  obtain ⟨h, e⟩ := hlaw ns hl
  refine ⟨[], [], [.d (.scr (ns.map D.int))], (scr_in (ct := ct) hO hS).1, .cons (scr_in hO hS).2 .nil, ?_⟩
  rw [e]
  intro m' H' v _ _ r
  cases r
  rfl
end Mi

/-! Mi12: meanings at work: what each combinator gives where it is applied; rules for loops; == of data -/
namespace Mi
open PySem

/-- what range(j) walks -/
def rngR (xs : List Vl) (h1 : Hs) : Res (List D) := match xs with
  | [.d (.int j)] => if smI j = true then .ok (rngD 0 j.toNat) h1 else .bad
  | _ => .bad
theorem rngR_int {i : Int} {h : Hs} (h0 : 0 ≤ i) (h1 : i < 16777216) : rngR [.d (.int i)] h = .ok (rngD 0 i.toNat) h := if_pos (Nat.ble_eq_true_of_le (by omega))
theorem rngR_nat {k : Nat} {h : Hs} (h1 : k < 16777216) : rngR [.d (.int (k : Int))] h = .ok (rngD 0 k) h := by
  rw [rngR_int (by omega) (by omega), Int.toNat_natCast]
/-- tuple(range(n)) -/
def trR (x : Vl) (h1 : Hs) : Res Vl := match x with
  | .d (.int n) => if smR n = true then .ok (.d (.tup (rngD 0 n.toNat))) h1 else .bad
  | _ => .bad
theorem trR_nat {k : Nat} {h : Hs} (h1 : k < 16777216) : trR (.d (.int (k : Int))) h = .ok (.d (.tup (rngD 0 k))) h := by
  unfold trR
  dsimp only
  rw [if_pos (by unfold smR; rw [decide_eq_true (by omega : (0 : Int) ≤ (k : Int)), Bool.true_and]; exact Nat.ble_eq_true_of_le (by omega)), Int.toNat_natCast]
section
variable {σ : Lo} {h : Hs} {f g k : SemE} {t u : SemT} {fs : SemA} {p q : SemS} {call : CallT}
@[simp] theorem ap_var (i : Nat) : eVar i σ h = (match σ[i]? with
  | some (some v) => .ok v h
  | _ => .bad) := rfl
@[simp] theorem ap_k (d : D) : eK d σ h = .ok (.d d) h := rfl
@[simp] theorem ap_bin (op : Op2) : eBin op f g σ h = rb (f σ h) fun x h1 => rb (g σ h1) fun y h2 => ro (op x y h2) := rfl
@[simp] theorem ap_un (op : Op1) : eUn op f σ h = rb (f σ h) fun x h1 => ro (op x h1) := rfl
@[simp] theorem ap_chain (o o' : Op2) : eChain o o' f g k σ h = rb (f σ h) fun x h1 => rb (g σ h1) fun y h2 => rb (ro (o x y h2)) fun z h3 => match z with
  | .d (.bl b) => if b = true then rb (k σ h3) fun w h4 => ro (o' y w h4) else .ok (.d (.bl false)) h3
  | _ => .bad := rfl
@[simp] theorem ap_if : eIf t f g σ h = rb (t σ h) fun b h1 => if b = true then f σ h1 else g σ h1 := rfl
@[simp] theorem ap_an : eAn f g σ h = rb (f σ h) fun x h1 => match truO x h1 with
  | some b => if b = true then g σ h1 else .ok x h1
  | none => .bad := rfl
@[simp] theorem ap_or : eOr f g σ h = rb (f σ h) fun x h1 => match truO x h1 with
  | some b => if b = true then .ok x h1 else g σ h1
  | none => .bad := rfl
@[simp] theorem ap_no : eNo f σ h = rb (f σ h) fun x h1 => match truO x h1 with
  | some b => .ok (.d (.bl (!b))) h1
  | none => .bad := rfl
@[simp] theorem ap_tru : tTru f σ h = rb (f σ h) fun x h1 => match truO x h1 with
  | some b => .ok b h1
  | none => .bad := rfl
@[simp] theorem ap_tbl : tBl f σ h = rb (f σ h) fun x h1 => match x with
  | .d (.bl b) => .ok b h1
  | _ => .bad := rfl
@[simp] theorem ap_tan : tAn t u σ h = rb (t σ h) fun b h1 => if b = true then u σ h1 else .ok false h1 := rfl
@[simp] theorem ap_tor : tOr' t u σ h = rb (t σ h) fun b h1 => if b = true then .ok true h1 else u σ h1 := rfl
@[simp] theorem ap_tno : tNo t σ h = rb (t σ h) fun b h1 => .ok (!b) h1 := rfl
@[simp] theorem ap_tys : tYs σ h = .ok true h := rfl
@[simp] theorem ap_nil : aNil σ h = .ok [] h := rfl
@[simp] theorem ap_cons : aCons f fs σ h = rb (f σ h) fun x h1 => rb (fs σ h1) fun xs h2 => .ok (x :: xs) h2 := rfl
@[simp] theorem ap_tup : eTup fs σ h = rb (fs σ h) fun xs h1 => match toDs xs h1 with
  | some (ds, h2) => if ds.length ≤ 1000 then .ok (.d (.tup ds)) h2 else .bad
  | none => .bad := rfl
@[simp] theorem ap_lv : eLv fs σ h = rb (fs σ h) fun xs h1 => match toDs xs h1 with
  | some (ds, h2) => if ds.length ≤ 1000 then .ok (.d (.lv ds)) h2 else .bad
  | none => .bad := rfl
@[simp] theorem ap_lst : eLst fs σ h = rb (fs σ h) fun xs h1 => match toDs xs h1 with
  | some (ds, h2) => if ds.length ≤ 1000 then .ok (.r h2.length) (h2 ++ [.lst ds]) else .bad
  | none => .bad := rfl
@[simp] theorem ap_onone : oNone σ h = .ok none h := rfl
@[simp] theorem ap_osome : oSome f σ h = rb (f σ h) fun x h1 => match x with
  | .d (.int i) => .ok (some i) h1
  | _ => .bad := rfl
@[simp] theorem ap_sl (lo hi : SemO) : eSl f lo hi σ h = rb (f σ h) fun x h1 => rb (lo σ h1) fun a h2 => rb (hi σ h2) fun b h3 => ro (slO x a b h3) := rfl
@[simp] theorem ap_n (op : OpN) : eN op fs σ h = rb (fs σ h) fun xs h1 => ro (op xs h1) := rfl
@[simp] theorem ap_cl (i : Nat) (ds : List D) : eCl call i ds fs σ h = rb (fs σ h) fun xs h1 => call i (xs ++ ds.map Vl.d) h1 := rfl
@[simp] theorem ap_mk (i C : Nat) (ds : List D) : eMk call i C ds fs σ h = rb (fs σ h) fun xs h1 => mkI call i C (xs ++ ds.map Vl.d) h1 := rfl
@[simp] theorem ap_fd (ok : Nat → Bool) (n : Nat) : eFd ok n f σ h = rb (f σ h) fun x h1 => match insOf x h1 with
  | some (C, fs) => if ok C = true then (match fs.lookup n with
    | some d => .ok (.d d) h1
    | none => .bad) else .bad
  | none => .bad := rfl
@[simp] theorem ap_isi (l : List (Ty × Bool)) : eIsi l f σ h = rb (f σ h) fun x h1 => match tyD x h1 with
  | some t => (match lookT t l with
    | some b => .ok (.d (.bl b)) h1
    | none => .bad)
  | none => .bad := rfl
@[simp] theorem ap_tr : eTR f σ h = rb (f σ h) trR := congrFun (funext fun (_ : Unit) => rfl : (fun _ => eTR f σ h) = fun _ : Unit => rb (f σ h) trR) ()
@[simp] theorem ap_lc (mu : Bool) (vs : List Nat) (it : SemI) (gg : SemG) : eLc mu vs it gg t f σ h = rb (it σ h) fun ds h1 => match cmpL vs gg t f h1.length ds σ (h1 ++ [.lst []]) with
  | some h2 => lcEnd mu h1.length h2
  | none => .bad := rfl
@[simp] theorem ap_lm (op : List D → List D → Hs → Option (List D × Vl)) : eLm op f fs σ h = rb (f σ h) fun x h1 => match x with
  | .r k => (match h1[k]? with
    | some (.lst _) => rb (fs σ h1) fun ys h2 => (match h2[k]? with
      | some (.lst xs) => (match toDs ys h2 with
        | some (ds, h3) => (match h3[k]? with
          | some (.lst _) => (match op xs ds h3 with
            | some (xs', v) => .ok v (h3.set k (.lst xs'))
            | none => .bad)
          | _ => .bad)
        | none => .bad)
      | _ => .bad)
    | _ => .bad)
  | _ => .bad := rfl
@[simp] theorem ap_xt : eXt f fs σ h = rb (f σ h) fun x h1 => match x with
  | .r k => (match h1[k]? with
    | some (.lst _) => rb (fs σ h1) fun ys h2 => (match ys, h2[k]? with
      | [y], some (.lst xs) => (match pureSeq y with
        | some zs => if xs.length + zs.length ≤ sizeLine then .ok (.d .non) (h2.set k (.lst (xs ++ zs))) else .bad
        | none => .bad)
      | _, _ => .bad)
    | _ => .bad)
  | _ => .bad := rfl
@[simp] theorem ap_snil : sNil σ h = .ok .nx σ h := rfl
@[simp] theorem ap_sq : sSq p q σ h = ss (p σ h) q := rfl
@[simp] theorem ap_ex : sEx f σ h = sb (f σ h) σ fun _ h1 => .ok .nx σ h1 := rfl
@[simp] theorem ap_rt : sRt f σ h = sb (f σ h) σ fun x h1 => .ok (.ret x) σ h1 := rfl
@[simp] theorem ap_rtn : sRtN σ h = .ok (.ret (.d .non)) σ h := rfl
@[simp] theorem ap_sif : sIf t p q σ h = sb (t σ h) σ fun b h1 => if b = true then p σ h1 else q σ h1 := rfl
@[simp] theorem ap_brk : sBrk σ h = .ok .brk σ h := rfl
@[simp] theorem ap_cnt : sCnt σ h = .ok .cnt σ h := rfl
@[simp] theorem ap_sbad : sBad σ h = .bad := rfl
@[simp] theorem ap_frz (i : Nat) : sFrz i σ h = (match σ[i]? with
  | some (some x) => (match toD x h with
    | some (d, h1) => .ok .nx (σ.set i (some (.d d))) h1
    | none => .bad)
  | _ => .bad) := rfl
@[simp] theorem ap_as (gg : SemG) : sAs f gg σ h = sb (f σ h) σ fun x h1 => match gg x σ h1 with
  | some (σ', h2) => .ok .nx σ' h2
  | none => .bad := rfl
@[simp] theorem ap_au (i : Nat) (op : Op2) : sAu i op f σ h = (match σ[i]? with
  | some (some x) => sb (f σ h) σ fun y h1 => match op x y h1 with
    | some (z, h2) => .ok .nx (σ.set i (some z)) h2
    | none => .bad
  | _ => .bad) := rfl
@[simp] theorem ap_sfd (ok : Nat → Bool) (n : Nat) : sFd ok n f g σ h = sb (g σ h) σ fun y h1 => match toD y h1 with
  | none => .bad
  | some (d, h2) => sb (f σ h2) σ fun x h3 => match x with
    | .r k => (match h3[k]? with
      | some (.ins C fs) => if ok C = true ∧ fs.length < 900 then .ok .nx σ (h3.set k (.ins C (putN n d fs))) else .bad
      | _ => .bad)
    | _ => .bad := rfl
@[simp] theorem ap_for (it : SemI) (gg : SemG) : sFor it gg p σ h = sb (it σ h) σ fun ds h1 => forL gg p ds σ h1 := rfl
@[simp] theorem ap_gnm (i : Nat) (x : Vl) : gNm i x σ h = some (σ.set i (some x), h) := rfl
@[simp] theorem ap_gni : gNi [] σ h = some (σ, h) := rfl
@[simp] theorem ap_gco (gg : SemG) (gs : SemGs) (x : D) (xs : List D) : gCo gg gs (x :: xs) σ h = (gg (.d x) σ h).bind fun p => gs xs p.1 p.2 := rfl
@[simp] theorem ap_gtp (n : Nat) (gs : SemGs) (xs : List D) : gTp n gs (.d (.tup xs)) σ h = if xs.length = n then gs xs σ h else none := rfl
@[simp] theorem ap_gst (x : Vl) : gSt f g x σ h = (match toD x h with
  | none => none
  | some (d, h0) => match f σ h0 with
    | .ok (.r k) h1 => (match g σ h1 with
      | .ok (.d (.int i)) h2 => (match h2[k]? with
        | some (.lst xs) => (match L2.ixN xs.length i with
          | some j => some (σ, h2.set k (.lst (xs.set j d)))
          | none => none)
        | _ => none)
      | _ => none)
    | _ => none) := rfl
@[simp] theorem ap_ia1 : iA1 fs σ h = rb (fs σ h) rngR := congrFun (funext fun (_ : Unit) => rfl : (fun _ => iA1 fs σ h) = fun _ : Unit => rb (fs σ h) rngR) ()
@[simp] theorem ap_ia2 : iA2 fs σ h = rb (fs σ h) fun xs h1 => match xs with
  | [.d (.int i), .d (.int j)] => if smI i = true ∧ smI j = true then .ok (rngD i (j - i).toNat) h1 else .bad
  | _ => .bad := rfl
@[simp] theorem ap_iseq : iSeq f σ h = rb (f σ h) fun x h1 => match pureSeq x with
  | some xs => .ok xs h1
  | none => .bad := rfl
@[simp] theorem ap_ient : iEnT fs σ h = rb (fs σ h) fun xs h1 => match xs with
  | [.d (.tup ds)] => .ok (enumD ds) h1
  | _ => .bad := rfl
end
@[simp] theorem toD_d (d : D) (h : Hs) : toD (.d d) h = some (d, h) := rfl
@[simp] theorem toDs_nil (h : Hs) : toDs [] h = some ([], h) := rfl
@[simp] theorem toDs_d (d : D) (xs : List Vl) (h : Hs) : toDs (.d d :: xs) h = (toDs xs h).map fun q => (d :: q.1, q.2) := rfl
@[simp] theorem pureSeq_tup (xs : List D) : pureSeq (.d (.tup xs)) = some xs := rfl
@[simp] theorem pureSeq_lv (xs : List D) : pureSeq (.d (.lv xs)) = some xs := rfl
@[simp] theorem seqOf_tup (xs : List D) (h : Hs) : seqOf (.d (.tup xs)) h = some xs := rfl
@[simp] theorem seqOf_lv (xs : List D) (h : Hs) : seqOf (.d (.lv xs)) h = some xs := rfl
@[simp] theorem lstOf_lv (xs : List D) (h : Hs) : lstOf (.d (.lv xs)) h = some xs := rfl
@[simp] theorem insOf_ins (C : Nat) (fs : List (Nat × D)) (h : Hs) : insOf (.d (.ins C fs)) h = some (C, fs) := rfl
@[simp] theorem insOf_r (k : Nat) (h : Hs) : insOf (.r k) h = (match h[k]? with
  | some (.ins C fs) => some (C, fs)
  | _ => none) := rfl
@[simp] theorem insOf_tup (xs : List D) (h : Hs) : insOf (.d (.tup xs)) h = none := rfl
@[simp] theorem insOf_lv (xs : List D) (h : Hs) : insOf (.d (.lv xs)) h = none := rfl
@[simp] theorem tyD_int (i : Int) (h : Hs) : tyD (.d (.int i)) h = some (.b "int") := rfl
@[simp] theorem tyD_bl (i : Bool) (h : Hs) : tyD (.d (.bl i)) h = some (.b "bool") := rfl
@[simp] theorem tyD_tup (xs : List D) (h : Hs) : tyD (.d (.tup xs)) h = some (.b "tuple") := rfl
@[simp] theorem tyD_lv (xs : List D) (h : Hs) : tyD (.d (.lv xs)) h = some (.b "list") := rfl
@[simp] theorem tyD_non (h : Hs) : tyD (.d .non) h = some (.b "NoneType") := rfl
@[simp] theorem tyD_str (x : Str) (h : Hs) : tyD (.d (.str x)) h = some (.b "str") := rfl
@[simp] theorem tyD_ins (C : Nat) (fs : List (Nat × D)) (h : Hs) : tyD (.d (.ins C fs)) h = some (.c C) := rfl
@[simp] theorem tru_bl (b : Bool) (h : Hs) : truO (.d (.bl b)) h = some b := rfl
@[simp] theorem tru_int (i : Int) (h : Hs) : truO (.d (.int i)) h = some (i != 0) := rfl
@[simp] theorem o_add (i j : Int) (h : Hs) : oAdd (.d (.int i)) (.d (.int j)) h = some (.d (.int (i + j)), h) := rfl
@[simp] theorem o_addT (a b : List D) (h : Hs) : oAdd (.d (.tup a)) (.d (.tup b)) h = if a.length + b.length ≤ sizeLine then some (.d (.tup (a ++ b)), h) else none := rfl
@[simp] theorem o_addL (a b : List D) (h : Hs) : oAdd (.d (.lv a)) (.d (.lv b)) h = if a.length + b.length ≤ sizeLine then some (.d (.lv (a ++ b)), h) else none := rfl
@[simp] theorem o_sub (i j : Int) (h : Hs) : oSub (.d (.int i)) (.d (.int j)) h = some (.d (.int (i - j)), h) := rfl
@[simp] theorem o_mul (i j : Int) (h : Hs) : oMulI (.d (.int i)) (.d (.int j)) h = if cMulW i j then some (.d (.int (i * j)), h) else none := rfl
@[simp] theorem o_div (i j : Int) (h : Hs) : oDiv (.d (.int i)) (.d (.int j)) h = if cDivW i j then some (.d (.int (i / j)), h) else none := rfl
@[simp] theorem o_mod (i j : Int) (h : Hs) : oMod (.d (.int i)) (.d (.int j)) h = if decide (0 < j) then some (.d (.int (i % j)), h) else none := rfl
@[simp] theorem o_pow (i j : Int) (h : Hs) : oPow (.d (.int i)) (.d (.int j)) h = if cPow i j then some (.d (.int (i ^ j.toNat)), h) else none := rfl
@[simp] theorem o_neg (i : Int) (h : Hs) : oNeg (.d (.int i)) h = some (.d (.int (-i)), h) := rfl
@[simp] theorem o_iadd (i j : Int) (h : Hs) : oIAdd (.d (.int i)) (.d (.int j)) h = some (.d (.int (i + j)), h) := rfl
@[simp] theorem o_lt (i j : Int) (h : Hs) : oLt (.d (.int i)) (.d (.int j)) h = some (.d (.bl (decide (i < j))), h) := rfl
@[simp] theorem o_le (i j : Int) (h : Hs) : oLe (.d (.int i)) (.d (.int j)) h = some (.d (.bl (decide (i ≤ j))), h) := rfl
@[simp] theorem o_gt (i j : Int) (h : Hs) : oGt (.d (.int i)) (.d (.int j)) h = some (.d (.bl (decide (j < i))), h) := rfl
@[simp] theorem o_ge (i j : Int) (h : Hs) : oGe (.d (.int i)) (.d (.int j)) h = some (.d (.bl (decide (j ≤ i))), h) := rfl
@[simp] theorem o_isn (x : Vl) (h : Hs) : oIsN x (.d .non) h = some (.d (.bl (isNon x)), h) := rfl
@[simp] theorem o_notn (x : Vl) (h : Hs) : oNotN x (.d .non) h = some (.d (.bl (!isNon x)), h) := rfl
@[simp] theorem isNon_non : isNon (.d .non) = true := rfl
@[simp] theorem isNon_str (x : Str) : isNon (.d (.str x)) = false := rfl
@[simp] theorem o_ixT (xs : List D) (i : Int) (h : Hs) : oIx (.d (.tup xs)) (.d (.int i)) h = (L2.atI xs i).map fun d => (.d d, h) := rfl
@[simp] theorem o_ixL (xs : List D) (i : Int) (h : Hs) : oIx (.d (.lv xs)) (.d (.int i)) h = (L2.atI xs i).map fun d => (.d d, h) := rfl
theorem o_ixR {k : Nat} {xs : List D} {h : Hs} (e : h[k]? = some (.lst xs)) (i : Int) : oIx (.r k) (.d (.int i)) h = (L2.atI xs i).map fun d => (.d d, h) := by
  show (match seqOf (.r k) h with
    | some xs => (L2.atI xs i).map fun d => (Vl.d d, h)
    | none => none) = _
  simp only [seqOf, e]
@[simp] theorem n_lenT (xs : List D) (h : Hs) : nLen [.d (.tup xs)] h = some (.d (.int xs.length), h) := rfl
@[simp] theorem n_lenL (xs : List D) (h : Hs) : nLen [.d (.lv xs)] h = some (.d (.int xs.length), h) := rfl
@[simp] theorem n_tupT (xs : List D) (h : Hs) : nTuple [.d (.tup xs)] h = some (.d (.tup xs), h) := rfl
@[simp] theorem n_tupL (xs : List D) (h : Hs) : nTuple [.d (.lv xs)] h = some (.d (.tup xs), h) := rfl
@[simp] theorem n_lstT (xs : List D) (h : Hs) : nListV [.d (.tup xs)] h = some (.d (.lv xs), h) := rfl
@[simp] theorem n_lstL (xs : List D) (h : Hs) : nListV [.d (.lv xs)] h = some (.d (.lv xs), h) := rfl
@[simp] theorem n_lstS (xs : List D) (h : Hs) : nListV [.d (.scr xs)] h = some (.d (.lv xs), h) := rfl
theorem n_tupR {k : Nat} {xs : List D} {h : Hs} (e : h[k]? = some (.lst xs)) : nTuple [.r k] h = some (.d (.tup xs), h) := by
  show (match seqOf (.r k) h with
    | some xs => some (Vl.d (.tup xs), h)
    | none => none) = _
  simp only [seqOf, e]
@[simp] theorem n_int (i : Int) (h : Hs) : nInt [.d (.int i)] h = some (.d (.int i), h) := rfl
@[simp] theorem n_min (i j : Int) (h : Hs) : nMin2 [.d (.int i), .d (.int j)] h = some (.d (.int (if j < i then j else i)), h) := rfl
@[simp] theorem sl_tup (xs : List D) (a b : Option Int) (h : Hs) : slO (.d (.tup xs)) a b h = some (.d (.tup (cutL xs a b)), h) := rfl
@[simp] theorem lmA (xs : List D) (d : D) (h : Hs) : lmAppend xs [d] h = if xs.length < sizeLine then some (xs ++ [d], .d .non) else none := rfl

/-! ### the heap's end -/
section
variable {h l : Hs} {a b : O}
@[simp] theorem at_len : (h ++ a :: l)[h.length]? = some a := by simp
@[simp] theorem set_len : (h ++ a :: l).set h.length b = h ++ b :: l := by
  rw [List.set_append_right _ _ (Nat.le_refl _), Nat.sub_self]; rfl
@[simp] theorem take_len : (h ++ l).take h.length = h := List.take_left' rfl
@[simp] theorem take_len1 : (h ++ a :: l).take (h.length + 1) = h ++ [a] := by
  rw [show h ++ a :: l = (h ++ [a]) ++ l by simp, show h.length + 1 = (h ++ [a]).length by simp, take_len]
@[simp] theorem take_len2 : (h ++ a :: b :: l).take (h.length + 2) = h ++ [a, b] := by
  rw [show h ++ a :: b :: l = (h ++ [a]) ++ b :: l by simp, show h.length + 2 = (h ++ [a]).length + 1 by simp, take_len1]; simp
@[simp] theorem at_len1 : (h ++ a :: b :: l)[h.length + 1]? = some b := by
  rw [show h ++ a :: b :: l = (h ++ [a]) ++ b :: l by simp, show h.length + 1 = (h ++ [a]).length by simp, at_len]
@[simp] theorem set_len1 {c : O} : (h ++ a :: b :: l).set (h.length + 1) c = h ++ a :: c :: l := by
  rw [show h ++ a :: b :: l = (h ++ [a]) ++ b :: l by simp, show h.length + 1 = (h ++ [a]).length by simp, set_len]; simp
end

def clr1 (n : Nat) (o : Option Vl) : Option Vl := match o with
  | some (.r k) => if k < n then some (.r k) else none
  | o => o
@[simp] theorem clr_nil (n : Nat) : clr n [] = [] := rfl
@[simp] theorem clr_cons (n : Nat) (o : Option Vl) (σ : Lo) : clr n (o :: σ) = clr1 n o :: clr n σ := rfl
@[simp] theorem clr1_d (n : Nat) (d : D) : clr1 n (some (.d d)) = some (.d d) := rfl
@[simp] theorem clr1_n (n : Nat) : clr1 n none = none := rfl
@[simp] theorem clr1_r (n k : Nat) : clr1 n (some (.r k)) = if k < n then some (.r k) else none := rfl

/-! ### calls -/
theorem callF_at {defs : List MDef} {n i : Nat} {md : MDef} {xs : List Vl} {h : Hs} (e : defs[i]? = some md) (hl : xs.length = md.np) : callF defs (n + 1) i xs h = fin md.keep h.length (md.body (callF defs n) (startL md.ns xs) h) := by
  show (match defs[i]? with
    | none => Res.bad
    | some md => runD md (callF defs n) xs h) = _
  rw [e]
  show runD md (callF defs n) xs h = _
  unfold runD
  rw [if_pos hl]
@[simp] theorem fin_ret (n0 : Nat) (d : D) (σ : Lo) (h : Hs) : fin false n0 (.ok (.ret (.d d)) σ h) = .ok (.d d) (h.take n0) := rfl
@[simp] theorem fin_nx (n0 : Nat) (keep : Bool) (σ : Lo) (h : Hs) : fin keep n0 (.ok .nx σ h) = .ok (.d .non) (h.take n0) := rfl
theorem fin_retR {n0 k : Nat} {σ : Lo} {h : Hs} {xs : List D} (e : h[k]? = some (.lst xs)) : fin false n0 (.ok (.ret (.r k)) σ h) = .ok (.d (.lv xs)) ((h.set k .dead).take n0) := by
  show (match toD (.r k) h with
    | some (d, h') => Res.ok (Vl.d d) (h'.take n0)
    | none => Res.bad) = _
  simp only [toD, e]

/-! ### loops -/
theorem forL_ind {g : SemG} {body : SemS} {R : RS → Prop} (P : Nat → Lo → Hs → Prop) : ∀ (ds : List D) (i : Nat) (σ : Lo) (h : Hs), P i σ h →
    (∀ j d σ h, ds[j]? = some d → P (i + j) σ h → ∃ σ1 h1, g (.d d) σ h = some (σ1, h1) ∧ match body σ1 h1 with
      | .ok .nx σ2 h2 => P (i + j + 1) (clr h.length σ2) (h2.take h.length)
      | .ok .cnt σ2 h2 => P (i + j + 1) (clr h.length σ2) (h2.take h.length)
      | .ok .brk σ2 h2 => R (.ok .nx (clr h.length σ2) (h2.take h.length))
      | .ok (.ret v) σ2 h2 => R (.ok (.ret v) σ2 h2)
      | _ => False) →
    (∀ σ h, P (i + ds.length) σ h → R (.ok .nx σ h)) → R (forL g body ds σ h)
  | [], i, σ, h, p, _, done => done σ h (by simpa using p)
  | d :: ds, i, σ, h, p, step, done => by
    obtain ⟨σ1, h1, e, q⟩ := step 0 d σ h rfl p
    unfold forL
    rw [e]
    dsimp only
    have st : ∀ j d' σ h, ds[j]? = some d' → P (i + 1 + j) σ h → _ := fun j d' σ h hj p => by
      have := step (j + 1) d' σ h (by simpa using hj) (by rw [show i + (j + 1) = i + 1 + j by omega]; exact p)
      rw [show i + (j + 1) + 1 = i + 1 + j + 1 by omega] at this
      exact this
    have dn : ∀ σ h, P (i + 1 + ds.length) σ h → R (.ok .nx σ h) := fun σ h p => done σ h (by rw [List.length_cons, show i + (ds.length + 1) = i + 1 + ds.length by omega]; exact p)
    cases e2 : body σ1 h1 with
    | bad => rw [e2] at q; exact q.elim
    | exc x σ2 h2 => rw [e2] at q; exact q.elim
    | ok f σ2 h2 =>
      rw [e2] at q
      cases f with
      | nx => exact forL_ind P ds (i + 1) _ _ q st dn
      | cnt => exact forL_ind P ds (i + 1) _ _ q st dn
      | brk => exact q
      | ret v => exact q
theorem for_ind {g : SemG} {body : SemS} {R : RS → Prop} {ds : List D} {σ : Lo} {h : Hs} (P : Nat → Lo → Hs → Prop) (p : P 0 σ h)
    (step : ∀ j d σ h, ds[j]? = some d → P j σ h → ∃ σ1 h1, g (.d d) σ h = some (σ1, h1) ∧ match body σ1 h1 with
      | .ok .nx σ2 h2 => P (j + 1) (clr h.length σ2) (h2.take h.length)
      | .ok .cnt σ2 h2 => P (j + 1) (clr h.length σ2) (h2.take h.length)
      | .ok .brk σ2 h2 => R (.ok .nx (clr h.length σ2) (h2.take h.length))
      | .ok (.ret v) σ2 h2 => R (.ok (.ret v) σ2 h2)
      | _ => False)
    (done : ∀ σ h, P ds.length σ h → R (.ok .nx σ h)) : R (forL g body ds σ h) :=
  forL_ind P ds 0 σ h p (fun j d σ h hj q => by
    have := step j d σ h hj (by rw [Nat.zero_add] at q; exact q)
    rw [Nat.zero_add]; exact this) fun σ h q => done σ h (by rw [Nat.zero_add] at q; exact q)
/-- a while with an invariant and turns left -/
theorem whL_ind {t : SemT} {body : SemS} {R : RS → Prop} (P : Nat → Lo → Hs → Prop)
    (step : ∀ n σ h, P n σ h → match t σ h with
      | .ok false h1 => R (.ok .nx σ h1)
      | .ok true h1 => ∃ m, n = m + 1 ∧ match body σ h1 with
        | .ok .nx σ2 h2 => P m (clr h.length σ2) (h2.take h.length)
        | .ok .cnt σ2 h2 => P m (clr h.length σ2) (h2.take h.length)
        | .ok .brk σ2 h2 => R (.ok .nx (clr h.length σ2) (h2.take h.length))
        | .ok (.ret v) σ2 h2 => R (.ok (.ret v) σ2 h2)
        | _ => False
      | _ => False) : ∀ (n : Nat) (σ : Lo) (h : Hs), P n σ h → ∃ r, whL t body (n + 1) σ h = r ∧ r ≠ .bad ∧ R r
  | n, σ, h, p => by
    have q := step n σ h p
    unfold whL
    cases e : t σ h with
    | bad => rw [e] at q; exact q.elim
    | exc x h1 => rw [e] at q; exact q.elim
    | ok b h1 =>
      rw [e] at q
      cases b with
      | false => exact ⟨_, rfl, by simp, q⟩
      | true =>
        obtain ⟨m, rfl, q⟩ := q
        simp only [sb_ok, if_true]
        cases e2 : body σ h1 with
        | bad => rw [e2] at q; exact q.elim
        | exc x σ2 h2 => rw [e2] at q; exact q.elim
        | ok f σ2 h2 =>
          rw [e2] at q
          cases f with
          | nx => exact whL_ind P step m _ _ q
          | cnt => exact whL_ind P step m _ _ q
          | brk => exact ⟨_, rfl, by simp, q⟩
          | ret v => exact ⟨_, rfl, by simp, q⟩
theorem wh_ind {t : SemT} {body : SemS} {R : RS → Prop} (P : Nat → Lo → Hs → Prop) {n : Nat} {σ : Lo} {h : Hs} (p : P n σ h) (hn : n < 1000000000)
    (step : ∀ n σ h, P n σ h → match t σ h with
      | .ok false h1 => R (.ok .nx σ h1)
      | .ok true h1 => ∃ m, n = m + 1 ∧ match body σ h1 with
        | .ok .nx σ2 h2 => P m (clr h.length σ2) (h2.take h.length)
        | .ok .cnt σ2 h2 => P m (clr h.length σ2) (h2.take h.length)
        | .ok .brk σ2 h2 => R (.ok .nx (clr h.length σ2) (h2.take h.length))
        | .ok (.ret v) σ2 h2 => R (.ok (.ret v) σ2 h2)
        | _ => False
      | _ => False) : R (sWh t body σ h) := by
  obtain ⟨r, e, hb, q⟩ := whL_ind P step n σ h p
  have hm : n + 1 ≤ most := Nat.le_trans (by omega : n + 1 ≤ 1000000000) (by unfold most; decide)
  rw [sWh_of e hb hm]
  exact q
theorem cmpL_ind {vs : List Nat} {g : SemG} {t : SemT} {f : SemE} {n0 : Nat} {σ : Lo} {R : Hs → Prop} (P : Nat → Hs → Prop) : ∀ (ds : List D) (i : Nat) (h : Hs), P i h →
    (∀ j d h, ds[j]? = some d → P (i + j) h → ∃ σ1 h1 b h2, g (.d d) (wipeL σ vs) h = some (σ1, h1) ∧ t σ1 h1 = .ok b h2 ∧ if b = true then ∃ y h3 h4, f σ1 h2 = .ok y h3 ∧ cmpAdd n0 y h3 = some h4 ∧ P (i + j + 1) h4 else P (i + j + 1) (h2.take (n0 + 1))) →
    (∀ h, P (i + ds.length) h → R h) → ∃ h', cmpL vs g t f n0 ds σ h = some h' ∧ R h'
  | [], i, h, p, _, done => ⟨h, rfl, done h (by simpa using p)⟩
  | d :: ds, i, h, p, step, done => by
    obtain ⟨σ1, h1, b, h2, e1, e2, q⟩ := step 0 d h rfl p
    have st : ∀ j d' h, ds[j]? = some d' → P (i + 1 + j) h → _ := fun j d' h hj p => by
      have := step (j + 1) d' h (by simpa using hj) (by rw [show i + (j + 1) = i + 1 + j by omega]; exact p)
      rw [show i + (j + 1) + 1 = i + 1 + j + 1 by omega] at this
      exact this
    have dn : ∀ h, P (i + 1 + ds.length) h → R h := fun h p => done h (by rw [List.length_cons, show i + (ds.length + 1) = i + 1 + ds.length by omega]; exact p)
    unfold cmpL
    rw [e1]
    dsimp only
    rw [e2]
    dsimp only
    cases b with
    | true =>
      rw [if_pos rfl] at q ⊢
      obtain ⟨y, h3, h4, e3, e4, q⟩ := q
      rw [e3]
      dsimp only
      rw [e4]
      exact cmpL_ind P ds (i + 1) h4 q st dn
    | false =>
      rw [if_neg Bool.false_ne_true] at q ⊢
      exact cmpL_ind P ds (i + 1) _ q st dn
/-- one more in the list that is made -/
theorem cmpAdd_d {h : Hs} {acc : List D} {d : D} (hz : acc.length < sizeLine) : cmpAdd h.length (.d d) (h ++ [.lst acc]) = some (h ++ [.lst (acc ++ [d])]) := by
  unfold cmpAdd
  simp only [toD_d, at_len, if_pos hz, set_len]
  rw [List.take_of_length_le (by simp)]
/-- a comprehension of values that change nothing -/
theorem cmpL_map {vs : List Nat} {g : SemG} {t : SemT} {f : SemE} {σ : Lo} {h : Hs} {ds : List D} {keep : D → Bool} {k : D → D} (hz : ds.length < sizeLine)
    (step : ∀ d h', d ∈ ds → ∃ σ1, g (.d d) (wipeL σ vs) h' = some (σ1, h') ∧ t σ1 h' = .ok (keep d) h' ∧ (keep d = true → f σ1 h' = .ok (.d (k d)) h')) :
    cmpL vs g t f h.length ds σ (h ++ [.lst []]) = some (h ++ [.lst ((ds.filter keep).map k)]) := by
  have key : ∃ h', cmpL vs g t f h.length ds σ (h ++ [.lst []]) = some h' ∧ h' = h ++ [.lst ((ds.filter keep).map k)] := by
    refine cmpL_ind (fun i h' => h' = h ++ [.lst (((ds.take i).filter keep).map k)]) ds 0 _ (by simp) (fun j d h' hj p => ?_) (fun h' p => by rw [p, Nat.zero_add, List.take_length])
    rw [Nat.zero_add] at p ⊢
    subst p
    obtain ⟨σ1, e1, e2, e3⟩ := step d (h ++ [.lst (((ds.take j).filter keep).map k)]) (List.mem_of_getElem? hj)
    have ej : ds.take (j + 1) = ds.take j ++ [d] := by
      rw [List.take_add_one, hj]; rfl
    refine ⟨σ1, _, keep d, _, e1, e2, ?_⟩
    cases q : keep d with
    | true =>
      rw [if_pos rfl]
      refine ⟨_, _, _, e3 q, cmpAdd_d ?_, ?_⟩
      · rw [List.length_map]
        refine Nat.lt_of_le_of_lt (List.length_filter_le _ _) (Nat.lt_of_le_of_lt ?_ hz)
        rw [List.length_take]; omega
      · rw [ej, List.filter_append, List.map_append, List.filter_cons, if_pos q]; rfl
    | false =>
      rw [if_neg Bool.false_ne_true, ej, List.filter_append, List.filter_cons, if_neg (by simp [q])]
      rw [List.take_of_length_le (by simp)]
      simp
  obtain ⟨h', e, rfl⟩ := key
  exact e

/-! ### == of data -/
def fl0 : D → Prop
  | .non => True
  | .bl _ => True
  | .int _ => True
  | .str x => PyData.strOk x = true
  | _ => False
/-- data of depth n at most -/
def Sm : Nat → D → Prop
  | 0, d => fl0 d
  | n + 1, .tup xs => ∀ x ∈ xs, Sm n x
  | n + 1, .lv xs => ∀ x ∈ xs, Sm n x
  | _ + 1, d => fl0 d
theorem all_lay : ∀ {xs : List D}, (∀ x ∈ xs, x.pd.canLay0 = true) → PyData.canLayAll0 (D.pds xs) = true
  | [], _ => rfl
  | x :: xs, h => by
    rw [D.pds, PyData.canLayAll0, h x List.mem_cons_self, all_lay fun y hy => h y (List.mem_cons_of_mem _ hy)]; rfl
theorem all_dep {n : Nat} : ∀ {xs : List D}, (∀ x ∈ xs, x.pd.depth ≤ n) → PyData.depthAll (D.pds xs) ≤ n
  | [], _ => Nat.zero_le _
  | x :: xs, h => by
    rw [D.pds, PyData.depthAll]
    exact Nat.max_le.mpr ⟨h x List.mem_cons_self, all_dep fun y hy => h y (List.mem_cons_of_mem _ hy)⟩
theorem all_eqv : ∀ {xs : List D}, (∀ x ∈ xs, PyData.eqv x.pd x.pd = true) → PyData.eqvAll (D.pds xs) (D.pds xs) = true
  | [], _ => rfl
  | x :: xs, h => by
    rw [D.pds, PyData.eqvAll, h x List.mem_cons_self, all_eqv fun y hy => h y (List.mem_cons_of_mem _ hy)]; rfl
theorem fl0_ok {d : D} (h : fl0 d) : d.pd.canLay0 = true ∧ d.pd.depth = 0 ∧ PyData.eqv d.pd d.pd = true := by
  cases d with
  | non => exact ⟨by simp [D.pd, PyData.canLay0], by simp [D.pd, PyData.depth], by simp [D.pd, PyData.eqv]⟩
  | bl b => exact ⟨by simp [D.pd, PyData.canLay0], by simp [D.pd, PyData.depth], by simp [D.pd, PyData.eqv]⟩
  | int i => exact ⟨by simp [D.pd, PyData.canLay0], by simp [D.pd, PyData.depth], by simp [D.pd, PyData.eqv]⟩
  | str x => exact ⟨by simp only [D.pd, PyData.canLay0]; exact h, by simp [D.pd, PyData.depth], by simp [D.pd, PyData.eqv]⟩
  | _ => exact h.elim
theorem Sm.ok : ∀ {n : Nat} {d : D}, Sm n d → d.pd.canLay0 = true ∧ d.pd.depth ≤ n ∧ PyData.eqv d.pd d.pd = true
  | 0, d, h => let ⟨a, b, c⟩ := fl0_ok h; ⟨a, Nat.le_of_eq b, c⟩
  | n + 1, .tup xs, h => by
    simp only [D.pd, PyData.canLay0, PyData.depth, PyData.eqv]
    exact ⟨all_lay fun x hx => (Sm.ok (h x hx)).1, Nat.succ_le_succ (all_dep fun x hx => (Sm.ok (h x hx)).2.1), all_eqv fun x hx => (Sm.ok (h x hx)).2.2⟩
  | n + 1, .lv xs, h => by
    simp only [D.pd, PyData.canLay0, PyData.depth, PyData.eqv]
    exact ⟨all_lay fun x hx => (Sm.ok (h x hx)).1, Nat.succ_le_succ (all_dep fun x hx => (Sm.ok (h x hx)).2.1), all_eqv fun x hx => (Sm.ok (h x hx)).2.2⟩
  | n + 1, .non, h => let ⟨a, b, c⟩ := fl0_ok (d := .non) h; ⟨a, by omega, c⟩
  | n + 1, .bl i, h => let ⟨a, b, c⟩ := fl0_ok (d := .bl i) h; ⟨a, by omega, c⟩
  | n + 1, .int i, h => let ⟨a, b, c⟩ := fl0_ok (d := .int i) h; ⟨a, by omega, c⟩
  | n + 1, .str i, h => let ⟨a, b, c⟩ := fl0_ok (d := .str i) h; ⟨a, by omega, c⟩
  | n + 1, .scr i, h => h.elim
  | n + 1, .dk i, h => h.elim
  | n + 1, .dt i, h => h.elim
  | n + 1, .ins C i, h => h.elim
theorem Sm.shp {n : Nat} {d : D} (h : Sm n d) (hn : n ≤ 64) : shp d = true := by
  unfold Mi.shp SeqAt.shaped
  rw [h.ok.1, decide_eq_true (Nat.le_trans h.ok.2.1 hn)]; rfl
theorem o_eqS {n m : Nat} {a b : D} {h : Hs} (ha : Sm n a) (hb : Sm m b) (hn : n ≤ 64) (hm : m ≤ 64) : oEq (.d a) (.d b) h = some (.d (.bl (PyData.eqv a.pd b.pd)), h) := by
  show (deq a b).map _ = _
  unfold deq
  rw [ha.shp hn, hb.shp hm]; rfl
theorem o_neS {n m : Nat} {a b : D} {h : Hs} (ha : Sm n a) (hb : Sm m b) (hn : n ≤ 64) (hm : m ≤ 64) : oNe (.d a) (.d b) h = some (.d (.bl (!PyData.eqv a.pd b.pd)), h) := by
  show (deq a b).map _ = _
  unfold deq
  rw [ha.shp hn, hb.shp hm]; rfl
theorem o_eqR {n : Nat} {a : D} {h : Hs} (ha : Sm n a) (hn : n ≤ 64) : oEq (.d a) (.d a) h = some (.d (.bl true), h) := by rw [o_eqS ha ha hn hn, ha.ok.2.2]
theorem o_neR {n : Nat} {a : D} {h : Hs} (ha : Sm n a) (hn : n ≤ 64) : oNe (.d a) (.d a) h = some (.d (.bl false), h) := by rw [o_neS ha ha hn hn, ha.ok.2.2]; rfl
@[simp] theorem o_eqI (i j : Int) (h : Hs) : oEq (.d (.int i)) (.d (.int j)) h = some (.d (.bl (decide (i = j))), h) := by
  rw [o_eqS (a := .int i) (b := .int j) (n := 0) (m := 0) trivial trivial (by omega) (by omega)]
  simp only [D.pd, PyData.eqv]
  rfl
@[simp] theorem o_neI (i j : Int) (h : Hs) : oNe (.d (.int i)) (.d (.int j)) h = some (.d (.bl (!decide (i = j))), h) := by
  rw [o_neS (a := .int i) (b := .int j) (n := 0) (m := 0) trivial trivial (by omega) (by omega)]
  simp only [D.pd, PyData.eqv]
  rfl
def iT (xs : List Int) : D := .tup (xs.map D.int)
theorem sm_iT (xs : List Int) : Sm 1 (iT xs) := fun x hx => by
  obtain ⟨i, _, rfl⟩ := List.mem_map.mp hx
  exact trivial
theorem eqv_iT : ∀ xs ys : List Int, PyData.eqvAll (D.pds (xs.map D.int)) (D.pds (ys.map D.int)) = decide (xs = ys)
  | [], [] => by simp [D.pds, PyData.eqvAll]
  | [], _ :: _ => by simp [D.pds, PyData.eqvAll]
  | _ :: _, [] => by simp [D.pds, PyData.eqvAll]
  | x :: xs, y :: ys => by
    have := eqv_iT xs ys
    rw [List.map_cons, List.map_cons, D.pds, D.pds, PyData.eqvAll, this]
    simp only [D.pd, PyData.eqv]
    by_cases e : x = y <;> simp [e]
theorem o_eqT (xs ys : List Int) (h : Hs) : oEq (.d (iT xs)) (.d (iT ys)) h = some (.d (.bl (decide (xs = ys))), h) := by
  rw [o_eqS (sm_iT xs) (sm_iT ys) (by omega) (by omega)]
  simp only [iT, D.pd, PyData.eqv, eqv_iT]
theorem o_neT (xs ys : List Int) (h : Hs) : oNe (.d (iT xs)) (.d (iT ys)) h = some (.d (.bl (!decide (xs = ys))), h) := by
  rw [o_neS (sm_iT xs) (sm_iT ys) (by omega) (by omega)]
  simp only [iT, D.pd, PyData.eqv, eqv_iT]
end Mi

/-! Mi13: == and != at any depth, own __eq__ within -/
namespace GB
open PySem PySem.SeqAt GQ
open AutoSeq1 (wpAny_loadPart')
open MeetsSeq MeetsSeq2 MeetsSeq3 SeqRoads2
section
variable {prog : Program} {w : World} {A : Around} {R : Result → Shared → Prop} {l b : Addr} {N M : Nat} {bs : Nat → Bool} {J : Shared → Prop}
/-- what is known of two lists that are compared, item by item, up to the first unlike pair -/
def Both (prog : Program) (w : World) (A : Around) (E : Value → Shared → Prop) (l b : Addr) (N : Nat) (bs : Nat → Bool) (J : Shared → Prop) : Prop :=
  ∀ s, J s → ∃ (p q : Array Value) (n k : Nat), s.heap.get? l = some { cls := .type "list", data := .seq p n } ∧ s.heap.get? b = some { cls := .type "list", data := .seq q k } ∧ p.size = N ∧ q.size = N ∧
    ∀ i (h1 : i < p.size) (h2 : i < q.size), (∀ j, j < i → bs j = true) → wpAny (model prog w) A.in1 (eqBool p[i] q[i]) (fun r s' => r = bs i ∧ J s') E s
theorem all_true (h : ∀ j, j < N → bs j = true) : (List.range N).all bs = true := List.all_eq_true.mpr fun x hx => h x (List.mem_range.mp hx)
theorem all_false {i : Nat} (hi : i < N) (h : bs i = false) : (List.range N).all bs = false := by
  rw [Bool.eq_false_iff]
  intro z
  rw [List.all_eq_true.mp z i (List.mem_range.mpr hi)] at h
  cases h
theorem lst_eqLoop (hl : Both prog w A (fun e s' => R (.error e) s') l b N bs J) (fin : ∀ s, J s → R (.ok (.ret (.bool ((List.range N).all bs)))) s) : ∀ (k i : Nat), N - i = k → i ≤ N → (∀ j, j < i → bs j = true) → ∀ s, J s →
    wpAny (model prog w) A.in1 (Builtin.«list.__eq__.loop» ⟨[.ref l, .ref b, rawInt i, rawInt 2], []⟩) (FinOf prog w A R) (fun e s' => R (.error e) s') s
  | 0, i, hk, hi, ht, s, h => by
    obtain ⟨p, q, n, n2, g1, g2, z1, z2, _⟩ := hl _ h
    have ei : i = N := by omega
    subst ei
    have hR := fin s h
    rw [all_true ht] at hR
    obtain ⟨h0, gs, dd, tk, oss⟩ := s
    wp_walk using wpAny_loadPart' g1, wpAny_loadPart' g2
    have e1 : p[((i : Nat) : Int).toNat]? = none := by simp <;> omega
    have e2 : q[((i : Nat) : Int).toNat]? = none := by simp <;> omega
    rw [e1, e2]
    wp_walk using wpAny_loadPart' g1, wpAny_loadPart' g2
    show R (.ok (.ret (.bool (p.size == q.size)))) _
    rw [z1, z2, beq_self_eq_true]
    exact hR
  | k + 1, i, hk, hi, ht, s, h => by
    obtain ⟨p, q, n, n2, g1, g2, z1, z2, turn⟩ := hl _ h
    have h1 : i < p.size := by omega
    have h2 : i < q.size := by omega
    have tt := turn i h1 h2 ht
    obtain ⟨h0, gs, dd, tk, oss⟩ := s
    wp_walk using wpAny_loadPart' g1, wpAny_loadPart' g2
    have e1 : p[((i : Nat) : Int).toNat]? = some p[i] := by simp [h1]
    have e2 : q[((i : Nat) : Int).toNat]? = some q[i] := by simp [h2]
    have ec : ((i : Int) + 1) = ((i + 1 : Nat) : Int) := by omega
    rw [e1, e2]
    refine wpAny_bind (wpAny_mono tt (fun r s2 q2 => ?_) fun _ _ x => x)
    obtain ⟨rfl, q2⟩ := q2
    cases hb : bs i with
    | true =>
      have hrec := lst_eqLoop hl fin k (i + 1) (by omega) (by omega) (fun j hj => by
        rcases Nat.lt_succ_iff_lt_or_eq.mp hj with hj | rfl
        · exact ht j hj
        · exact hb) s2 q2
      obtain ⟨hp2, gs2, d2, tk2, os2⟩ := s2
      wp_walk
      rw [ec]
      exact ⟨plainId_quiet plain_eq_loop _, codeAny_builtin entry_eq_loop (by rw [Around.under_plainId plain_eq_loop _]; exact hrec)⟩
    | false =>
      have hR := fin s2 q2
      rw [all_false (by omega) hb] at hR
      obtain ⟨p', q', n', n2', g1', g2', z1', z2', _⟩ := hl _ q2
      obtain ⟨hp2, gs2, d2, tk2, os2⟩ := s2
      have f1 : p'[((i : Nat) : Int).toNat]? = some (p'[i]'(by omega)) := by simp <;> omega
      have f2 : q'[((i : Nat) : Int).toNat]? = some (q'[i]'(by omega)) := by simp <;> omega
      wp_walk using wpAny_loadPart' g1', wpAny_loadPart' g2'
      rw [f1, f2]
      wp_walk
      simpa using hR
theorem lst_neLoop (hl : Both prog w A (fun e s' => R (.error e) s') l b N bs J) (fin : ∀ s, J s → R (.ok (.ret (.bool (!(List.range N).all bs)))) s) : ∀ (k i : Nat), N - i = k → i ≤ N → (∀ j, j < i → bs j = true) → ∀ s, J s →
    wpAny (model prog w) A.in1 (Builtin.«list.__eq__.loop» ⟨[.ref l, .ref b, rawInt i, rawInt 3], []⟩) (FinOf prog w A R) (fun e s' => R (.error e) s') s
  | 0, i, hk, hi, ht, s, h => by
    obtain ⟨p, q, n, n2, g1, g2, z1, z2, _⟩ := hl _ h
    have ei : i = N := by omega
    subst ei
    have hR := fin s h
    rw [all_true ht] at hR
    obtain ⟨h0, gs, dd, tk, oss⟩ := s
    wp_walk using wpAny_loadPart' g1, wpAny_loadPart' g2
    have e1 : p[((i : Nat) : Int).toNat]? = none := by simp <;> omega
    have e2 : q[((i : Nat) : Int).toNat]? = none := by simp <;> omega
    rw [e1, e2]
    wp_walk using wpAny_loadPart' g1, wpAny_loadPart' g2
    show R (.ok (.ret (.bool (p.size != q.size)))) _
    rw [z1, z2, bne_self_eq_false]
    exact hR
  | k + 1, i, hk, hi, ht, s, h => by
    obtain ⟨p, q, n, n2, g1, g2, z1, z2, turn⟩ := hl _ h
    have h1 : i < p.size := by omega
    have h2 : i < q.size := by omega
    have tt := turn i h1 h2 ht
    obtain ⟨h0, gs, dd, tk, oss⟩ := s
    wp_walk using wpAny_loadPart' g1, wpAny_loadPart' g2
    have e1 : p[((i : Nat) : Int).toNat]? = some p[i] := by simp [h1]
    have e2 : q[((i : Nat) : Int).toNat]? = some q[i] := by simp [h2]
    have ec : ((i : Int) + 1) = ((i + 1 : Nat) : Int) := by omega
    rw [e1, e2]
    refine wpAny_bind (wpAny_mono tt (fun r s2 q2 => ?_) fun _ _ x => x)
    obtain ⟨rfl, q2⟩ := q2
    cases hb : bs i with
    | true =>
      have hrec := lst_neLoop hl fin k (i + 1) (by omega) (by omega) (fun j hj => by
        rcases Nat.lt_succ_iff_lt_or_eq.mp hj with hj | rfl
        · exact ht j hj
        · exact hb) s2 q2
      obtain ⟨hp2, gs2, d2, tk2, os2⟩ := s2
      wp_walk
      rw [ec]
      exact ⟨plainId_quiet plain_eq_loop _, codeAny_builtin entry_eq_loop (by rw [Around.under_plainId plain_eq_loop _]; exact hrec)⟩
    | false =>
      have hR := fin s2 q2
      rw [all_false (by omega) hb] at hR
      obtain ⟨p', q', n', n2', g1', g2', z1', z2', _⟩ := hl _ q2
      obtain ⟨hp2, gs2, d2, tk2, os2⟩ := s2
      have f1 : p'[((i : Nat) : Int).toNat]? = some (p'[i]'(by omega)) := by simp <;> omega
      have f2 : q'[((i : Nat) : Int).toNat]? = some (q'[i]'(by omega)) := by simp <;> omega
      wp_walk using wpAny_loadPart' g1', wpAny_loadPart' g2'
      rw [f1, f2]
      wp_walk
      simpa using hR
theorem lst_eqB (hl : Both prog w A (fun e s' => R (.error e) s') l b N bs J) (fin : ∀ s, J s → R (.ok (.ret (.bool ((List.range N).all bs)))) s) {s : Shared} (h : J s) :
    wpAny (model prog w) A.in1 (Builtin.«list.__eq__» ⟨[.ref l, .ref b], []⟩) (FinOf prog w A R) (fun e s' => R (.error e) s') s := by
  obtain ⟨p, q, n, n2, g1, g2, z1, z2, _⟩ := hl _ h
  have hrec := lst_eqLoop (A := A) (R := R) hl fin _ 0 rfl (Nat.zero_le _) (fun j hj => absurd hj (Nat.not_lt_zero _)) s h
  obtain ⟨h0, gs, dd, tk, oss⟩ := s
  have f3 := AutoSeq1.sub_list_list
  have ne : ¬ (p.size != q.size) = true := by simp [z1, z2]
  wp_walk using wpAny_loadPart' g1, wpAny_loadPart' g2
  exact ⟨plainId_quiet plain_eq_loop _, codeAny_builtin entry_eq_loop (by rw [Around.under_plainId plain_eq_loop _]; exact hrec)⟩
theorem lst_neB (hl : Both prog w A (fun e s' => R (.error e) s') l b N bs J) (fin : ∀ s, J s → R (.ok (.ret (.bool (!(List.range N).all bs)))) s) {s : Shared} (h : J s) :
    wpAny (model prog w) A.in1 (Builtin.«list.__ne__» ⟨[.ref l, .ref b], []⟩) (FinOf prog w A R) (fun e s' => R (.error e) s') s := by
  obtain ⟨p, q, n, n2, g1, g2, z1, z2, _⟩ := hl _ h
  have hrec := lst_neLoop (A := A) (R := R) hl fin _ 0 rfl (Nat.zero_le _) (fun j hj => absurd hj (Nat.not_lt_zero _)) s h
  obtain ⟨h0, gs, dd, tk, oss⟩ := s
  have f3 := AutoSeq1.sub_list_list
  have ne : ¬ (p.size != q.size) = true := by simp [z1, z2]
  wp_walk using wpAny_loadPart' g1, wpAny_loadPart' g2
  exact ⟨plainId_quiet plain_eq_loop _, codeAny_builtin entry_eq_loop (by rw [Around.under_plainId plain_eq_loop _]; exact hrec)⟩
end
section
variable {prog : Program} {w : World} {A : Around} {R : Result → Shared → Prop} {l b : Addr} {bs : Nat → Bool} {J : Shared → Prop}
theorem tup_eqB (p q : Array Value) (n n2 : Nat) (dd dd2 : Option Addr) (sl sl2 : Array (Option Value))
    (turn : ∀ i (h1 : i < p.size) (h2 : i < q.size), (∀ j, j < i → bs j = true) → ∀ s, J s → wpAny (model prog w) A.in1 (eqBool p[i] q[i]) (fun r s' => r = bs i ∧ J s') (fun e s' => R (.error e) s') s)
    (fin : ∀ s, J s → R (.ok (.ret (.bool ((List.range (min p.size q.size)).all bs && p.size == q.size)))) s) {s : Shared} (g1 : s.heap.get? l = some { cls := .type "tuple", dict := dd, data := .seq p n, slots := sl })
    (g2 : s.heap.get? b = some { cls := .type "tuple", dict := dd2, data := .seq q n2, slots := sl2 }) (h : J s) :
    wpAny (model prog w) A.in1 (Builtin.«tuple.__eq__» ⟨[.ref l, .ref b], []⟩) (FinOf prog w A R) (fun e s' => R (.error e) s') s := by
  have f2 := AutoSeq1.sub_tuple_tuple
  have hZ : (p.toList.zip q.toList).length = min p.size q.size := by simp
  have hJ := h
  obtain ⟨h0, gs, dr, tk, oss⟩ := s
  wp_walk using wpAny_loadPart' g1, wpAny_loadPart' g2, wpAny_forIn_list _ (fun rest c s' => c.1 = none ∧ ∃ i, rest = (p.toList.zip q.toList).drop i ∧ i ≤ min p.size q.size ∧ (∀ j, j < i → bs j = true) ∧ J s') _
  case turn =>
    rintro ⟨y, x⟩ rest c s' ⟨hc, i, hz, hi, ht, hI⟩
    have hlt : i < (p.toList.zip q.toList).length := (Nat.lt_or_ge i _).resolve_right fun z => by rw [List.drop_of_length_le z] at hz; cases hz
    have hm : i < min p.size q.size := hZ ▸ hlt
    have h1 : i < p.size := by omega
    have h2 : i < q.size := by omega
    rw [List.drop_eq_getElem_cons hlt] at hz
    injection hz with e1 e2
    have hy : y = p[i] := by simpa using congrArg Prod.fst e1
    have hx : x = q[i] := by simpa using congrArg Prod.snd e1
    subst hy hx
    refine wpAny_bind (wpAny_mono (turn i h1 h2 ht s' hI) (fun r s2 q2 => ?_) fun _ _ x => x)
    obtain ⟨rfl, q2⟩ := q2
    cases hb : bs i with
    | true =>
      wp_walk
      refine ⟨rfl, i + 1, e2, hm, fun j hj => ?_, q2⟩
      rcases Nat.lt_succ_iff_lt_or_eq.mp hj with hj | rfl
      · exact ht j hj
      · exact hb
    | false =>
      have hR := fin s2 q2
      rw [all_false hm hb, Bool.false_and] at hR
      wp_walk
      simpa using hR
  case fin =>
    rintro ⟨c1, c2⟩ s' ⟨hc, i, hz, hi, ht, hI⟩
    simp only at hc
    subst hc
    have hge : min p.size q.size ≤ i := (Nat.lt_or_ge i (p.toList.zip q.toList).length).elim (fun z => by rw [List.drop_eq_getElem_cons z] at hz; cases hz) fun z => hZ ▸ z
    have ei : i = min p.size q.size := by omega
    subst ei
    have hR := fin s' hI
    rw [all_true ht, Bool.true_and] at hR
    wp_walk
    simpa [Builtin.Tuple.tupleCompareSizes, bne] using hR
  case h => exact ⟨rfl, 0, rfl, Nat.zero_le _, fun j hj => absurd hj (Nat.not_lt_zero _), hJ⟩
end
section
variable {prog : Program} {w : World} {A : Around} {R : Result → Shared → Prop} {l b : Addr} {bs : Nat → Bool} {J : Shared → Prop}
theorem tup_neB (p q : Array Value) (n n2 : Nat) (dd dd2 : Option Addr) (sl sl2 : Array (Option Value))
    (turn : ∀ i (h1 : i < p.size) (h2 : i < q.size), (∀ j, j < i → bs j = true) → ∀ s, J s → wpAny (model prog w) A.in1 (eqBool p[i] q[i]) (fun r s' => r = bs i ∧ J s') (fun e s' => R (.error e) s') s)
    (fin : ∀ s, J s → R (.ok (.ret (.bool !((List.range (min p.size q.size)).all bs && p.size == q.size)))) s) {s : Shared} (g1 : s.heap.get? l = some { cls := .type "tuple", dict := dd, data := .seq p n, slots := sl })
    (g2 : s.heap.get? b = some { cls := .type "tuple", dict := dd2, data := .seq q n2, slots := sl2 }) (h : J s) :
    wpAny (model prog w) A.in1 (Builtin.«tuple.__ne__» ⟨[.ref l, .ref b], []⟩) (FinOf prog w A R) (fun e s' => R (.error e) s') s := by
  have f2 := AutoSeq1.sub_tuple_tuple
  have hZ : (p.toList.zip q.toList).length = min p.size q.size := by simp
  have hJ := h
  obtain ⟨h0, gs, dr, tk, oss⟩ := s
  wp_walk using wpAny_loadPart' g1, wpAny_loadPart' g2, wpAny_forIn_list _ (fun rest c s' => c.1 = none ∧ ∃ i, rest = (p.toList.zip q.toList).drop i ∧ i ≤ min p.size q.size ∧ (∀ j, j < i → bs j = true) ∧ J s') _
  case turn =>
    rintro ⟨y, x⟩ rest c s' ⟨hc, i, hz, hi, ht, hI⟩
    have hlt : i < (p.toList.zip q.toList).length := (Nat.lt_or_ge i _).resolve_right fun z => by rw [List.drop_of_length_le z] at hz; cases hz
    have hm : i < min p.size q.size := hZ ▸ hlt
    have h1 : i < p.size := by omega
    have h2 : i < q.size := by omega
    rw [List.drop_eq_getElem_cons hlt] at hz
    injection hz with e1 e2
    have hy : y = p[i] := by simpa using congrArg Prod.fst e1
    have hx : x = q[i] := by simpa using congrArg Prod.snd e1
    subst hy hx
    refine wpAny_bind (wpAny_mono (turn i h1 h2 ht s' hI) (fun r s2 q2 => ?_) fun _ _ x => x)
    obtain ⟨rfl, q2⟩ := q2
    cases hb : bs i with
    | true =>
      wp_walk
      refine ⟨rfl, i + 1, e2, hm, fun j hj => ?_, q2⟩
      rcases Nat.lt_succ_iff_lt_or_eq.mp hj with hj | rfl
      · exact ht j hj
      · exact hb
    | false =>
      have hR := fin s2 q2
      rw [all_false hm hb, Bool.false_and] at hR
      wp_walk
      simpa using hR
  case fin =>
    rintro ⟨c1, c2⟩ s' ⟨hc, i, hz, hi, ht, hI⟩
    simp only at hc
    subst hc
    have hge : min p.size q.size ≤ i := (Nat.lt_or_ge i (p.toList.zip q.toList).length).elim (fun z => by rw [List.drop_eq_getElem_cons z] at hz; cases hz) fun z => hZ ▸ z
    have ei : i = min p.size q.size := by omega
    subst ei
    have hR := fin s' hI
    rw [all_true ht, Bool.true_and] at hR
    wp_walk
    simpa [Builtin.Tuple.tupleCompareSizes, bne] using hR
  case h => exact ⟨rfl, 0, rfl, Nat.zero_le _, fun j hj => absurd hj (Nat.not_lt_zero _), hJ⟩
end
end GB

/-! Mi14: == and != of data that holds instances with an own __eq__ -/
namespace Mi
open PySem PySem.Spec L2

/-! ### might two values be one -/
mutual
def same : D → D → Bool
  | .non, .non => true
  | .bl a, .bl b => a == b
  | .int a, .int b => a == b
  | .str a, .str b => a == b
  | .tup xs, .tup ys => sames xs ys
  | .lv xs, .lv ys => sames xs ys
  | .ins _ fs, .ins _ gs => samef fs gs
  | x, y => !flD x && !flD y
def sames : List D → List D → Bool
  | [], [] => true
  | x :: xs, y :: ys => same x y && sames xs ys
  | _, _ => false
def samef : List (Nat × D) → List (Nat × D) → Bool
  | [], [] => true
  | (n, x) :: xs, (m, y) :: ys => n == m && (same x y && samef xs ys)
  | _, _ => false
end
theorem same_test : same (.tup [.int 1, .ins 3 [(1, .int 2)]]) (.tup [.int 1, .ins 3 [(1, .int 3)]]) = false := by decide
section
variable {X : Cx} {ct : CT} {pins : List (Addr × Obj)} {σ : L2.St} {H : Hp} {s : Shared} {S : Addr → Prop}
theorem lst_inj {a : Addr} {xs ys : List V} (h : H a = some (.lst xs)) (h' : H a = some (.lst ys)) : xs = ys := by
  rw [h] at h'; cases h'; rfl
theorem tup_inj (I : Inv X pins σ H s) {a : Addr} {xs ys : List V} (h : H a = some (.tup xs) ∧ S a) (h' : H a = some (.tup ys) ∧ S a) : xs = ys :=
  I.tuple_inj (.inl (.inl h.1)) (.inl (.inl h'.1))
mutual
theorem same_of (I : Inv X pins σ H s) : ∀ {x : D} {v : V}, DR X.K ct S H x v → ∀ {y : D}, DR X.K ct S H y v → same x y = true
  | _, _, .non, _, r => by cases r; rfl
  | _, _, .bl b, _, r => by cases r; simp [same]
  | _, _, .int b, _, r => by cases r; simp [same]
  | _, _, .str b, _, r => by cases r; simp [same]
  | _, _, .tup h t, _, r => by
    cases r with
    | tup h' t' =>
      have e := tup_inj I h h'
      subst e
      simp only [same]
      exact sames_of I t t'
    | _ => simp [same, flD]
  | _, _, .lv h q t, _, r => by
    cases r with
    | lv h' _ t' =>
      have e := lst_inj h h'
      subst e
      simp only [same]
      exact sames_of I t t'
    | _ => simp [same, flD]
  | _, _, .scr h t, _, r => by cases r <;> simp [same, flD]
  | _, _, .dk h _ t, _, r => by cases r <;> simp [same, flD]
  | _, _, .dt h _ t, _, r => by cases r <;> simp [same, flD]
  | _, _, .ins h _ t, _, r => by
    cases r with
    | ins h' _ t' =>
      rw [h] at h'
      injection h' with h'
      injection h' with _ _ e
      subst e
      simp only [same]
      exact samef_of I t t'
    | _ => simp [same, flD]
  | _, _, .exb _ _, _, r => by cases r <;> simp [same, flD]
  | _, _, .exd _ _ _ _ _, _, r => by cases r <;> simp [same, flD]
  | _, _, .exq _, _, r => by cases r <;> simp [same, flD]
  | _, _, .exr _ _ _ _, _, r => by cases r <;> simp [same, flD]
theorem sames_of (I : Inv X pins σ H s) : ∀ {x : List D} {v : List V}, DRs X.K ct S H x v → ∀ {y : List D}, DRs X.K ct S H y v → sames x y = true
  | _, _, .nil, _, r => by cases r; rfl
  | _, _, .cons q t, _, r => by
    cases r with
    | cons q' t' => simp only [sames, same_of I q q', sames_of I t t']; rfl
theorem samef_of (I : Inv X pins σ H s) : ∀ {x : List (Nat × D)} {v : List (Str × V)}, DRf X.K ct S H x v → ∀ {y : List (Nat × D)}, DRf X.K ct S H y v → samef x y = true
  | _, _, .nil, _, r => by cases r; rfl
  | _, _, .cons (n := k) (d := d1) (v := v1) q t, y, r => by
    generalize hh : (ct.nm k, v1) = z at r
    cases r with
    | cons q' t' =>
      injection hh with e1 e2
      have := ct.inj _ _ e1
      subst this e2
      simp only [samef, same_of I q q', samef_of I t t', beq_self_eq_true]; rfl
end
mutual
theorem fun_of (I : Inv X pins σ H s) : ∀ {x : D} {v : V}, DR X.K ct S H x v → ∀ {y : D}, DR X.K ct S H y v → x.pd.canLay0 = true → y.pd.canLay0 = true → x = y
  | _, _, .non, _, r, _, _ => by cases r; rfl
  | _, _, .bl b, _, r, _, _ => by cases r; rfl
  | _, _, .int b, _, r, _, _ => by cases r; rfl
  | _, _, .str b, _, r, _, _ => by cases r; rfl
  | _, _, .tup h t, _, r, c, c' => by
    cases r with
    | tup h' t' =>
      have e := tup_inj I h h'
      subst e
      simp only [D.pd, PyData.canLay0] at c c'
      rw [funs_of I t t' c c']
    | lv h' _ _ =>
      exfalso
      obtain ⟨its, _, ⟨o, e, hc, _⟩, _⟩ := I.tuple (.inl (.inl h.1))
      obtain ⟨_, n, _, e', _⟩ := I.lst h'
      rw [e] at e'
      have z := congrArg (Option.map Obj.cls) e'
      simp [hc] at z
    | _ => simp [D.pd, PyData.canLay0] at c'
  | _, _, .lv h q t, _, r, c, c' => by
    cases r with
    | lv h' _ t' =>
      have e := lst_inj h h'
      subst e
      simp only [D.pd, PyData.canLay0] at c c'
      rw [funs_of I t t' c c']
    | tup h' _ =>
      exfalso
      obtain ⟨its, _, ⟨o, e, hc, _⟩, _⟩ := I.tuple (.inl (.inl h'.1))
      obtain ⟨_, n, _, e', _⟩ := I.lst h
      rw [e] at e'
      have z := congrArg (Option.map Obj.cls) e'
      simp [hc] at z
    | _ => simp [D.pd, PyData.canLay0] at c'
  | _, _, .scr h t, _, r, c, _ => by simp [D.pd, PyData.canLay0] at c
  | _, _, .dk h _ t, _, r, c, _ => by simp [D.pd, PyData.canLay0] at c
  | _, _, .dt h _ t, _, r, c, _ => by simp [D.pd, PyData.canLay0] at c
  | _, _, .ins h _ t, _, r, c, _ => by simp [D.pd, PyData.canLay0] at c
  | _, _, .exb _ _, _, r, c, _ => by simp [D.pd, PyData.canLay0] at c
  | _, _, .exd _ _ _ _ _, _, r, c, _ => by simp [D.pd, PyData.canLay0] at c
  | _, _, .exq _, _, r, c, _ => by simp [D.pd, PyData.canLay0] at c
  | _, _, .exr _ _ _ _, _, r, c, _ => by simp [D.pd, PyData.canLay0] at c
theorem funs_of (I : Inv X pins σ H s) : ∀ {x : List D} {v : List V}, DRs X.K ct S H x v → ∀ {y : List D}, DRs X.K ct S H y v → PyData.canLayAll0 (D.pds x) = true → PyData.canLayAll0 (D.pds y) = true → x = y
  | _, _, .nil, _, r, _, _ => by cases r; rfl
  | _, _, .cons q t, _, r, c, c' => by
    cases r with
    | cons q' t' =>
      simp only [D.pds, PyData.canLayAll0, Bool.and_eq_true] at c c'
      rw [fun_of I q q' c.1 c'.1, funs_of I t t' c.2 c'.2]
end
mutual
theorem eqv_refl : ∀ {d : D}, d.pd.canLay0 = true → PyData.eqv d.pd d.pd = true
  | .non, _ => by simp [D.pd, PyData.eqv]
  | .bl _, _ => by simp [D.pd, PyData.eqv]
  | .int _, _ => by simp [D.pd, PyData.eqv]
  | .str _, _ => by simp [D.pd, PyData.eqv]
  | .tup xs, c => by
    simp only [D.pd, PyData.canLay0] at c
    simp only [D.pd, PyData.eqv]
    exact eqvs_refl c
  | .lv xs, c => by
    simp only [D.pd, PyData.canLay0] at c
    simp only [D.pd, PyData.eqv]
    exact eqvs_refl c
  | .scr _, c => by simp [D.pd, PyData.canLay0] at c
  | .dk _, c => by simp [D.pd, PyData.canLay0] at c
  | .dt _, c => by simp [D.pd, PyData.canLay0] at c
  | .ins _ _, c => by simp [D.pd, PyData.canLay0] at c
  | .exc _ _, c => by simp [D.pd, PyData.canLay0] at c
theorem eqvs_refl : ∀ {d : List D}, PyData.canLayAll0 (D.pds d) = true → PyData.eqvAll (D.pds d) (D.pds d) = true
  | [], _ => by simp [D.pds, PyData.eqvAll]
  | x :: xs, c => by
    simp only [D.pds, PyData.canLayAll0, Bool.and_eq_true] at c
    simp only [D.pds, PyData.eqvAll, eqv_refl c.1, eqvs_refl c.2]; rfl
end

/-! ### the meaning -/
def insE (T : List (Nat × Nat)) (call : CallT) : D → D → Option Bool
  | .ins C fs, .ins C' gs => (match T.lookup C, T.lookup C' with
    | some i, some _ => (match call i [.d (.ins C fs), .d (.ins C' gs)] [] with
      | .ok (.d (.bl b)) _ => if b = true ∨ samef fs gs = false then some b else none
      | _ => none)
    | _, _ => none)
  | _, _ => none
def eqZ (f : D → D → Option Bool) : List D → List D → Option Bool
  | x :: xs, y :: ys => (match f x y with
    | some true => eqZ f xs ys
    | some false => some false
    | none => none)
  | _, _ => some true
def eqP (x y : D) : Option Bool := if flD x = true ∧ flD y = true then some (eqF x y) else if shp x = true ∧ shp y = true then some (PyData.eqv x.pd y.pd) else none
def eqO (T : List (Nat × Nat)) (call : CallT) : Nat → D → D → Option Bool
  | 0, x, y => (match eqP x y with
    | some b => some b
    | none => insE T call x y)
  | n + 1, x, y => (match eqP x y with
    | some b => some b
    | none => (match x, y with
      | .tup xs, .tup ys => (eqZ (eqO T call n) xs ys).map fun r => r && xs.length == ys.length
      | .lv xs, .lv ys => if xs.length = ys.length then eqZ (eqO T call n) xs ys else some false
      | x, y => insE T call x y))
def bsOf (f : D → D → Option Bool) (xs ys : List D) (i : Nat) : Bool := match xs[i]?, ys[i]? with
  | some x, some y => f x y == some true
  | _, _ => true
theorem eqZ_spec {f : D → D → Option Bool} : ∀ {xs ys : List D} {r : Bool}, eqZ f xs ys = some r →
    (∀ (i : Nat) x y, xs[i]? = some x → ys[i]? = some y → (∀ j, j < i → bsOf f xs ys j = true) → f x y = some (bsOf f xs ys i)) ∧ r = (List.range (min xs.length ys.length)).all (bsOf f xs ys)
  | [], ys, r, h => by
    cases h
    exact ⟨fun i x y h => by simp at h, by simp⟩
  | x :: xs, [], r, h => by
    cases h
    exact ⟨fun i x y _ h => by simp at h, by simp⟩
  | x :: xs, y :: ys, r, h => by
    unfold eqZ at h
    have hm : min (x :: xs).length (y :: ys).length = min xs.length ys.length + 1 := by simp
    have hr : (List.range (min xs.length ys.length + 1)).all (bsOf f (x :: xs) (y :: ys)) = ((f x y == some true) && (List.range (min xs.length ys.length)).all (bsOf f xs ys)) := by
      rw [List.range_succ_eq_map, List.all_cons, List.all_map]
      rfl
    rw [hm, hr]
    split at h
    · rename_i e
      obtain ⟨i1, i2⟩ := eqZ_spec h
      refine ⟨fun i a b ha hb ht => ?_, by rw [e, ← i2]; rfl⟩
      cases i with
      | zero =>
        cases ha; cases hb
        show f x y = some (f x y == some true)
        rw [e]; rfl
      | succ i => exact i1 i a b ha hb fun j hj => ht (j + 1) (Nat.succ_lt_succ hj)
    · rename_i e
      cases h
      refine ⟨fun i a b ha hb ht => ?_, by rw [e]; rfl⟩
      cases i with
      | zero =>
        cases ha; cases hb
        show f x y = some (f x y == some true)
        rw [e]; rfl
      | succ i =>
        have := ht 0 (Nat.succ_pos _)
        have e2 : (f x y == some true) = true := this
        rw [e] at e2
        cases e2
    · cases h
end
end Mi

/-! Mi15: == and != of data that holds instances with an own __eq__: they are as the meaning says -/
namespace Mi
open PySem PySem.Spec L2

/-- somewhere below the running body, by so many steps of the C stack -/
structure Blw (X : Cx) (d : Nat) (A : Around) : Prop where
  hd : A.handled = X.A.handled
  dp : A.depth = X.A.depth
  un : A.units ≤ X.A.units + d
  fr : A.frames = X.A.frames
  gd : A.guards = X.A.guards
theorem Blw.top {X : Cx} : Blw X 0 X.A := ⟨rfl, rfl, Nat.le_refl _, rfl, rfl⟩
theorem Blw.in1 {X : Cx} {d : Nat} {A : Around} (b : Blw X d A) : Blw X (d + 1) A.in1 := ⟨b.hd, b.dp, by have := b.un; show A.units + 1 ≤ _; omega, b.fr, b.gd⟩
theorem Blw.room {X : Cx} {d k : Nat} {A : Around} (b : Blw X d A) (hr : Room (k + 1) X.A) (h : d ≤ 16) : Room k A :=
  ⟨⟨b.hd.trans hr.hd, by have := hr.dp; rw [b.dp]; omega, by have := hr.un; have := b.un; omega⟩, b.gd.trans hr.gd⟩
/-- the table of the classes with an own __eq__ -/
structure EqT (X : Cx) (ct : CT) (fns : List Fn) (T : List (Nat × Nat)) : Prop where
  own : ∀ C i, T.lookup C = some i → ∃ F, fns[i]? = some F ∧ PySem.W.findIn X.K (.ref (ct.ca C)) "__eq__" = some (some (.ref F.f)) ∧ PySem.W.isFn X.K (.ref F.f) = true ∧ Binds X.K F.fd F.ps []
  two : ∀ C i C' i', T.lookup C = some i → T.lookup C' = some i' → PySem.W.notFirst X.K (ct.ca C) (.ref (ct.ca C')) = true

section
variable {X : Cx} {ct : CT} {fns : List Fn} {T : List (Nat × Nat)} {call : CallT} {n : Nat}
/-- what == is to do -/
def EqS (X : Cx) (ct : CT) (d : Nat) (f : D → D → Option Bool) : Prop :=
  ∀ (A : Around) (pins : List (Addr × Obj)) (s : Shared) (σ : L2.St) (H : Hp) (x y : D) (v1 v2 : V) (u1 u2 : Value) (b : Bool), Blw X d A → Inv X pins σ H s → DR X.K ct (fun _ => True) H x v1 → DR X.K ct (fun _ => True) H y v2 → RelV v1 u1 → RelV v2 u2 → f x y = some b →
    wpAny (model X.prog X.w) A (eqBool u1 u2) (fun r s' => r = b ∧ ∃ H', Inv X pins σ H' s' ∧ L2.Ext H H') X.xe s
/-- an answer that is told of a value and itself is yes -/
def Rfl (X : Cx) (ct : CT) (f : D → D → Option Bool) : Prop :=
  ∀ (pins : List (Addr × Obj)) (s : Shared) (σ : L2.St) (H : Hp) (x y : D) (v : V) (b : Bool), Inv X pins σ H s → DR X.K ct (fun _ => True) H x v → DR X.K ct (fun _ => True) H y v → f x y = some b → b = true
theorem eqP_some {x y : D} {b : Bool} (h : eqP x y = some b) : (flD x = true ∧ flD y = true ∧ eqF x y = b) ∨ (shp x = true ∧ shp y = true ∧ PyData.eqv x.pd y.pd = b) := by
  unfold eqP at h
  split at h
  · rename_i c; cases h; exact .inl ⟨c.1, c.2, rfl⟩
  · split at h
    · rename_i c; cases h; exact .inr ⟨c.1, c.2, rfl⟩
    · cases h
theorem eqV_refl {v : V} (h : flatV v = true) : eqV v v = true := by
  cases v <;> first | (cases h; done) | simp [eqV]
theorem eqP_rfl : Rfl X ct eqP := fun pins s σ H x y v b I r1 r2 h => by
  rcases eqP_some h with ⟨c1, c2, e⟩ | ⟨c1, c2, e⟩
  · rw [← e, ← eqF_of c1 c2 r1 r2]
    exact eqV_refl (fl_of c1 r1)
  · have k1 := SeqAt.canLay_of_shaped c1
    have k2 := SeqAt.canLay_of_shaped c2
    have := fun_of I r1 r2 k1 k2
    subst this
    rw [← e]
    exact eqv_refl k1
theorem eqP_sound {d : Nat} (hr : Room 1 X.A) (hd : d ≤ 16) : EqS X ct d eqP := fun A pins s σ H x y v1 v2 u1 u2 b sb I r1 r2 q1 q2 h => by
  rcases eqP_some h with ⟨c1, c2, e⟩ | ⟨c1, c2, e⟩
  · have q := eqAt_V (A := A) (s := s) q1 q2 (fl_of c1 r1) (fl_of c2 r2)
    rw [eqF_of c1 c2 r1 r2, e] at q
    exact q X.prog X.w X.xe _ ⟨rfl, H, I, Ext.rfl'⟩
  · have k1 := SeqAt.canLay_of_shaped c1
    have k2 := SeqAt.canLay_of_shaped c2
    obtain ⟨as, e1⟩ := Dp.reads I x.pd v1 u1 (dp_of r1 k1) q1
    obtain ⟨bs, e2⟩ := Dp.reads I y.pd v2 u2 (dp_of r2 k2) q2
    have q := SeqAt.eqAt_reads x.pd y.pd A s u1 u2 as bs e1 e2 k1 k2 (SeqAt.room_of_shaped c1 (by have := sb.un; have := hr.un; omega))
    rw [e] at q
    exact q X.prog X.w X.xe _ ⟨rfl, H, I, Ext.rfl'⟩
theorem insE_some {x y : D} {b : Bool} (h : insE T call x y = some b) : ∃ C fs C' gs i i' h', x = .ins C fs ∧ y = .ins C' gs ∧ T.lookup C = some i ∧ T.lookup C' = some i' ∧ call i [.d x, .d y] [] = .ok (.d (.bl b)) h' ∧ (b = true ∨ samef fs gs = false) := by
  unfold insE at h
  split at h
  · split at h
    · rename_i C fs C' gs _ _ i i' e1 e2
      split at h
      · rename_i b' h' e3
        split at h
        · rename_i hb
          cases h
          exact ⟨C, fs, C', gs, i, i', h', rfl, rfl, e1, e2, e3, hb⟩
        · cases h
      · cases h
    · cases h
  · cases h
theorem insE_rfl : Rfl X ct (insE T call) := fun pins s σ H x y v b I r1 r2 h => by
  obtain ⟨C, fs, C', gs, i, i', h', rfl, rfl, e1, e2, e3, hb⟩ := insE_some h
  rcases hb with hb | hb
  · exact hb
  · have := same_of I r1 r2
    simp only [same] at this
    rw [hb] at this
    cases this
theorem sf_nil (a : Addr) : Sf [] [] a := fun ⟨k, o, e, _⟩ => by simp at e
theorem hr_nil {K : PySem.W.Frag} {H : Hp} : HR K ct [] [] H := ⟨rfl, fun i j a e => by simp at e, fun k a o e => by simp at e⟩
/-- the rich comparison by an own __eq__ -/
theorem insE_rc (co : CallOk X.prog X.w X.K X.mg X.base ct fns call n) (ET : EqT X ct fns T) {A : Around} (hr : Room (2 * n + 1) A) (hf : A.frames = X.A.frames) {pins : List (Addr × Obj)} {s : Shared} {σ : L2.St} {H : Hp} {x y : D} {v1 v2 : V} {u1 u2 : Value} {b : Bool}
    (I : Inv X pins σ H s) (r1 : DR X.K ct (fun _ => True) H x v1) (r2 : DR X.K ct (fun _ => True) H y v2) (q1 : RelV v1 u1) (q2 : RelV v2 u2) (h : insE T call x y = some b) :
    wpAny (model X.prog X.w) A (richCompare .Eq u1 u2) (fun r s' => r = .bool b ∧ ∃ H', Inv X pins σ H' s' ∧ L2.Ext H H') X.xe s := by
  obtain ⟨C, fs, C', gs, i, i', h', rfl, rfl, e1, e2, e3, hb⟩ := insE_some h
  obtain ⟨F, hF, hs, hfn, hbd⟩ := ET.own C i e1
  have hnf := ET.two C i C' i' e1 e2
  have G := co.ok i F hF
  have kp : Kp (fun _ => True) H (Sf [] []) H := fun a o e _ => ⟨e, sf_nil a⟩
  have hsp : spC X.K ct call i [v1, v2] H (fun v H' => v = .bl b ∧ L2.Ext H H') (fun _ _ _ => False) := by
    refine ⟨[], [], [.d (.ins C fs), .d (.ins C' gs)], hr_nil, .cons (DR.mono kp r1) (.cons (DR.mono kp r2) .nil), ?_⟩
    rw [e3]
    refine fun m2 H2 w2 hr2 ex2 rw2 => ?_
    cases rw2
    exact ⟨rfl, fun a o e => (ex2.kp a o e (sf_nil a)).1⟩
  cases r1 with
  | @ins a1 _ dx1 _ vs1 g1 _ t1 =>
  cases r2 with
  | @ins a2 _ dx2 _ vs2 g2 _ t2 =>
  cases q1
  cases q2
  obtain ⟨mA, J, _⟩ := ins_get I.hok g1
  obtain ⟨mB, J', _⟩ := ins_get I.hok g2
  obtain ⟨od, J, _⟩ := J.look
  obtain ⟨od', J', _⟩ := J'.look
  obtain ⟨m, hFr⟩ := I.fr
  refine PySem.W.cmp_K (op := .Eq) (tb := .ref (ct.ca C')) hr.units0 hFr I.ok.mod.kin J J'.type hnf hs hfn ?_
  have ee := I.env0
  have e0 : Env0 X.prog X.w X.K X.mg X.base A X.stack s H := ⟨by rw [hf]; exact ee.frames, ee.mod, ee.bs, ee.bsz, ee.funs, ee.frf, ee.hok, ee.bare⟩
  have hl := G.len _ _ _ _ hsp
  have hv : Vals [V.ref a1, V.ref a2] [Value.ref a1, Value.ref a2] := .cons rfl (.cons rfl .nil)
  have hbn := hbd s [.ref a1, .ref a2] I.kIn (by simpa using hl)
  refine wpAny_call (codeAny_mono (G.run A X.stack s H ⟨[.ref a1, .ref a2], []⟩ [.ref a1, .ref a2] [.ref a1, .ref a2] _ _ hr e0 (by simpa using hbn) hv hsp) fun r s' hq => ?_)
  cases r with
  | error e =>
    obtain ⟨_, _, _, _, _, _, _, _, _, _, _, _, _, _, _, _, w⟩ := XE.of_call (W := W0) I (fun _ _ _ q => q) hq
    exact w.elim
  | ok fl =>
    cases fl with
    | ret w =>
      obtain ⟨z, H', I', rz, ez, ex⟩ := I.after hq
      subst ez
      cases rz
      exact ⟨rfl, H', I', ex⟩
    | next => exact False.elim hq
    | brk => exact False.elim hq
    | cont => exact False.elim hq
theorem ref_of {K : PySem.W.Frag} {S : Addr → Prop} {H : Hp} {x : D} {v : V} (r : DR K ct S H x v) (h : flD x = false) : ∃ a, v = .ref a := by
  cases r <;> first | (cases h; done) | exact ⟨_, rfl⟩
/-- from the rich comparison of two references to == -/
theorem eqb_ref {A : Around} {pins : List (Addr × Obj)} {s : Shared} {σ : L2.St} {H : Hp} {a1 a2 : Addr} {b : Bool} (I : Inv X pins σ H s) (hb : a1 = a2 → b = true)
    (h : wpAny (model X.prog X.w) A (richCompare .Eq (.ref a1) (.ref a2)) (fun r s' => r = .bool b ∧ ∃ H', Inv X pins σ H' s' ∧ L2.Ext H H') X.xe s) :
    wpAny (model X.prog X.w) A (eqBool (.ref a1) (.ref a2)) (fun r s' => r = b ∧ ∃ H', Inv X pins σ H' s' ∧ L2.Ext H H') X.xe s := by
  by_cases e : a1 = a2
  · subst e
    exact SeqAt.EqAt.same (A := A) (s := s) (.ref a1) X.prog X.w X.xe _ ⟨(hb rfl).symm, H, I, Ext.rfl'⟩
  · refine GQ.eqBool_refG e (wpAny_mono h (fun r s' q => ?_) fun _ _ x => x)
    exact ⟨b, q.1, rfl, q.2⟩
/-- the turn of a loop over two rows of items -/
theorem turn_of {d : Nat} {f : D → D → Option Bool} (h : EqS X ct (d + 1) f) {A : Around} (sb : Blw X d A) {pins : List (Addr × Obj)} {σ : L2.St} {H : Hp} {xs ys : List D} {vs ws : List V} {p q : List Value} (rx : DRs X.K ct (fun _ => True) H xs vs) (ry : DRs X.K ct (fun _ => True) H ys ws)
    (rp : Vals vs p) (rq : Vals ws q) {r : Bool} (hz : eqZ f xs ys = some r) (i : Nat) (h1 : i < p.toArray.size) (h2 : i < q.toArray.size) (ht : ∀ j, j < i → bsOf f xs ys j = true) (s' : Shared) (l : ∃ H', Inv X pins σ H' s' ∧ L2.Ext H H') :
    wpAny (model X.prog X.w) A.in1 (eqBool p.toArray[i] q.toArray[i]) (fun r s2 => r = bsOf f xs ys i ∧ ∃ H', Inv X pins σ H' s2 ∧ L2.Ext H H') X.xe s' := by
  obtain ⟨H1, I1, e1⟩ := l
  have kp : Kp (fun _ => True) H (fun _ => True) H1 := fun a o e _ => ⟨e1 a o e, trivial⟩
  have k1 : i < xs.length := by rw [rx.length, rp.length]; simpa using h1
  have k2 : i < ys.length := by rw [ry.length, rq.length]; simpa using h2
  obtain ⟨v1, g1, t1⟩ := (rx.mono kp).get (List.getElem?_eq_getElem k1)
  obtain ⟨v2, g2, t2⟩ := (ry.mono kp).get (List.getElem?_eq_getElem k2)
  obtain ⟨u1, m1, w1⟩ := rp.get g1
  obtain ⟨u2, m2, w2⟩ := rq.get g2
  have z1 : p.toArray[i] = u1 := by
    have : i < p.length := by simpa using h1
    rw [List.getElem?_eq_getElem this] at m1
    simpa using m1
  have z2 : q.toArray[i] = u2 := by
    have : i < q.length := by simpa using h2
    rw [List.getElem?_eq_getElem this] at m2
    simpa using m2
  rw [z1, z2]
  refine wpAny_mono (h A.in1 pins s' σ H1 _ _ v1 v2 u1 u2 _ sb.in1 I1 t1 t2 w1 w2 ((eqZ_spec hz).1 i _ _ (List.getElem?_eq_getElem k1) (List.getElem?_eq_getElem k2) ht)) (fun r s2 q => ?_) fun _ _ x => x
  exact ⟨q.1, let ⟨H2, I2, e2⟩ := q.2; ⟨H2, I2, e1.trans e2⟩⟩
theorem eqZ_rfl {f : D → D → Option Bool} (h : Rfl X ct f) {pins : List (Addr × Obj)} {s : Shared} {σ : L2.St} {H : Hp} (I : Inv X pins σ H s) : ∀ {xs ys : List D} {vs : List V} {b : Bool}, DRs X.K ct (fun _ => True) H xs vs → DRs X.K ct (fun _ => True) H ys vs → eqZ f xs ys = some b → b = true
  | [], _, _, _, _, _, e => by cases e; rfl
  | _ :: _, [], _, _, _, _, e => by cases e; rfl
  | x :: xs, y :: ys, _, b, .cons r t, .cons r' t', e => by
    unfold eqZ at e
    split at e
    · exact eqZ_rfl h I t t' e
    · rename_i e2
      cases e
      exact h _ _ _ _ _ _ _ _ I r r' e2
    · cases e
theorem eqO_rfl : ∀ k : Nat, Rfl X ct (eqO T call k)
  | 0 => fun pins s σ H x y v b I r1 r2 h => by
    unfold eqO at h
    split at h
    · rename_i e; cases h; exact eqP_rfl _ _ _ _ _ _ _ _ I r1 r2 e
    · exact insE_rfl _ _ _ _ _ _ _ _ I r1 r2 h
  | k + 1 => fun pins s σ H x y v b I r1 r2 h => by
    unfold eqO at h
    split at h
    · rename_i e; cases h; exact eqP_rfl _ _ _ _ _ _ _ _ I r1 r2 e
    · split at h
      · cases r1 with
        | tup g1 t1 =>
        cases r2 with
        | tup g2 t2 =>
        have e := tup_inj (S := fun _ => True) I g1 g2
        subst e
        cases hz : eqZ (eqO T call k) _ _ with
        | none => rw [hz] at h; cases h
        | some r =>
          rw [hz] at h
          cases h
          rw [eqZ_rfl (eqO_rfl k) I t1 t2 hz, t1.length, t2.length, beq_self_eq_true]; rfl
      · cases r1 with
        | lv g1 _ t1 =>
        cases r2 with
        | lv g2 _ t2 =>
        have e := lst_inj g1 g2
        subst e
        rw [if_pos (t1.length.trans t2.length.symm)] at h
        exact eqZ_rfl (eqO_rfl k) I t1 t2 h
      · exact insE_rfl _ _ _ _ _ _ _ _ I r1 r2 h
/-- the rich comparison of two lists, of two tuples, of two instances -/
theorem eqO_rc (ne : Bool) (co : CallOk X.prog X.w X.K X.mg X.base ct fns call n) (ET : EqT X ct fns T) (hr : Room (2 * n + 2) X.A) {d k : Nat} (hd : d + k < 16) (ih : EqS X ct (d + 1) (eqO T call k)) {A : Around} {pins : List (Addr × Obj)} {s : Shared} {σ : L2.St} {H : Hp} {xs ys : List D} {t : Bool} {v1 v2 : V} {u1 u2 : Value} {b : Bool}
    (sb : Blw X d A) (I : Inv X pins σ H s) (r1 : DR X.K ct (fun _ => True) H (if t then .tup xs else .lv xs) v1) (r2 : DR X.K ct (fun _ => True) H (if t then .tup ys else .lv ys) v2) (q1 : RelV v1 u1) (q2 : RelV v2 u2)
    (h : (if t then (eqZ (eqO T call k) xs ys).map fun r => r && xs.length == ys.length else if xs.length = ys.length then eqZ (eqO T call k) xs ys else some false) = some b) :
    wpAny (model X.prog X.w) A (richCompare (if ne then .NotEq else .Eq) u1 u2) (fun r s' => r = .bool (if ne then !b else b) ∧ ∃ H', Inv X pins σ H' s' ∧ L2.Ext H H') X.xe s := by
  have hu : A.units < cLine := (sb.room hr (by omega)).units0
  cases t with
  | true =>
    simp only [if_true] at r1 r2 h
    cases r1 with
    | @tup a1 _ vs1 g1 t1 =>
    cases r2 with
    | @tup a2 _ vs2 g2 t2 =>
    cases q1
    cases q2
    obtain ⟨p, rp, ⟨⟨c1, dd1, da1, sl1⟩, o1, hc1, n1, hd1⟩, _⟩ := I.tuple (.inl (.inl g1.1))
    obtain ⟨q, rq, ⟨⟨c2, dd2, da2, sl2⟩, o2, hc2, n2, hd2⟩, _⟩ := I.tuple (.inl (.inl g2.1))
    simp only at hc1 hd1 hc2 hd2
    subst hc1 hd1 hc2 hd2
    cases hz : eqZ (eqO T call k) xs ys with
    | none => rw [hz] at h; cases h
    | some r =>
      rw [hz] at h
      cases h
      have sp := (eqZ_spec hz).2
      have l1 : p.toArray.size = xs.length := by rw [List.size_toArray, ← rp.length, t1.length]
      have l2 : q.toArray.size = ys.length := by rw [List.size_toArray, ← rq.length, t2.length]
      cases ne with
      | false =>
        refine wpAny_richCompare_same_room (op := .Eq) ⟨_, o1, rfl⟩ ⟨_, o2, rfl⟩ F.slot_tuple_eq (GQ.call_here F.slot_tuple_eq ⟨_, o1, rfl⟩ F.entry_tuple_eq (F.args_tuple_eq_2 _ _) ?_) hu
        refine GB.tup_eqB (J := fun s' => ∃ H', Inv X pins σ H' s' ∧ L2.Ext H H') (bs := bsOf (eqO T call k) xs ys) p.toArray q.toArray n1 n2 dd1 dd2 sl1 sl2 (fun i h1 h2 ht s' l => turn_of ih sb t1 t2 rp rq hz i h1 h2 ht s' l) (fun s' l => ⟨(fun z => nomatch z), ?_, l⟩) o1 o2 ⟨H, I, Ext.rfl'⟩
        rw [l1, l2, ← sp]; rfl
      | true =>
        refine wpAny_richCompare_same_room (op := .NotEq) ⟨_, o1, rfl⟩ ⟨_, o2, rfl⟩ F.slot_tuple_ne (GQ.call_here F.slot_tuple_ne ⟨_, o1, rfl⟩ F.entry_tuple_ne (F.args_tuple_ne_2 _ _) ?_) hu
        refine GB.tup_neB (J := fun s' => ∃ H', Inv X pins σ H' s' ∧ L2.Ext H H') (bs := bsOf (eqO T call k) xs ys) p.toArray q.toArray n1 n2 dd1 dd2 sl1 sl2 (fun i h1 h2 ht s' l => turn_of ih sb t1 t2 rp rq hz i h1 h2 ht s' l) (fun s' l => ⟨(fun z => nomatch z), ?_, l⟩) o1 o2 ⟨H, I, Ext.rfl'⟩
        rw [l1, l2, ← sp]; rfl
  | false =>
    rw [if_neg Bool.false_ne_true] at r1 r2 h
    cases r1 with
    | @lv a1 _ vs1 g1 _ t1 =>
    cases r2 with
    | @lv a2 _ vs2 g2 _ t2 =>
    cases q1
    cases q2
    obtain ⟨p, n1, rp, o1, _⟩ := I.lst g1
    obtain ⟨q, n2, rq, o2, _⟩ := I.lst g2
    have l1 : p.length = xs.length := by rw [← rp.length, t1.length]
    have l2 : q.length = ys.length := by rw [← rq.length, t2.length]
    by_cases hl : xs.length = ys.length
    · rw [if_pos hl] at h
      have sp := (eqZ_spec h).2
      rw [← hl, Nat.min_self] at sp
      have bo : GB.Both X.prog X.w A X.xe a1 a2 xs.length (bsOf (eqO T call k) xs ys) (fun s' => ∃ H', Inv X pins σ H' s' ∧ L2.Ext H H') := fun s' l => by
        obtain ⟨H1, I1, e1⟩ := id l
        obtain ⟨p', n1', rp', o1', _⟩ := I1.lst (e1 _ _ g1)
        obtain ⟨q', n2', rq', o2', _⟩ := I1.lst (e1 _ _ g2)
        exact ⟨p'.toArray, q'.toArray, n1', n2', o1', o2', by rw [List.size_toArray, ← rp'.length, t1.length], by rw [List.size_toArray, ← rq'.length, ← t2.length, hl], fun i h1 h2 ht => turn_of ih sb t1 t2 rp' rq' h i h1 h2 ht s' l⟩
      cases ne with
      | false =>
        refine wpAny_richCompare_same_room (op := .Eq) ⟨_, o1, rfl⟩ ⟨_, o2, rfl⟩ F.slot_list_eq (GQ.call_here F.slot_list_eq ⟨_, o1, rfl⟩ F.entry_list_eq (F.args_list_eq_2 _ _) ?_) hu
        exact GB.lst_eqB bo (fun s' l => ⟨(fun z => nomatch z), by rw [← sp]; rfl, l⟩) ⟨H, I, Ext.rfl'⟩
      | true =>
        refine wpAny_richCompare_same_room (op := .NotEq) ⟨_, o1, rfl⟩ ⟨_, o2, rfl⟩ F.slot_list_ne (GQ.call_here F.slot_list_ne ⟨_, o1, rfl⟩ F.entry_list_ne (F.args_list_ne_2 _ _) ?_) hu
        exact GB.lst_neB bo (fun s' l => ⟨(fun z => nomatch z), by rw [← sp]; rfl, l⟩) ⟨H, I, Ext.rfl'⟩
    · rw [if_neg hl] at h
      cases h
      have hsz : (p.toArray.size != q.toArray.size) = true := by rw [List.size_toArray, List.size_toArray, l1, l2]; exact bne_iff_ne.mpr hl
      cases ne with
      | false => exact SeqAt.RcAt.lists_lengths ⟨_, o1, rfl, _, rfl⟩ ⟨_, o2, rfl, _, rfl⟩ hsz hu X.prog X.w X.xe _ ⟨rfl, H, I, Ext.rfl'⟩
      | true => exact SeqAt.RcNeAt.lists_lengths ⟨_, o1, rfl, _, rfl⟩ ⟨_, o2, rfl, _, rfl⟩ hsz hu X.prog X.w X.xe _ ⟨rfl, H, I, Ext.rfl'⟩
theorem eqO_sound (co : CallOk X.prog X.w X.K X.mg X.base ct fns call n) (ET : EqT X ct fns T) (hr : Room (2 * n + 2) X.A) : ∀ (k d : Nat), d + k < 16 → EqS X ct d (eqO T call k)
  | 0, d, hd => fun A pins s σ H x y v1 v2 u1 u2 b sb I r1 r2 q1 q2 h => by
    have hi := h
    unfold eqO at h
    split at h
    · rename_i e; cases h; exact eqP_sound (hr.mono (by omega)) (by omega) A pins s σ H x y v1 v2 u1 u2 _ sb I r1 r2 q1 q2 e
    · obtain ⟨C, fs, C', gs, i, i', h', rfl, rfl, _⟩ := insE_some h
      have rc := insE_rc co ET (sb.room hr (by omega)) sb.fr I r1 r2 q1 q2 h
      obtain ⟨a1, rfl⟩ := ref_of r1 rfl
      obtain ⟨a2, rfl⟩ := ref_of r2 rfl
      cases q1
      cases q2
      exact eqb_ref I (fun e => by subst e; exact insE_rfl _ _ _ _ _ _ _ _ I r1 r2 h) rc
  | k + 1, d, hd => fun A pins s σ H x y v1 v2 u1 u2 b sb I r1 r2 q1 q2 h => by
    have hi := h
    unfold eqO at h
    split at h
    · rename_i e; cases h; exact eqP_sound (hr.mono (by omega)) (by omega) A pins s σ H x y v1 v2 u1 u2 _ sb I r1 r2 q1 q2 e
    · split at h
      · have rc := eqO_rc false co ET hr (k := k) (by omega) (eqO_sound co ET hr k (d + 1) (by omega)) (t := true) sb I r1 r2 q1 q2 h
        obtain ⟨a1, rfl⟩ := ref_of r1 rfl
        obtain ⟨a2, rfl⟩ := ref_of r2 rfl
        cases q1
        cases q2
        exact eqb_ref I (fun e => by subst e; exact eqO_rfl (k + 1) _ _ _ _ _ _ _ _ I r1 r2 hi) rc
      · have rc := eqO_rc false co ET hr (k := k) (by omega) (eqO_sound co ET hr k (d + 1) (by omega)) (t := false) sb I r1 r2 q1 q2 h
        obtain ⟨a1, rfl⟩ := ref_of r1 rfl
        obtain ⟨a2, rfl⟩ := ref_of r2 rfl
        cases q1
        cases q2
        exact eqb_ref I (fun e => by subst e; exact eqO_rfl (k + 1) _ _ _ _ _ _ _ _ I r1 r2 hi) rc
      · obtain ⟨C, fs, C', gs, i, i', h', rfl, rfl, _⟩ := insE_some h
        have rc := insE_rc co ET (sb.room hr (by omega)) sb.fr I r1 r2 q1 q2 h
        obtain ⟨a1, rfl⟩ := ref_of r1 rfl
        obtain ⟨a2, rfl⟩ := ref_of r2 rfl
        cases q1
        cases q2
        exact eqb_ref I (fun e => by subst e; exact insE_rfl _ _ _ _ _ _ _ _ I r1 r2 h) rc
/-- data as it is seen by a comparison: a changeable list is its items -/
def eqTop (T : List (Nat × Nat)) (call : CallT) (x y : D) : Option Bool := match deq x y with
  | some b => some b
  | none => (match x, y with
    | .tup xs, .tup ys => (eqZ (eqO T call 6) xs ys).map fun r => r && xs.length == ys.length
    | .lv xs, .lv ys => if xs.length = ys.length then eqZ (eqO T call 6) xs ys else some false
    | _, _ => none)
def oEqO (ne : Bool) (T : List (Nat × Nat)) (call : CallT) : Op2 := fun x y h => match viewD x h, viewD y h with
  | some a, some b => (match eqTop T call a b with
    | some r => some (.d (.bl (if ne then !r else r)), h)
    | none => (match ne, x, y with
      | false, .d u, .d v => (insE T call u v).map fun r => (.d (.bl r), h)
      | _, _, _ => none))
  | _, _ => none
theorem view_dr {K : PySem.W.Frag} {m : List Addr} {ah : Hs} {x : Vl} {d : D} {v : V} {H : Hp} (e : viewD x ah = some d) (hr : HR K ct m ah H) (r : VlR K ct m ah H x v) : DR K ct (fun _ => True) H d v := by
  have kp : Kp (Sf m ah) H (fun _ => True) H := fun a o e _ => ⟨e, trivial⟩
  unfold viewD at e
  split at e
  · cases e; exact DR.mono kp r
  · rename_i k
    split at e
    · rename_i xs hk
      cases e
      obtain ⟨a, vs, _, rfl, h1, h2⟩ := hr.lstK hk r
      exact .lv h1 trivial (h2.mono kp)
    · cases e
theorem cmp_rc (ne : Bool) (u1 u2 : Value) : compareOp (if ne then .NotEq else .Eq) u1 u2 = richCompare (if ne then .NotEq else .Eq) u1 u2 := by cases ne <;> rfl
theorem eqo_sound (ne : Bool) (co : CallOk X.prog X.w X.K X.mg X.base ct fns call n) (ET : EqT X ct fns T) (hr : Room (2 * n + 2) X.A) : OpR X (compareOp (if ne then .NotEq else .Eq)) (rOp X.K ct (oEqO ne T call)) := by
  intro pins s σ H x y u1 u2 Q I q1 q2 ⟨m, ah, a, b, h1, ra, rb, p⟩
  unfold oEqO at p
  split at p
  · rename_i d e va vb
    have r1 := view_dr va h1 ra
    have r2 := view_dr vb h1 rb
    have go : ∀ {r : Bool} {H' : Hp} {s' : Shared}, Inv X pins σ H' s' → L2.Ext H H' → Pp X.K ct m ah H (some (.d (.bl r), ah)) Q → EP X pins σ Q (.bool r) s' := fun I' ex p' => by
      obtain ⟨hr', ex'⟩ := h1.more ex
      exact ⟨.bl _, _, I', rfl, p' m _ _ hr' ex' (.bl _)⟩
    split at p
    · rename_i r hq
      unfold eqTop at hq
      split at hq
      · rename_i r' hd
        cases hq
        unfold deq at hd
        split at hd
        · rename_i hc
          cases hd
          have hc' := Bool.and_eq_true_iff.mp hc
          cases ne with
          | false => exact (op_eqD hr.units) pins s σ H x y u1 u2 Q I q1 q2 ⟨d.pd, e.pd, view_dp h1 va ra hc'.1, view_dp h1 vb rb hc'.2, hc'.1, hc'.2, p.same h1 (.bl _)⟩
          | true => exact (op_neD hr.units) pins s σ H x y u1 u2 Q I q1 q2 ⟨d.pd, e.pd, view_dp h1 va ra hc'.1, view_dp h1 vb rb hc'.2, hc'.1, hc'.2, p.same h1 (.bl _)⟩
        · cases hd
      · split at hq
        · have rc := eqO_rc ne co ET hr (d := 0) (k := 6) (by omega) (eqO_sound co ET hr 6 1 (by omega)) (t := true) Blw.top I r1 r2 q1 q2 hq
          rw [cmp_rc]
          refine wpAny_mono rc (fun w s' q => ?_) fun _ _ z => z
          obtain ⟨rfl, H', I', ex⟩ := q
          exact go I' ex p
        · have rc := eqO_rc ne co ET hr (d := 0) (k := 6) (by omega) (eqO_sound co ET hr 6 1 (by omega)) (t := false) Blw.top I r1 r2 q1 q2 hq
          rw [cmp_rc]
          refine wpAny_mono rc (fun w s' q => ?_) fun _ _ z => z
          obtain ⟨rfl, H', I', ex⟩ := q
          exact go I' ex p
        · cases hq
    · split at p
      · rename_i u v
        have eu : viewD (.d u) ah = some u := rfl
        have ev : viewD (.d v) ah = some v := rfl
        cases hi : insE T call u v with
        | none => rw [hi] at p; exact p.elim
        | some r =>
          rw [hi] at p
          have rc := insE_rc co ET (hr.mono (by omega)) rfl I (view_dr eu h1 ra) (view_dr ev h1 rb) q1 q2 hi
          refine wpAny_mono (show wpAny (model X.prog X.w) X.A (compareOp .Eq u1 u2) _ X.xe s from rc) (fun w s' q => ?_) fun _ _ z => z
          obtain ⟨rfl, H', I', ex⟩ := q
          exact go I' ex p
      · exact p.elim
  · exact p.elim
theorem eqoE_sound (co : CallOk X.prog X.w X.K X.mg X.base ct fns call n) (ET : EqT X ct fns T) (hr : Room (2 * n + 2) X.A) : OpR X (compareOp .Eq) (rOp X.K ct (oEqO false T call)) := eqo_sound false co ET hr
theorem eqoN_sound (co : CallOk X.prog X.w X.K X.mg X.base ct fns call n) (ET : EqT X ct fns T) (hr : Room (2 * n + 2) X.A) : OpR X (compareOp .NotEq) (rOp X.K ct (oEqO true T call)) := eqo_sound true co ET hr
end
end Mi

/-! Mi16: tuples and texts repeated, orders of texts, all, any, a sign in a text -/
namespace Mi
open PySem PySem.Spec L2

/-! ### tuple * int: the same object, none -/
theorem tmul_same (l : Addr) (p : Array Value) (n : Nat) (dd : Option Addr) (sl : Array (Option Value)) (x : Int) (u : Tok) (c0 : (decide (x < -(2 ^ 63)) || decide (x ≥ 2 ^ 63)) = false) (c1 : (p.isEmpty || x == 1) = true) :
    Meets (Builtin.«tuple.__mul__» ⟨[.ref l, .int x u], []⟩) (fun _ R s => s.heap.get? l = some { cls := .type "tuple", dict := dd, data := .seq p n, slots := sl } ∧ R (.ok (.ret (Value.ref l))) s) :=
  .of_wp fun prog w A R s h => by
    obtain ⟨hp, g, d, tk, os⟩ := s
    obtain ⟨hl, h⟩ := h
    have f1 := AutoSeq1.idx_int
    wp_walk using AutoSeq1.wpAny_loadPart' hl
    refine wpAny_ite_false (decide_eq_false (by rw [c0]; exact Bool.false_ne_true)) ?_
    wp_walk using AutoSeq1.wpAny_loadPart' hl
    exact ⟨_, rfl, h⟩
theorem tmul_none (l : Addr) (p : Array Value) (n : Nat) (dd : Option Addr) (sl : Array (Option Value)) (x : Int) (u : Tok) (c0 : (decide (x < -(2 ^ 63)) || decide (x ≥ 2 ^ 63)) = false) (c1 : (p.isEmpty || x == 1) = false) (c2 : (decide (x ≤ 0) || p.isEmpty) = true) :
    Meets (Builtin.«tuple.__mul__» ⟨[.ref l, .int x u], []⟩) (fun _ R s => s.heap.get? l = some { cls := .type "tuple", dict := dd, data := .seq p n, slots := sl } ∧
      R (.ok (.ret (Value.ref s.heap.objs.size))) { s with heap := s.heap.push { cls := Value.type "tuple", data := Data.seq #[] }, toks := s.toks }) :=
  .of_wp fun prog w A R s h => by
    obtain ⟨hp, g, d, tk, os⟩ := s
    obtain ⟨hl, h⟩ := h
    have f1 := AutoSeq1.idx_int
    wp_walk using AutoSeq1.wpAny_loadPart' hl
    refine wpAny_ite_false (decide_eq_false (by rw [c0]; exact Bool.false_ne_true)) ?_
    wp_walk using AutoSeq1.wpAny_loadPart' hl
    exact ⟨_, rfl, h⟩
def rRepM (K : PySem.W.Frag) : R2 := fun x y H Q => ∃ l k xs, x = .ref l ∧ y = .int k ∧ SqT K H l xs ∧ -1000 ≤ k ∧ k ≤ 1000 ∧ xs.length ≤ 1000 ∧ ((xs = [] ∨ k = 1) → Q (.ref l) H) ∧ (xs ≠ [] → k ≠ 1 → ∀ p, H p = none → Q (.ref p) (upd H p (.tup (List.replicate k.toNat xs).flatten)))
theorem op_repM {X : Cx} : OpR X (binaryOp .Mult) (rRepM X.K) := by
  intro pins s σ H x y v u Q I rx ry h
  obtain ⟨l, k, xs, rfl, rfl, hT, h1, h2, hz, q1, q2⟩ := h
  by_cases hs : xs = [] ∨ k = 1
  · cases rx
    obtain ⟨t, rfl⟩ := ry
    obtain ⟨its, r, ⟨⟨cls, dd, data, sl⟩, ho, hc, n, hd⟩, hss⟩ := I.tuple hT
    simp only at hc hd
    subst hc hd
    have c0 : (decide (k < -(2 ^ 63)) || decide (k ≥ 2 ^ 63)) = false := by
      rw [decide_eq_false (by omega), decide_eq_false (by omega)]; rfl
    have c1 : (its.toArray.isEmpty || k == 1) = true := by
      rcases hs with rfl | rfl
      · cases r; rfl
      · simp
    refine wpAny_binaryOp_repeat_ref (T := "tuple") (U := "int") (by decide) ⟨_, ho, rfl⟩ (fun s' => typeIs_int s' k t) noFill_tuple_mul F.fills_int_mul F.slot_int_rmul repeat_tuple F.slot_int_index.lookup
      (call_meets F.slot_int_rmul (typeIs_int s k t) F.entry_int_rmul (F.args_int_rmul_2 _ _) (int_rmul_tuple k t l its.toArray n dd sl)
        ⟨ho, rfl, ⟨_, ho, rfl⟩, call_meets F.slot_tuple_mul ⟨_, ho, rfl⟩ F.entry_tuple_mul (F.args_tuple_mul_2 _ _) (tmul_same l its.toArray n dd sl k t c0 c1) ⟨ho, ?_⟩⟩)
    exact ⟨.ref l, H, I, rfl, q1 hs⟩
  · have hne : xs ≠ [] := fun e => hs (.inl e)
    have hk1 : k ≠ 1 := fun e => hs (.inr e)
    by_cases h3 : 2 ≤ k
    · exact op_repT pins s σ H _ _ v u Q I rx ry ⟨l, k, xs, rfl, rfl, hT, hne, h3, h2, hz, q2 hne hk1⟩
    · cases rx
      obtain ⟨t, rfl⟩ := ry
      obtain ⟨its, r, ⟨⟨cls, dd, data, sl⟩, ho, hc, n, hd⟩, hss⟩ := I.tuple hT
      simp only at hc hd
      subst hc hd
      have c0 : (decide (k < -(2 ^ 63)) || decide (k ≥ 2 ^ 63)) = false := by
        rw [decide_eq_false (by omega), decide_eq_false (by omega)]; rfl
      have hi : its.toArray.isEmpty = false := by
        cases its with
        | nil => cases r; exact absurd rfl hne
        | cons a b => rfl
      have c1 : (its.toArray.isEmpty || k == 1) = false := by
        rw [hi, Bool.false_or]; exact beq_eq_false_iff_ne.mpr hk1
      have c2 : (decide (k ≤ 0) || its.toArray.isEmpty) = true := by
        rw [decide_eq_true (by omega)]; rfl
      have e0 : k.toNat = 0 := by omega
      have q := q2 hne hk1
      rw [e0, List.replicate_zero, List.flatten_nil] at q
      refine wpAny_binaryOp_repeat_ref (T := "tuple") (U := "int") (by decide) ⟨_, ho, rfl⟩ (fun s' => typeIs_int s' k t) noFill_tuple_mul F.fills_int_mul F.slot_int_rmul repeat_tuple F.slot_int_index.lookup
        (call_meets F.slot_int_rmul (typeIs_int s k t) F.entry_int_rmul (F.args_int_rmul_2 _ _) (int_rmul_tuple k t l its.toArray n dd sl)
          ⟨ho, rfl, ⟨_, ho, rfl⟩, call_meets F.slot_tuple_mul ⟨_, ho, rfl⟩ F.entry_tuple_mul (F.args_tuple_mul_2 _ _) (tmul_none l its.toArray n dd sl k t c0 c1 c2) ⟨ho, ?_⟩⟩)
      refine ⟨.ref s.heap.objs.size, _, I.laid (t' := s.toks) (o := .tup []) (fun b ob q => Heap.get?_push_of_some _ q) (Nat.le_refl _) ?_, rfl, q _ (I.hok.fresh (Nat.le_refl _))⟩
      exact ⟨Nat.zero_le _, [], .nil, PyProof.Rows.IsTup.new _ _⟩
/-- text * int -/
def rRepS : R2 := fun x y H Q => ∃ (z : Str) (k : Int), x = .str z ∧ y = .int k ∧ 0 ≤ k ∧ k ≤ 1000 ∧ z.length ≤ 1000 ∧ Q (.str ⟨(List.replicate k.toNat z.cps.toList).flatten.toArray⟩) H
theorem fold_rep (p : Array Nat) : ∀ (m : Nat) (acc : Array Nat), (List.replicate m p).foldl (· ++ ·) acc = (acc.toList ++ (List.replicate m p.toList).flatten).toArray
  | 0, acc => by simp
  | m + 1, acc => by
    rw [List.replicate_succ, List.foldl_cons, fold_rep p m, List.replicate_succ, List.flatten_cons]
    simp
theorem op_repS {X : Cx} : OpR X (binaryOp .Mult) rRepS := by
  intro pins s σ H x y v u Q I rx ry h
  obtain ⟨z, k, rfl, rfl, h1, h2, hz, q⟩ := h
  obtain ⟨t, rfl⟩ := rx
  obtain ⟨t2, rfl⟩ := ry
  have lz : z.length = z.cps.size := rfl
  have bnd : z.length * k.toNat ≤ 1000000 := by
    have a1 : z.length * k.toNat ≤ 1000 * 1000 := Nat.mul_le_mul hz (by omega)
    omega
  have e : ((List.replicate k.toNat z.cps).foldl (· ++ ·) #[]) = (List.replicate k.toNat z.cps.toList).flatten.toArray := by
    rw [fold_rep]; simp
  have ln : (List.replicate k.toNat z.cps.toList).flatten.length = z.length * k.toNat := by
    rw [PyProof.Rows.lm_len_rep_flat, lz, Nat.mul_comm]; rfl
  refine PySem.P.mul_str (by rw [decide_eq_false (by omega), decide_eq_false (by omega)]; rfl) (fun g1 _ => ?_) (fun _ _ => ?_) ?_
  · have hk : (0 : Int) < k := by omega
    have : (z.length : Int) ≤ (2 ^ 63 - 1) / k := by
      rw [Int.le_ediv_iff_mul_le hk]
      have a2 : (z.length : Int) * k = ((z.length * k.toNat : Nat) : Int) := by rw [Int.natCast_mul, Int.toNat_of_nonneg h1]
      rw [a2]; omega
    omega
  · unfold PySem.Builtin.Str.tooLong
    rw [sizeLine_eq]
    exact decide_eq_false (by omega)
  · have fin : ∀ (y : Str) (tk t' : Nat), y = ⟨(List.replicate k.toNat z.cps.toList).flatten.toArray⟩ → EP X pins σ Q (.str y tk) { s with toks := t' } := fun y tk t' e => by
      subst e
      exact ⟨.str _, H, I.tok t', ⟨tk, rfl⟩, q⟩
    by_cases g1 : k < 1
    · rw [if_pos g1]
      have e0 : k.toNat = 0 := by omega
      refine ⟨by decide, fin _ _ _ ?_⟩
      rw [e0]; rfl
    · rw [if_neg g1]
      by_cases g2 : (k == 1 || z.length == 0) = true
      · rw [if_pos g2]
        refine fin z t s.toks ?_
        rcases Bool.or_eq_true_iff.mp g2 with g | g
        · rw [beq_iff_eq.mp g]; simp
        · have : z.cps = #[] := Array.eq_empty_of_size_eq_zero (by rw [← lz]; exact beq_iff_eq.mp g)
          obtain ⟨c⟩ := z
          simp only at this
          subst this
          simp
      · rw [if_neg g2, e]
        refine ⟨?_, fin _ _ _ rfl⟩
        show (List.replicate k.toNat z.cps.toList).flatten.toArray.size ≤ _
        rw [List.size_toArray, ln, sizeLine_eq]
        omega

/-! ### the operators -/
def oMulT : Op2 := fun x y h => match x, y with
  | .d (.tup xs), .d (.int k) => if decide (-1000 ≤ k) && (decide (k ≤ 1000) && Nat.ble xs.length 1000) then some (.d (.tup (List.replicate k.toNat xs).flatten), h) else none
  | .d (.str z), .d (.int k) => if decide (0 ≤ k) && (decide (k ≤ 1000) && Nat.ble z.length 1000) then some (.d (.str ⟨(List.replicate k.toNat z.cps.toList).flatten.toArray⟩), h) else none
  | _, _ => none
section
variable {X : Cx} {ct : CT} {W : WX}
theorem rep_drs {K : PySem.W.Frag} {S : Addr → Prop} {H : Hp} {xs : List D} {vs : List V} (r : DRs K ct S H xs vs) : ∀ n : Nat, DRs K ct S H (List.replicate n xs).flatten (List.replicate n vs).flatten
  | 0 => .nil
  | n + 1 => by
    rw [List.replicate_succ, List.replicate_succ, List.flatten_cons, List.flatten_cons]
    exact r.append (rep_drs r n)
theorem mulT_sound : OpR X (binaryOp .Mult) (rOp X.K ct oMulT) := by
  refine OpR.imp (op_repM.or op_repS) fun x y H Q ⟨m, ah, a, b, hr, ra, rb, p⟩ => ?_
  unfold oMulT at p
  split at p
  · rename_i xs k
    cases rb
    split at p
    · rename_i hc
      simp only [Bool.and_eq_true, decide_eq_true_eq] at hc
      obtain ⟨l, vs, rfl, h1, r1⟩ := tup_of ra
      refine .inl ⟨l, k, vs, rfl, rfl, h1, hc.1, hc.2.1, by rw [← r1.length]; exact Nat.le_of_ble_eq_true hc.2.2, fun hs => ?_, fun _ _ => p.new hr fun a ha kp s => new_tup (rep_drs r1 _) kp s⟩
      refine p.same hr ?_
      rcases hs with rfl | rfl
      · cases r1
        have : (List.replicate k.toNat ([] : List D)).flatten = [] := by simp
        rw [this]; exact ra
      · have : (List.replicate (Int.toNat 1) xs).flatten = xs := by simp
        rw [this]; exact ra
    · exact p.elim
  · cases ra; cases rb
    split at p
    · rename_i hc
      simp only [Bool.and_eq_true, decide_eq_true_eq] at hc
      exact .inr ⟨_, _, rfl, rfl, hc.1, hc.2.1, Nat.le_of_ble_eq_true hc.2.2, p.same hr (.str _)⟩
    · exact p.elim
  · exact p.elim
/-- texts by their order -/
def oS (g : List Nat → List Nat → Bool) : Op2 := fun x y h => match x, y with
  | .d (.str a), .d (.str b) => some (.d (.bl (g a.cps.toList b.cps.toList)), h)
  | _, _ => none
theorem oS_sound {op : CmpOp} {g : List Nat → List Nat → Bool} (ho : OpR X (compareOp op) (fun x y H Q => ∃ i j, x = .str i ∧ y = .str j ∧ Q (.bl (g i.cps.toList j.cps.toList)) H)) : OpR X (compareOp op) (rOp X.K ct (oS g)) :=
  OpR.imp ho fun x y H Q ⟨m, ah, a, b, hr, ra, rb, p⟩ => by
    unfold oS at p
    split at p
    · cases ra; cases rb; exact ⟨_, _, rfl, rfl, p.same hr (.bl _)⟩
    · exact p.elim
def oLeS : Op2 := oS fun i j => !decide (j < i)
def oGtS : Op2 := oS fun i j => decide (j < i)
def oGeS : Op2 := oS fun i j => !decide (i < j)
theorem leS_sound : OpR X (compareOp .LtE) (rOp X.K ct oLeS) := oS_sound op_le_str
theorem gtS_sound : OpR X (compareOp .Gt) (rOp X.K ct oGtS) := oS_sound op_gt_str
theorem geS_sound : OpR X (compareOp .GtE) (rOp X.K ct oGeS) := oS_sound op_ge_str
/-- one sign in a text -/
def oInC (neg : Bool) : Op2 := fun x y h => match x, y with
  | .d (.str a), .d (.str z) => (match a.cps.toList with
    | [c] => some (.d (.bl (if neg then !decide (c ∈ z.cps.toList) else decide (c ∈ z.cps.toList))), h)
    | _ => none)
  | _, _ => none
theorem str_one {a : Str} {c : Nat} (h : a.cps.toList = [c]) : a = ⟨#[c]⟩ := by
  obtain ⟨⟨l⟩⟩ := a
  simp only at h
  subst h; rfl
theorem inC_sound : OpR X (compareOp .In) (rOp X.K ct (oInC false)) := OpR.imp op_in_sign fun x y H Q ⟨m, ah, a, b, hr, ra, rb, p⟩ => by
  unfold oInC at p
  split at p
  · split at p
    · rename_i e
      cases ra; cases rb; exact ⟨_, _, congrArg V.str (str_one e), rfl, p.same hr (.bl _)⟩
    · exact p.elim
  · exact p.elim
theorem notInC_sound : OpR X (compareOp .NotIn) (rOp X.K ct (oInC true)) := OpR.imp op_notIn_sign fun x y H Q ⟨m, ah, a, b, hr, ra, rb, p⟩ => by
  unfold oInC at p
  split at p
  · split at p
    · rename_i e
      cases ra; cases rb; exact ⟨_, _, congrArg V.str (str_one e), rfl, p.same hr (.bl _)⟩
    · exact p.elim
  · exact p.elim
/-- flat things of one kind -/
def scF : D → D → Bool
  | .non, .non => true | .bl _, .bl _ => true | .int _, .int _ => true | .str _, .str _ => true
  | .non, .str _ => true | .str _, .non => true | .non, .int _ => true | .int _, .non => true | .non, .bl _ => true | .bl _, .non => true
  | .int _, .str _ => true | .str _, .int _ => true | .bl _, .str _ => true | .str _, .bl _ => true
  | _, _ => false
def oEqF (ne : Bool) : Op2 := fun x y h => match x, y with
  | .d a, .d b => if scF a b = true then some (.d (.bl (if ne then !eqF a b else eqF a b)), h) else none
  | _, _ => none
theorem scF_of {K : PySem.W.Frag} {S : Addr → Prop} {H : Hp} {a b : D} {x y : V} (h : scF a b = true) (ra : DR K ct S H a x) (rb : DR K ct S H b y) : scal x y = true ∧ decide (x = y) = eqF a b := by
  cases ra <;> cases rb <;> first | (cases h; done) | (refine ⟨rfl, ?_⟩; simp [eqF, Bool.beq_eq_decide_eq])
theorem eqF_sound : OpR X (compareOp .Eq) (rOp X.K ct (oEqF false)) := OpR.imp op_eq fun x y H Q ⟨m, ah, a, b, hr, ra, rb, p⟩ => by
  unfold oEqF at p
  split at p
  · split at p
    · rename_i hs
      obtain ⟨h1, h2⟩ := scF_of hs ra rb
      refine ⟨h1, ?_⟩
      rw [h2]
      exact p.same hr (.bl _)
    · exact p.elim
  · exact p.elim
theorem neF_sound : OpR X (compareOp .NotEq) (rOp X.K ct (oEqF true)) := OpR.imp op_ne fun x y H Q ⟨m, ah, a, b, hr, ra, rb, p⟩ => by
  unfold oEqF at p
  split at p
  · split at p
    · rename_i hs
      obtain ⟨h1, h2⟩ := scF_of hs ra rb
      refine ⟨h1, ?_⟩
      rw [h2]
      exact p.same hr (.bl _)
    · exact p.elim
  · exact p.elim
/-! ### all, any of a list of truths -/
def bls : List D → Option (List Bool)
  | [] => some []
  | .bl b :: xs => (bls xs).map (b :: ·)
  | _ :: _ => none
theorem bls_of {K : PySem.W.Frag} {S : Addr → Prop} {H : Hp} : ∀ {xs : List D} {vs : List V} {bs : List Bool}, DRs K ct S H xs vs → bls xs = some bs → vs = bs.map V.bl
  | _, _, _, .nil, h => by cases h; rfl
  | _, _, _, .cons (d := d) r t, h => by
    cases r <;> first | (cases h; done) | skip
    rename_i b
    unfold bls at h
    cases q : bls _ with
    | none => rw [q] at h; cases h
    | some l =>
      rw [q] at h
      cases h
      rw [bls_of t q]; rfl
def nBs (g : List Bool → Bool) : OpN := fun xs h => match xs with
  | [x] => (match lstOf x h with
    | some ys => (bls ys).map fun bs => (.d (.bl (g bs)), h)
    | none => none)
  | _ => none
theorem nBs_sound {id : String} {g : List Bool → Bool} (hc : CallR X (.builtin id) (fun vs H Q => ∃ (a : Addr) (bs : List Bool), vs = [V.ref a] ∧ SqL X.K H a (bs.map V.bl) ∧ Q (.bl (g bs)) H)) : CallR X (.builtin id) (rN X.K ct (nBs g)) := by
  refine CallR.imp hc fun vs H Q ⟨m, ah, xs, hr, rs, p⟩ => ?_
  unfold nBs at p
  split at p
  · cases rs with
    | cons r t =>
      cases t
      split at p
      · rename_i ys e
        obtain ⟨a, ws, rfl, h1, r1⟩ := lst_of hr e r
        cases q : bls ys with
        | none => rw [q] at p; exact p.elim
        | some bs =>
          rw [q] at p
          have ew := bls_of r1 q
          subst ew
          exact ⟨a, bs, rfl, .of h1, p.same hr (.bl _)⟩
      · exact p.elim
  · exact p.elim
def nAll : OpN := nBs fun bs => bs.all id
def nAny : OpN := nBs fun bs => bs.any id
theorem all_sound (hc : X.calm = true) : CallR X (.builtin "all") (rN X.K ct nAll) := nBs_sound (cr_all hc)
theorem any_sound (hc : X.calm = true) : CallR X (.builtin "any") (rN X.K ct nAny) := nBs_sound (cr_any hc)
/-! ### try that runs through -/
end
section
variable {X : Cx} {ct : CT} {W : WX} {pos : Pos} {body : List Stmt} {h0 : ExceptHandler} {hs : List ExceptHandler} {u : SemS}
/-- no exception leaves -/
def sThru (f : SemS) : SemS := fun σ h => match f σ h with
  | .exc _ _ _ => .bad
  | r => r
theorem ss_thru (hb : SSs X.nox ct W0 body u) : SS X ct W (.Try body (h0 :: hs) [] [] pos) (sThru u) := PS.imp (ps_try_thru0 hb) fun D σV H ⟨m, ah, σ, hr, lr, p⟩ => by
  refine ⟨m, ah, σ, hr, lr, ?_⟩
  unfold sThru at p
  cases e : u σ ah with
  | ok f σ' h' => rw [e] at p; exact p
  | exc x σ' h' => rw [e] at p; exact p.elim
  | bad => rw [e] at p; exact p.elim
end
end Mi

/-! Mi17: facts of many classes at once -/
namespace Mi
open PySem PySem.Spec L2
/-- own classes told apart by isinstance, built-in ones denied -/
def isiT (ok : List Nat) (bt : List String) (C : Nat) : List (Ty × Bool) := ok.map (fun E => (Ty.c E, E == C)) ++ bt.map fun s => (Ty.b s, false)
theorem IsiOk.mapC {K : PySem.W.Frag} {ct : CT} {u : Value} {g : Nat → Bool} {l : List (Ty × Bool)} (h : IsiOk K ct u l) : ∀ {ok : List Nat}, (∀ E ∈ ok, PySem.W.kitOne K (.ref (ct.ca E)) u = some (g E) ∧ IsiC K (ct.ca E)) → IsiOk K ct u (ok.map (fun E => (Ty.c E, g E)) ++ l)
  | [], _ => h
  | E :: ok, q => .consC (q E List.mem_cons_self).1 (q E List.mem_cons_self).2 (IsiOk.mapC h fun E' hE => q E' (List.mem_cons_of_mem _ hE))
theorem IsiOk.mapB {K : PySem.W.Frag} {ct : CT} {u : Value} : ∀ {bt : List String}, (∀ s ∈ bt, PySem.W.kitOne K (.type s) u = some false) → IsiOk K ct u (bt.map fun s => (Ty.b s, false))
  | [], _ => .nil
  | E :: ok, q => .consB (q E List.mem_cons_self) (IsiOk.mapB fun E' hE => q E' (List.mem_cons_of_mem _ hE))
theorem isiT_ok {K : PySem.W.Frag} {ct : CT} {cn : List Str} {ok : List Nat} {bt : List String} {cs : List Nat} {C : Nat} (hca : ∀ C, ct.ca C = cga K cn C) (hc : ∀ E ∈ ok, Cls K (ct.ca E)) (h1 : isiAllB K cn ok = true) (h2 : kitAllB K cn ok bt cs = true) (hC : C ∈ cs) : IsiOk K ct (.ref (ct.ca C)) (isiT ok bt C) := by
  have k := List.all_eq_true.mp h2 C hC
  have k1 := Bool.and_eq_true_iff.mp k
  rw [hca]
  refine IsiOk.mapC (.mapB fun s hs => kitA_ok (List.all_eq_true.mp k1.2 s hs)) fun E hE => ?_
  have h3 := List.all_eq_true.mp h1 E hE
  rw [← hca] at h3
  refine ⟨?_, isiB_ok (hc E hE) h3⟩
  rw [hca]
  exact kitA_ok (List.all_eq_true.mp k1.1 E hE)
/-- one class with an own __eq__ -/
structure EqC (X : Cx) (ct : CT) (fns : List Fn) (C i : Nat) : Prop where
  ex : ∃ F, fns[i]? = some F ∧ Meth X.K (ct.ca C) "__eq__" F.f ∧ FnI X.K F
theorem EqC.mk' {X : Cx} {ct : CT} {fns : List Fn} {C i : Nat} {F : Fn} (h : fns[i]? = some F) (m : Meth X.K (ct.ca C) "__eq__" F.f) (f : FnI X.K F) : EqC X ct fns C i := ⟨⟨F, h, m, f⟩⟩
inductive EqCs (X : Cx) (ct : CT) (fns : List Fn) : List (Nat × Nat) → Prop
  | nil : EqCs X ct fns []
  | cons {C i l} : EqC X ct fns C i → EqCs X ct fns l → EqCs X ct fns ((C, i) :: l)
theorem EqCs.at_ {X : Cx} {ct : CT} {fns : List Fn} {C i : Nat} : ∀ {l : List (Nat × Nat)}, EqCs X ct fns l → l.lookup C = some i → EqC X ct fns C i ∧ C ∈ l.map (·.1)
  | _, .nil, h => by cases h
  | _, .cons (C := C') (i := i') h t, e => by
    by_cases q : C = C'
    · subst q
      simp only [List.lookup, beq_self_eq_true] at e
      cases e
      exact ⟨h, List.mem_cons_self⟩
    · have b : (C == C') = false := beq_eq_false_iff_ne.mpr q
      simp only [List.lookup, b] at e
      exact ⟨(t.at_ e).1, List.mem_cons_of_mem _ (t.at_ e).2⟩
theorem EqCs.tab {X : Cx} {ct : CT} {fns : List Fn} {cn : List Str} {T : List (Nat × Nat)} (h : EqCs X ct fns T) (hca : ∀ C, ct.ca C = cga X.K cn C) (hn : nfAllB X.K cn (T.map (·.1)) = true) : EqT X ct fns T where
  own C i e := by
    obtain ⟨F, h1, h2, h3⟩ := (h.at_ e).1.ex
    exact ⟨F, h1, h2.at_, h2.fn, h3.bi⟩
  two C i C' i' e e' := by
    rw [hca, hca]
    exact List.all_eq_true.mp (List.all_eq_true.mp hn C (h.at_ e).2) C' (h.at_ e').2
/-- a number, a text of the module -/
theorem se_gI {X : Cx} {ct : CT} {W : WX} {pos : Pos} {x : Str} {i : Int} (hg : Gl X x) (hm : ∃ t, X.mg x = some (.int i t)) (hd : (x == ("__debug__" : Str)) = false := by decide) : SE X ct W (.Name x pos) (eK (.int i)) :=
  let ⟨_, h⟩ := hm; se_globI hg h hd
theorem se_gS {X : Cx} {ct : CT} {W : WX} {pos : Pos} {x : Str} {i : Str} (hg : Gl X x) (hm : ∃ t, X.mg x = some (.str i t)) (hd : (x == ("__debug__" : Str)) = false := by decide) : SE X ct W (.Name x pos) (eK (.str i)) :=
  let ⟨_, h⟩ := hm; se_globS hg h hd
end Mi

/-! Mi18: the head's own hook for many classes: each object is met once -/
namespace Mi
open PySem PySem.Spec L2
end Mi

/-! Mi19: drawn numbers, for any law; the further operators at work -/
namespace Mi
open PySem PySem.Spec
section
variable {h : Hs}
@[simp] theorem o_eqF_int (ne : Bool) (i j : Int) : oEqF ne (.d (.int i)) (.d (.int j)) h = some (.d (.bl (if ne then !(i == j) else i == j)), h) := rfl
@[simp] theorem o_eqF_str (ne : Bool) (i j : Str) : oEqF ne (.d (.str i)) (.d (.str j)) h = some (.d (.bl (if ne then !(i == j) else i == j)), h) := rfl
@[simp] theorem o_eqF_bl (ne : Bool) (i j : Bool) : oEqF ne (.d (.bl i)) (.d (.bl j)) h = some (.d (.bl (if ne then !(i == j) else i == j)), h) := rfl
@[simp] theorem ap_thru {σ : Lo} (f : SemS) : sThru f σ h = match f σ h with
  | .exc _ _ _ => .bad
  | r => r := rfl
end
/-- == of two data -/
def eqD2 (T : List (Nat × Nat)) (call : CallT) (x y : D) : Option Bool := match eqTop T call x y with
  | some r => some r
  | none => insE T call x y
theorem o_eqO {T : List (Nat × Nat)} {call : CallT} {x y : D} {b : Bool} (h : Hs) (e : eqD2 T call x y = some b) : oEqO false T call (.d x) (.d y) h = some (.d (.bl b), h) := by
  unfold eqD2 at e
  unfold oEqO
  dsimp only [viewD]
  cases q : eqTop T call x y with
  | some r => rw [q] at e; cases e; rfl
  | none => rw [q] at e; dsimp only at e ⊢; rw [e]; rfl
theorem o_neO {T : List (Nat × Nat)} {call : CallT} {x y : Vl} {d e : D} {b : Bool} (h : Hs) (hx : viewD x h = some d) (hy : viewD y h = some e) (q : eqTop T call d e = some b) : oEqO true T call x y h = some (.d (.bl (!b)), h) := by
  unfold oEqO
  rw [hx, hy]
  dsimp only
  rw [q]; rfl
def takeB (call : CallT) : SemS := (sSq (sIf (tBl (eBin (oEqF false) (eBin oIx (eVar 0) (eK (.int 2))) (eK (.int 0))))
      (sSq (sAs (eK (.int 0)) (gNm 2))
      (sSq (sIf (tBl (eBin oLt (eBin oIx (eVar 0) (eK (.int 1))) (eN nLen (aCons (eBin oIx (eVar 0) (eK (.int 0))) aNil))))
      (sAs (eBin oIx (eBin oIx (eVar 0) (eK (.int 0))) (eBin oIx (eVar 0) (eK (.int 1)))) (gNm 2))
      sNil)
      (sSq (sAs (eBin oAdd (eBin oIx (eVar 0) (eK (.int 1))) (eK (.int 1))) (gSt (eVar 0) (eK (.int 1))))
      (sIf (tBl (eBin oGe (eVar 2) (eBin oPow (eK (.int 10)) (eK (.int 18)))))
      (sAs (eVar 2) (gSt (eVar 0) (eK (.int 2))))
      (sSq (sAs (eBin oMod (eN nInt (aCons (eBin oAdd (eBin oAdd (eBin oAdd (eBin oMulI (eBin oIx (eVar 0) (eK (.int 3))) (eK (.int 69621))) (eBin oMulI (eBin oMod (eN nInt (aCons (eVar 2) aNil)) (eK (.int 2147483629))) (eK (.int 48271)))) (eBin oMulI (eBin oIx (eVar 0) (eK (.int 1))) (eK (.int 7919)))) (eK (.int 1))) aNil)) (eK (.int 2147483647))) (gNm 3))
      (sSq (sAs (eBin oMod (eN nInt (aCons (eBin oAdd (eBin oAdd (eBin oMulI (eVar 3) (eVar 3)) (eBin oMulI (eBin oIx (eVar 0) (eK (.int 1))) (eK (.int 104729)))) (eK (.int 13))) aNil)) (eK (.int 2147483629))) (gNm 3))
      (sSq (sAs (eVar 3) (gSt (eVar 0) (eK (.int 3))))
      (sRt (eBin oMod (eBin oDiv (eVar 3) (eK (.int 7))) (eVar 1))))))))))
      sNil)
      (sSq (sAs (eBin oMod (eN nInt (aCons (eBin oIx (eVar 0) (eK (.int 2))) aNil)) (eVar 1)) (gNm 4))
      (sSq (sAs (eBin oDiv (eBin oIx (eVar 0) (eK (.int 2))) (eVar 1)) (gSt (eVar 0) (eK (.int 2))))
      (sRt (eVar 4)))))
theorem atI_nat {α : Type} (xs : List α) (k : Nat) : L2.atI xs (k : Int) = xs[k]? := by
  unfold L2.atI L2.ixN
  by_cases h : k < xs.length
  · rw [if_pos (by omega), if_pos (by omega)]; simp
  · rw [if_pos (by omega), if_neg (by omega), List.getElem?_eq_none (by omega)]; rfl
theorem atI_back {α : Type} (xs : List α) (k : Nat) (h : k < xs.length) : L2.atI xs ((xs.length : Int) - 1 - (k : Int)) = xs.reverse[k]? := by
  rw [show (xs.length : Int) - 1 - (k : Int) = ((xs.length - 1 - k : Nat) : Int) by omega, atI_nat, List.getElem?_reverse h]
theorem cut_from {α : Type} (xs : List α) (k : Nat) : cutL xs (some (k : Int)) none = xs.drop k := by
  unfold cutL
  rw [HT.sIx_nat, HT.sIx_none]
  by_cases h : k ≤ xs.length
  · rw [Nat.min_eq_left h, List.take_of_length_le (by simp)]
  · rw [Nat.min_eq_right (by omega), List.drop_length, List.drop_eq_nil_of_le (by omega)]; simp
theorem cut_to {α : Type} (xs : List α) (k : Nat) : cutL xs none (some (k : Int)) = xs.take k := by
  unfold cutL
  rw [HT.sIx_nat, HT.sIx_none, List.drop_zero, Nat.sub_zero]
  by_cases h : k ≤ xs.length
  · rw [Nat.min_eq_left h]
  · rw [Nat.min_eq_right (by omega), List.take_length, List.take_of_length_le (by omega)]
/-! ### what both strippings do -/
def sF : List Int → List Int → List Int × List Int
  | x :: xs, y :: ys => if x = y then sF xs ys else (x :: xs, y :: ys)
  | xs, ys => (xs, ys)
def sB (l r : List Int) : List Int × List Int := ((sF (sF l r).1.reverse (sF l r).2.reverse).1.reverse, (sF (sF l r).1.reverse (sF l r).2.reverse).2.reverse)
theorem sF_nil_l (r : List Int) : sF [] r = ([], r) := by cases r <;> rfl
theorem sF_nil_r (l : List Int) : sF l [] = (l, []) := by cases l <;> rfl
theorem drop_cons {α : Type} {xs : List α} {k : Nat} {x : α} (e : xs[k]? = some x) : xs.drop k = x :: xs.drop (k + 1) := by
  obtain ⟨h, rfl⟩ := List.getElem?_eq_some_iff.mp e
  exact List.drop_eq_getElem_cons h
theorem map_get (l : List Int) (k : Nat) : (l.map D.int)[k]? = (l[k]?).map D.int := List.getElem?_map
theorem minI (a b : Nat) : (if (b : Int) < (a : Int) then (b : Int) else (a : Int)) = ((min a b : Nat) : Int) := by
  by_cases h : b < a
  · rw [if_pos (by omega), Nat.min_eq_right (by omega)]
  · rw [if_neg (by omega), Nat.min_eq_left (by omega)]
/-! ### drawn numbers -/
/-- the law's source of numbers, drawn from k times at most -/
def Src (k : Nat) (o : O) : Prop := ∃ (sc : List Int) (a : Nat) (b : Int) (c : Nat), o = .lst [.lv (sc.map D.int), .int (a : Int), .int b, .int (c : Int)] ∧ a ≤ k ∧ c < 2147483647
theorem Src.up {k m : Nat} {o : O} (h : Src k o) (hk : k ≤ m) : Src m o := by
  obtain ⟨sc, a, b, c, e, h1, h2⟩ := h
  exact ⟨sc, a, b, c, e, Nat.le_trans h1 hk, h2⟩
theorem cm {i j : Int} (h1 : i.natAbs < 2 ^ 200) (h2 : j.natAbs < 2 ^ 200) : cMulW i j = true := by
  unfold cMulW
  apply decide_eq_true
  have a : i.natAbs.log2 < 200 := by
    by_cases z : i.natAbs = 0
    · rw [z]; decide
    · exact (Nat.log2_lt z).mpr h1
  have b : j.natAbs.log2 < 200 := by
    by_cases z : j.natAbs = 0
    · rw [z]; decide
    · exact (Nat.log2_lt z).mpr h2
  omega
theorem cd {i j : Int} (h1 : 0 < j) (h2 : j.natAbs < 2 ^ 200) : cDivW i j = true := by
  unfold cDivW
  rw [Bool.and_eq_true, decide_eq_true_eq, decide_eq_true_eq]
  refine ⟨h1, ?_⟩
  have : j.natAbs.log2 < 200 := (Nat.log2_lt (by omega)).mpr h2
  omega
@[simp] theorem at0 {o : O} {t : Hs} : (o :: t)[0]? = some o := rfl
theorem e_take {defs : List MDef} {ix : Nat} (hd : defs[ix]? = some ⟨2, 5, false, takeB⟩) (n k : Nat) (hk : k < 1000000) {src : O} (hs : Src k src) (M : Nat) (hM : 0 < M) (hM2 : M < 2 ^ 180) (t : Hs) : ∃ v : Nat, v < M ∧ ∃ src', Src (k + 1) src' ∧ callF defs (n + 1) ix [.r 0, .d (.int (M : Int))] (src :: t) = .ok (.d (.int (v : Int))) (src' :: t) := by
  obtain ⟨sc, a, b, c, rfl, ha, hc⟩ := hs
  rw [callF_at (md := ⟨2, 5, false, takeB⟩) hd rfl]
  have dsh : ∀ (σ : Lo) (h : Hs), (⟨2, 5, false, takeB⟩ : MDef).body (callF defs n) σ h = takeB (callF defs n) σ h := fun _ _ => rfl
  have x0 : ∀ w x y z : D, L2.atI [w, x, y, z] 0 = some w := fun _ _ _ _ => rfl
  have x1 : ∀ w x y z : D, L2.atI [w, x, y, z] 1 = some x := fun _ _ _ _ => rfl
  have x2 : ∀ w x y z : D, L2.atI [w, x, y, z] 2 = some y := fun _ _ _ _ => rfl
  have x3 : ∀ w x y z : D, L2.atI [w, x, y, z] 3 = some z := fun _ _ _ _ => rfl
  have i1 : L2.ixN 4 1 = some 1 := rfl
  have i2 : L2.ixN 4 2 = some 2 := rfl
  have i3 : L2.ixN 4 3 = some 3 := rfl
  have rI : ∀ (xs : List D) (t : Hs) (i : Int), oIx (.r 0) (.d (.int i)) (.lst xs :: t) = (L2.atI xs i).map fun d => (.d d, .lst xs :: t) := fun xs t i => o_ixR rfl i
  have hMI : (0 : Int) < (M : Int) := by omega
  have dM : ∀ i : Int, cDivW i (M : Int) = true := fun i => cd hMI (by omega)
  have md : ∀ i : Int, ∃ v : Nat, v < M ∧ i % (M : Int) = (v : Int) := fun i => ⟨(i % (M : Int)).toNat, by
    have h1 := Int.emod_nonneg i (show (M : Int) ≠ 0 by omega)
    have h2 := Int.emod_lt_of_pos i hMI
    omega, by
    have h1 := Int.emod_nonneg i (show (M : Int) ≠ 0 by omega)
    omega⟩
  have pw : ∀ h : Hs, oPow (.d (.int 10)) (.d (.int 18)) h = some (.d (.int 1000000000000000000), h) := fun h => by
    rw [o_pow, show cPow 10 18 = true by decide +kernel]; rfl
  have d7 : ∀ i : Int, cDivW i 7 = true := fun i => cd (by omega) (by decide)
  by_cases hb : b = 0
  · subst hb
    have mix : ∀ cell : Int, ∃ c1 : Nat, c1 < 2147483647 ∧ ((c : Int) * 69621 + cell % 2147483629 * 48271 + ((a : Int) + 1) * 7919 + 1) % 2147483647 = (c1 : Int) := fun cell => by
      have h1 := Int.emod_nonneg ((c : Int) * 69621 + cell % 2147483629 * 48271 + ((a : Int) + 1) * 7919 + 1) (show (2147483647 : Int) ≠ 0 by omega)
      have h2 := Int.emod_lt_of_pos ((c : Int) * 69621 + cell % 2147483629 * 48271 + ((a : Int) + 1) * 7919 + 1) (show (0 : Int) < 2147483647 by omega)
      generalize ((c : Int) * 69621 + cell % 2147483629 * 48271 + ((a : Int) + 1) * 7919 + 1) % 2147483647 = z at *
      exact ⟨z.toNat, by omega, by omega⟩
    have mix2 : ∀ c1 : Nat, ∃ c2 : Nat, c2 < 2147483647 ∧ ((c1 : Int) * (c1 : Int) + ((a : Int) + 1) * 104729 + 13) % 2147483629 = (c2 : Int) := fun c1 => by
      have h1 := Int.emod_nonneg ((c1 : Int) * (c1 : Int) + ((a : Int) + 1) * 104729 + 13) (show (2147483629 : Int) ≠ 0 by omega)
      have h2 := Int.emod_lt_of_pos ((c1 : Int) * (c1 : Int) + ((a : Int) + 1) * 104729 + 13) (show (0 : Int) < 2147483629 by omega)
      generalize ((c1 : Int) * (c1 : Int) + ((a : Int) + 1) * 104729 + 13) % 2147483629 = z at *
      exact ⟨z.toNat, by omega, by omega⟩
    have q1 : cMulW (c : Int) 69621 = true := cm (by omega) (by decide)
    have q2 : ∀ cell : Int, cMulW (cell % 2147483629) 48271 = true := fun cell => by
      have h1 := Int.emod_nonneg cell (show (2147483629 : Int) ≠ 0 by omega)
      have h2 := Int.emod_lt_of_pos cell (show (0 : Int) < 2147483629 by omega)
      generalize cell % 2147483629 = z at *
      exact cm (by omega) (by decide)
    have q3 : cMulW ((a : Int) + 1) 7919 = true := cm (by omega) (by decide)
    have q4 : cMulW ((a : Int) + 1) 104729 = true := cm (by omega) (by decide)
    have q5 : ∀ c1 : Nat, c1 < 2147483647 → cMulW (c1 : Int) (c1 : Int) = true := fun c1 h => cm (by omega) (by omega)
    by_cases hlt : a < sc.length
    · have hlt' : (a : Int) < (sc.length : Int) := by omega
      have g : L2.atI (sc.map D.int) (a : Int) = some (.int sc[a]) := by rw [atI_nat, map_get, List.getElem?_eq_getElem hlt]; rfl
      generalize sc[a] = cell at *
      by_cases hbig : 1000000000000000000 ≤ cell
      · obtain ⟨v, hv, ev⟩ := md cell
        refine ⟨v, hv, .lst [.lv (sc.map D.int), .int ((a + 1 : Nat) : Int), .int (cell / (M : Int)), .int (c : Int)], ⟨sc, a + 1, _, c, rfl, by omega, hc⟩, ?_⟩
        simp [startL, takeB, rI, x0, x1, x2, x3, i1, i2, i3, hlt', g, pw, hbig, hM, dM, ev]
      · obtain ⟨c1, hc1, e1⟩ := mix cell
        obtain ⟨c2, hc2, e2⟩ := mix2 c1
        obtain ⟨v, hv, ev⟩ := md ((c2 : Int) / 7)
        refine ⟨v, hv, .lst [.lv (sc.map D.int), .int ((a + 1 : Nat) : Int), .int 0, .int (c2 : Int)], ⟨sc, a + 1, 0, c2, rfl, by omega, hc2⟩, ?_⟩
        simp [startL, takeB, rI, x0, x1, x2, x3, i1, i2, i3, hlt', g, pw, hbig, hM, dM, d7, q1, q2, q3, q4, q5 c1 hc1, e1, e2, ev]
    · have hlt' : ¬ (a : Int) < (sc.length : Int) := by omega
      obtain ⟨c1, hc1, e1⟩ := mix 0
      obtain ⟨c2, hc2, e2⟩ := mix2 c1
      obtain ⟨v, hv, ev⟩ := md ((c2 : Int) / 7)
      refine ⟨v, hv, .lst [.lv (sc.map D.int), .int ((a + 1 : Nat) : Int), .int 0, .int (c2 : Int)], ⟨sc, a + 1, 0, c2, rfl, by omega, hc2⟩, ?_⟩
      have q20 := q2 0
      simp at e1 q20
      simp [startL, takeB, rI, x0, x1, x2, x3, i1, i2, i3, hlt', pw, hM, dM, d7, q1, q20, q3, q4, q5 c1 hc1, e1, e2, ev]
  · obtain ⟨v, hv, ev⟩ := md b
    refine ⟨v, hv, .lst [.lv (sc.map D.int), .int (a : Int), .int (b / (M : Int)), .int (c : Int)], ⟨sc, a, _, c, rfl, by omega, hc⟩, ?_⟩
    simp [startL, takeB, rI, x0, x1, x2, x3, i1, i2, i3, hb, hM, dM, ev]
end Mi
namespace Mi
open PySem PySem.Spec
theorem cmpL_draw {vs : List Nat} {g : SemG} {f : SemE} {σ : Lo} (cost K : Nat) (P : D → Prop) (t : Hs) : ∀ (ds : List D) (k : Nat) (src : O) (acc : List D),
    (∀ d ∈ ds, ∀ k src h', k + cost ≤ K → Src k src → ∃ σ1 y src', (∀ h, g (.d d) (wipeL σ vs) h = some (σ1, h)) ∧ P y ∧ Src (k + cost) src' ∧ f σ1 (src :: h') = .ok (.d y) (src' :: h')) →
    Src k src → k + cost * ds.length ≤ K → acc.length + ds.length < sizeLine →
    ∃ ys src', ys.length = ds.length ∧ (∀ y ∈ ys, P y) ∧ Src (k + cost * ds.length) src' ∧ cmpL vs g tYs f (t.length + 1) ds σ (src :: (t ++ [.lst acc])) = some (src' :: (t ++ [.lst (acc ++ ys)]))
  | [], k, src, acc, _, hs, _, _ => ⟨[], src, rfl, fun y hy => (by cases hy), hs.up (by simp), by simp [cmpL]⟩
  | d :: ds, k, src, acc, step, hs, hK, hz => by
    rw [List.length_cons, Nat.mul_succ] at hK
    rw [List.length_cons] at hz
    obtain ⟨σ1, y, src1, e1, py, s1, e2⟩ := step d List.mem_cons_self k src (t ++ [.lst acc]) (by omega) hs
    obtain ⟨ys, src', h1, h2, h3, h4⟩ := cmpL_draw cost K P t ds (k + cost) src1 (acc ++ [y]) (fun d hd => step d (List.mem_cons_of_mem _ hd)) s1 (by omega) (by rw [List.length_append, List.length_singleton]; omega)
    have ca := cmpAdd_d (h := src1 :: t) (acc := acc) (d := y) (by omega)
    rw [List.length_cons, List.cons_append, List.cons_append] at ca
    refine ⟨y :: ys, src', by rw [List.length_cons, h1, List.length_cons], fun z hz => ?_, h3.up (by rw [List.length_cons, Nat.mul_succ]; omega), ?_⟩
    · rcases List.mem_cons.mp hz with rfl | hz
      · exact py
      · exact h2 z hz
    · rw [cmpL, e1]
      dsimp only
      rw [ap_tys]
      dsimp only
      rw [if_pos rfl, e2]
      dsimp only
      rw [ca]
      dsimp only
      rw [h4, List.append_assoc]
      rfl
theorem ints_of {P : Int → Prop} : ∀ {ys : List D}, (∀ y ∈ ys, ∃ i : Int, y = .int i ∧ P i) → ∃ w : List Int, ys = w.map D.int ∧ (∀ i ∈ w, P i) ∧ w.length = ys.length
  | [], _ => ⟨[], rfl, fun i hi => (by cases hi), rfl⟩
  | y :: ys, h => by
    obtain ⟨i, rfl, pi⟩ := h y List.mem_cons_self
    obtain ⟨w, rfl, pw, lw⟩ := ints_of fun z hz => h z (List.mem_cons_of_mem _ hz)
    refine ⟨i :: w, rfl, fun j hj => ?_, by simp⟩
    rcases List.mem_cons.mp hj with rfl | hj
    · exact pi
    · exact pw j hj
end Mi

/-! Mi20: calls with defaults -/
namespace Mi
open PySem PySem.Spec L2
/-- a def whose last parameters are filled by defaults -/
structure FnD (K : PySem.W.Frag) (ct : CT) (F : Fn) (ds : List D) : Prop where
  kp : PySem.W.keepIn K (.ref F.f) = true
  bi : ∃ (dvs : List V) (dus : List Value), Dfl K ct ds dvs ∧ Vals dvs dus ∧ Binds K F.fd F.ps dus
theorem Dfl.int {K : PySem.W.Frag} {ct : CT} {i : Int} {ds : List D} {dvs : List V} (h : Dfl K ct ds dvs) : Dfl K ct (.int i :: ds) (.int i :: dvs) := fun m ah H => .cons (.int i) (h m ah H)
theorem Dfl.str {K : PySem.W.Frag} {ct : CT} {i : Str} {ds : List D} {dvs : List V} (h : Dfl K ct ds dvs) : Dfl K ct (.str i :: ds) (.str i :: dvs) := fun m ah H => .cons (.str i) (h m ah H)
theorem Dfl.non {K : PySem.W.Frag} {ct : CT} {ds : List D} {dvs : List V} (h : Dfl K ct ds dvs) : Dfl K ct (.non :: ds) (.non :: dvs) := fun m ah H => .cons .non (h m ah H)
section
variable {X : Cx} {ct : CT} {W : WX} {pos p apos : Pos} {e o : Expr} {es : List Expr} {f : SemE} {fs : SemA} {call : CallT} {n i : Nat} {F : Fn} {x : Str} {fns : List Fn} {ds : List D}
theorem sc_callD (c : Cq X ct fns call n) (tk : Takes X W) (fi : FnD X.K ct F ds) (hm : X.mg x = some (.ref F.f)) (hF : fns[i]? = some F) (hg : Gl X x) (ha : SA X ct W (e :: es) fs) (hdb : (x == ("__debug__" : Str)) = false := by decide)
    (he : starEach (e :: es) X.env = (false, eval e X.env) :: starEach es X.env := by rfl) (hpl : (backTo pos (starEach es X.env)).any (·.1) = false := by rfl) : SE X ct W (.Call (.Name x p) (e :: es) [] pos) (eCl call i ds fs) :=
  let ⟨_, _, h1, h2, h3⟩ := fi.bi
  se_call c.co tk (c.ro.mono (Nat.le_succ _)) hF hg hm fi.kp h3 h2 h1 ha hdb he hpl
theorem sc_callD0 (c : Cq X ct fns call n) (tk : Takes X W) (fi : FnD X.K ct F ds) (hm : X.mg x = some (.ref F.f)) (hF : fns[i]? = some F) (hg : Gl X x) (hdb : (x == ("__debug__" : Str)) = false := by decide) : SE X ct W (.Call (.Name x p) [] [] pos) (eCl call i ds aNil) :=
  let ⟨_, _, h1, h2, h3⟩ := fi.bi
  se_call0 c.co tk (c.ro.mono (Nat.le_succ _)) hF hg hm fi.kp h3 h2 h1 hdb
theorem sc_makeD {C : Nat} (c : Cq X ct fns call n) (tk : Takes X W) (fi : FnD X.K ct F ds) (M : Mk X.K (ct.ca C) F.f) (hm : X.mg x = some (.ref (ct.ca C))) (hF : fns[i]? = some F) (hg : Gl X x) (ha : SA X ct W (e :: es) fs) (hdb : (x == ("__debug__" : Str)) = false := by decide)
    (he : starEach (e :: es) X.env = (false, eval e X.env) :: starEach es X.env := by rfl) (hpl : (backTo pos (starEach es X.env)).any (·.1) = false := by rfl) : SE X ct W (.Call (.Name x p) (e :: es) [] pos) (eMk call i C ds fs) :=
  let ⟨_, _, h1, h2, h3⟩ := fi.bi
  se_make c.co tk c.ro hF M hg hm h3 h2 h1 ha hdb he hpl
end
end Mi

/-! Mi21: repr, divmod, dicts with keys that are tuples -/
namespace Mi
open PySem PySem.Spec L2

/-! ### repr -/
def rprOk (d : D) : Bool := shp d && (d.pd.showable && Nat.ble d.pd.shown.length sizeLine)
def nRepr : OpN := fun xs h => match xs with
  | [.d .non] => some (.d (.str "None"), h)
  | [.d (.bl b)] => some (.d (.str (if b then "True" else "False")), h)
  | [.d (.int i)] => if Nat.ble i.natAbs.log2 1900 = true then some (.d (.str (toString i : String)), h) else none
  | [x] => (match viewD x h with
    | some d => if flD d = false ∧ rprOk d = true then some (.d (.str d.pd.shown), h) else none
    | none => none)
  | _ => none
theorem ref_flat {K : PySem.W.Frag} {ct : CT} {m : List Addr} {ah : Hs} {H : Hp} (hr : HR K ct m ah H) {x : Vl} {d : D} {v : V} (e : viewD x ah = some d) (r : VlR K ct m ah H x v) (h : flD d = false) : ∃ a, v = .ref a := ref_of (view_dr e hr r) h
theorem repr_sound {X : Cx} {ct : CT} {k : Nat} (hr : Room (k + 1) X.A) : CallR X (.builtin "repr") (rN X.K ct nRepr) := by
  intro pins s σ H vs us Q I rv ⟨m, ah, xs, h1, rs, p⟩
  unfold nRepr at p
  split at p
  · cases rs with
    | cons r t =>
      cases t; cases r
      obtain ⟨u, rfl, ru⟩ := rv.one
      cases ru
      exact PySem.P.repr_of_none ⟨.str _, H, I.tok _, ⟨_, rfl⟩, p.same h1 (.str _)⟩
  · cases rs with
    | cons r t =>
      cases t; cases r
      obtain ⟨u, rfl, ru⟩ := rv.one
      cases ru
      exact PySem.P.repr_of_bool ⟨.str _, H, I.tok _, ⟨_, rfl⟩, p.same h1 (.str _)⟩
  · split at p
    · rename_i hl
      cases rs with
      | cons r t =>
        cases t; cases r
        obtain ⟨u, rfl, ru⟩ := rv.one
        obtain ⟨tk, rfl⟩ := ru
        exact PySem.P.repr_of_int (by have := Nat.le_of_ble_eq_true hl; omega) ⟨.str _, H, I.tok _, ⟨_, rfl⟩, p.same h1 (.str _)⟩
    · exact p.elim
  · cases rs with
    | cons r t =>
      cases t
      split at p
      · rename_i d e
        split at p
        · rename_i hc
          obtain ⟨hf, hk⟩ := hc
          unfold rprOk at hk
          simp only [Bool.and_eq_true] at hk
          obtain ⟨k1, k2, k3⟩ := hk
          have kl := SeqAt.canLay_of_shaped k1
          obtain ⟨a, rfl⟩ := ref_flat h1 e r hf
          obtain ⟨u, rfl, ru⟩ := rv.one
          cases ru
          obtain ⟨as, rd⟩ := Dp.reads I d.pd (.ref a) (.ref a) (view_dp h1 e r k1) rfl
          have dp := SeqAt.depth_of_shaped k1
          have un := hr.un
          refine repr_of_reads' rd k2 (PyData.noDict_hsm (PyData.hasDict_of_canLay _ kl)) hr.gd (by omega) (fun _ _ q => q) (fun h' u tk hk => ?_) (Nat.le_of_ble_eq_true k3)
          exact ⟨.str _, H, I.kept hk, ⟨_, rfl⟩, p.same h1 (.str _)⟩
        · exact p.elim
      · exact p.elim
  · exact p.elim

/-! ### divmod -/
def nDm : OpN := fun xs h => match xs with
  | [.d (.int i), .d (.int j)] => if decide (0 < j) && Nat.ble j.natAbs 1000000 then some (.d (.tup [.int (i / j), .int (i % j)]), h) else none
  | _ => none
theorem divmod_sound {X : Cx} {ct : CT} : CallR X (.builtin "divmod") (rN X.K ct nDm) := by
  refine CallR.imp call_divmod fun vs H Q ⟨m, ah, xs, hr, rs, p⟩ => ?_
  unfold nDm at p
  split at p
  · cases rs with
    | cons r t =>
      cases t with
      | cons r2 t =>
        cases t; cases r; cases r2
        split at p
        · rename_i hc
          simp only [Bool.and_eq_true, decide_eq_true_eq] at hc
          have := Nat.le_of_ble_eq_true hc.2
          exact ⟨_, _, rfl, ⟨hc.1, by omega⟩, p.new hr fun a ha k s => new_tup (.cons (.int _) (.cons (.int _) .nil)) k s⟩
        · exact p.elim
  · exact p.elim
end Mi

/-! Mi22: dicts with keys of ints and texts, or of tuples of them -/
namespace Mi
open PySem PySem.Spec L2

def keyK : D → Option Key
  | .int i => some (.inl i)
  | .str x => some (.inr x)
  | _ => none
def keysK : List D → Option (List Key)
  | [] => some []
  | d :: ds => (keyK d).bind fun k => (keysK ds).map (k :: ·)
def keyT : D → Option (List Key)
  | .tup ds => keysK ds
  | _ => none
section
variable {κ : Type} [DecidableEq κ]
def valD (kvs : List (κ × D)) (k : κ) : Option D := (kvs.find? fun kv => decide (kv.1 = k)).map (·.2)
def putD (kvs : List (κ × D)) (k : κ) (v : D) : List (κ × D) := if (kvs.any fun kv => decide (kv.1 = k)) = true then kvs.map (fun kv => if kv.1 = k then (kv.1, v) else kv) else kvs ++ [(k, v)]
end
section
variable {K : PySem.W.Frag} {ct : CT} {S : Addr → Prop} {H : Hp}
theorem key_of {d : D} {y : V} {k : Key} (r : DR K ct S H d y) (e : keyK d = some k) : y = kV k := by
  unfold keyK at e
  split at e
  · cases e; cases r; rfl
  · cases e; cases r; rfl
  · cases e
theorem keys_of : ∀ {ds : List D} {vs : List V} {ks : List Key}, DRs K ct S H ds vs → keysK ds = some ks → vs = ks.map kV
  | _, _, _, .nil, e => by cases e; rfl
  | _, _, _, .cons r t, e => by
    unfold keysK at e
    obtain ⟨k, e1, e2⟩ := Option.bind_eq_some_iff.mp e
    obtain ⟨ks, e3, rfl⟩ := Option.map_eq_some_iff.mp e2
    rw [key_of r e1, keys_of t e3]; rfl
theorem val_k {k : Key} : ∀ {kvs : List (Key × D)} {vs : List (Key × V)}, DRk K ct S H kvs vs → (valD kvs k = none → valV vs k = none) ∧ ∀ d, valD kvs k = some d → ∃ v, valV vs k = some v ∧ DR K ct S H d v
  | _, _, .nil => ⟨fun _ => rfl, fun d e => by cases e⟩
  | _, _, .cons (k := j) r t => by
    obtain ⟨i1, i2⟩ := val_k (k := k) t
    unfold valD valV at *
    by_cases q : j = k
    · subst q
      simp only [List.find?_cons, decide_true, Option.map_some]
      exact ⟨fun e => (by cases e), fun d e => by cases e; exact ⟨_, rfl, r⟩⟩
    · simp only [List.find?_cons, decide_eq_false q]
      exact ⟨i1, i2⟩
theorem val_t {k : List Key} : ∀ {kvs : List (List Key × D)} {vs : List (List Key × V)}, DRt K ct S H kvs vs → (valD kvs k = none → valV vs k = none) ∧ ∀ d, valD kvs k = some d → ∃ v, valV vs k = some v ∧ DR K ct S H d v
  | _, _, .nil => ⟨fun _ => rfl, fun d e => by cases e⟩
  | _, _, .cons (k := j) r t => by
    obtain ⟨i1, i2⟩ := val_t (k := k) t
    unfold valD valV at *
    by_cases q : j = k
    · subst q
      simp only [List.find?_cons, decide_true, Option.map_some]
      exact ⟨fun e => (by cases e), fun d e => by cases e; exact ⟨_, rfl, r⟩⟩
    · simp only [List.find?_cons, decide_eq_false q]
      exact ⟨i1, i2⟩
theorem any_k {k : Key} : ∀ {kvs : List (Key × D)} {vs : List (Key × V)}, DRk K ct S H kvs vs → (kvs.any fun kv => decide (kv.1 = k)) = vs.any fun kv => decide (kv.1 = k)
  | _, _, .nil => rfl
  | _, _, .cons r t => by rw [List.any_cons, List.any_cons, any_k t]
theorem any_t {k : List Key} : ∀ {kvs : List (List Key × D)} {vs : List (List Key × V)}, DRt K ct S H kvs vs → (kvs.any fun kv => decide (kv.1 = k)) = vs.any fun kv => decide (kv.1 = k)
  | _, _, .nil => rfl
  | _, _, .cons r t => by rw [List.any_cons, List.any_cons, any_t t]
theorem map_k {k : Key} {d : D} {v : V} (rv : DR K ct S H d v) : ∀ {kvs : List (Key × D)} {vs : List (Key × V)}, DRk K ct S H kvs vs → DRk K ct S H (kvs.map fun kv => if kv.1 = k then (kv.1, d) else kv) (vs.map fun kv => if kv.1 = k then (kv.1, v) else kv)
  | _, _, .nil => .nil
  | _, _, .cons (k := j) r t => by
    rw [List.map_cons, List.map_cons]
    by_cases q : j = k
    · simp only [if_pos q]; exact .cons rv (map_k rv t)
    · simp only [if_neg q]; exact .cons r (map_k rv t)
theorem map_t {k : List Key} {d : D} {v : V} (rv : DR K ct S H d v) : ∀ {kvs : List (List Key × D)} {vs : List (List Key × V)}, DRt K ct S H kvs vs → DRt K ct S H (kvs.map fun kv => if kv.1 = k then (kv.1, d) else kv) (vs.map fun kv => if kv.1 = k then (kv.1, v) else kv)
  | _, _, .nil => .nil
  | _, _, .cons (k := j) r t => by
    rw [List.map_cons, List.map_cons]
    by_cases q : j = k
    · simp only [if_pos q]; exact .cons rv (map_t rv t)
    · simp only [if_neg q]; exact .cons r (map_t rv t)
theorem app_k {k : Key} {d : D} {v : V} (rv : DR K ct S H d v) : ∀ {kvs : List (Key × D)} {vs : List (Key × V)}, DRk K ct S H kvs vs → DRk K ct S H (kvs ++ [(k, d)]) (vs ++ [(k, v)])
  | _, _, .nil => .cons rv .nil
  | _, _, .cons r t => .cons r (app_k rv t)
theorem app_t {k : List Key} {d : D} {v : V} (rv : DR K ct S H d v) : ∀ {kvs : List (List Key × D)} {vs : List (List Key × V)}, DRt K ct S H kvs vs → DRt K ct S H (kvs ++ [(k, d)]) (vs ++ [(k, v)])
  | _, _, .nil => .cons rv .nil
  | _, _, .cons r t => .cons r (app_t rv t)
theorem put_k {k : Key} {d : D} {v : V} (rv : DR K ct S H d v) {kvs : List (Key × D)} {vs : List (Key × V)} (r : DRk K ct S H kvs vs) : DRk K ct S H (putD kvs k d) (putK vs k v) := by
  unfold putD putK
  rw [any_k r]
  split
  · exact map_k rv r
  · exact app_k rv r
theorem put_t {k : List Key} {d : D} {v : V} (rv : DR K ct S H d v) {kvs : List (List Key × D)} {vs : List (List Key × V)} (r : DRt K ct S H kvs vs) : DRt K ct S H (putD kvs k d) (putK vs k v) := by
  unfold putD putK
  rw [any_t r]
  split
  · exact map_t rv r
  · exact app_t rv r
end
/-- the value of a key -/
def dGet (x y : Vl) (h : Hs) : Option (Option D) := match y with
  | .d k => (match x with
    | .d (.dk kvs) => (keyK k).map (valD kvs)
    | .d (.dt kvs) => (keyT k).map (valD kvs)
    | .r i => (match h[i]? with
      | some (.dk kvs) => (keyK k).map (valD kvs)
      | some (.dt kvs) => (keyT k).map (valD kvs)
      | _ => none)
    | _ => none)
  | _ => none
section
variable {K : PySem.W.Frag} {ct : CT} {m : List Addr} {ah : Hs} {H : Hp}
theorem get_k {a : Addr} {kvs : List (Key × D)} {vs : List (Key × V)} {k : D} {w : V} {o : Option D} (hH : H a = some (.dK vs)) (r : DRk K ct (Sf m ah) H kvs vs) (rk : DR K ct (Sf m ah) H k w) (e : (keyK k).map (valD kvs) = some o) :
    ∃ ov, DGet H a w ov ∧ IsD H a ∧ (o = none → ov = none) ∧ ∀ d, o = some d → ∃ u, ov = some u ∧ DR K ct (Sf m ah) H d u := by
  obtain ⟨key, e1, rfl⟩ := Option.map_eq_some_iff.mp e
  have ew := key_of rk e1
  subst ew
  obtain ⟨i1, i2⟩ := val_k (k := key) r
  exact ⟨_, DGet.k hH, .inl ⟨_, .inl hH⟩, i1, i2⟩
theorem get_t {a : Addr} {kvs : List (List Key × D)} {vs : List (List Key × V)} {k : D} {w : V} {o : Option D} (hH : H a = some (.dT vs)) (r : DRt K ct (Sf m ah) H kvs vs) (rk : DR K ct (Sf m ah) H k w) (e : (keyT k).map (valD kvs) = some o) :
    ∃ ov, DGet H a w ov ∧ IsD H a ∧ (o = none → ov = none) ∧ ∀ d, o = some d → ∃ u, ov = some u ∧ DR K ct (Sf m ah) H d u := by
  obtain ⟨key, e1, rfl⟩ := Option.map_eq_some_iff.mp e
  unfold keyT at e1
  split at e1
  · cases rk with
    | tup h1 t =>
      have ew := keys_of t e1
      subst ew
      obtain ⟨i1, i2⟩ := val_t (k := key) r
      exact ⟨_, DGet.t hH h1.1, .inr ⟨_, .inl hH⟩, i1, i2⟩
  · cases e1
theorem dget_of (hr : HR K ct m ah H) {x y : Vl} {v w : V} {o : Option D} (rx : VlR K ct m ah H x v) (ry : VlR K ct m ah H y w) (e : dGet x y ah = some o) :
    ∃ a ov, v = .ref a ∧ DGet H a w ov ∧ IsD H a ∧ (o = none → ov = none) ∧ ∀ d, o = some d → ∃ u, ov = some u ∧ DR K ct (Sf m ah) H d u := by
  unfold dGet at e
  split at e
  · split at e
    · cases rx with
      | dk h1 _ t => exact ⟨_, (get_k h1 t ry e).choose, rfl, (get_k h1 t ry e).choose_spec⟩
    · cases rx with
      | dt h1 _ t => exact ⟨_, (get_t h1 t ry e).choose, rfl, (get_t h1 t ry e).choose_spec⟩
    · rename_i i
      obtain ⟨a, ha, rfl⟩ := rx
      split at e
      · rename_i kvs hk
        obtain ⟨u, h1, h2⟩ := hr.ob i a _ ha hk
        cases h2 with
        | dk t => exact ⟨a, (get_k h1 t ry e).choose, rfl, (get_k h1 t ry e).choose_spec⟩
      · rename_i kvs hk
        obtain ⟨u, h1, h2⟩ := hr.ob i a _ ha hk
        cases h2 with
        | dt t => exact ⟨a, (get_t h1 t ry e).choose, rfl, (get_t h1 t ry e).choose_spec⟩
      · cases e
    · cases e
  · cases e
end
def oDIn (neg : Bool) : Op2 := fun x y h => (dGet y x h).map fun o => (.d (.bl (if neg then !o.isSome else o.isSome)), h)
def oDGet : Op2 := fun x y h => match dGet x y h with
  | some (some d) => some (.d d, h)
  | _ => none
def eDg1 (f g : SemE) : SemE := fun σ h => rb (f σ h) fun x h1 => rb (g σ h1) fun y h2 => match dGet x y h2 with
  | some o => .ok (.d (o.getD .non)) h2
  | none => .bad
def isDct (x : Vl) (h : Hs) : Bool := match x with
  | .d (.dk _) => true
  | .d (.dt _) => true
  | .r i => (match h[i]? with
    | some (.dk _) => true
    | some (.dt _) => true
    | _ => false)
  | _ => false
def eDg2 (f g k : SemE) : SemE := fun σ h => rb (f σ h) fun x h1 => if isDct x h1 = true then rb (g σ h1) fun y h2 => rb (k σ h2) fun z h3 => (match dGet x y h3 with
  | some (some d) => .ok (.d d) h3
  | some none => .ok z h3
  | none => .bad) else .bad
theorem isDct_of {K : PySem.W.Frag} {ct : CT} {m : List Addr} {ah : Hs} {H : Hp} (hr : HR K ct m ah H) {x : Vl} {v : V} (rx : VlR K ct m ah H x v) (e : isDct x ah = true) : ∃ a, v = .ref a ∧ IsD H a := by
  unfold isDct at e
  split at e
  · cases rx with
    | dk h1 _ _ => exact ⟨_, rfl, .inl ⟨_, .inl h1⟩⟩
  · cases rx with
    | dt h1 _ _ => exact ⟨_, rfl, .inr ⟨_, .inl h1⟩⟩
  · rename_i i
    obtain ⟨a, ha, rfl⟩ := rx
    split at e
    · rename_i hk
      obtain ⟨u, h1, h2⟩ := hr.ob i a _ ha hk
      cases h2; exact ⟨a, rfl, .inl ⟨_, .inl h1⟩⟩
    · rename_i hk
      obtain ⟨u, h1, h2⟩ := hr.ob i a _ ha hk
      cases h2; exact ⟨a, rfl, .inr ⟨_, .inl h1⟩⟩
    · cases e
  · cases e
def dPut (x k : Vl) (d : D) (h : Hs) : Option Hs := match x, k with
  | .r i, .d k => (match h[i]? with
    | some (.dk kvs) => (keyK k).bind fun key => if kvs.length < sizeLine then some (h.set i (.dk (putD kvs key d))) else none
    | some (.dt kvs) => (keyT k).bind fun key => if kvs.length < sizeLine then some (h.set i (.dt (putD kvs key d))) else none
    | _ => none)
  | _, _ => none
def sDp (f g v : SemE) : SemS := fun σ h => sb (v σ h) σ fun y h1 => match toD y h1 with
  | none => .bad
  | some (d, h2) => sb (f σ h2) σ fun x h3 => sb (g σ h3) σ fun k h4 => match dPut x k d h4 with
    | some h5 => .ok .nx σ h5
    | none => .bad
theorem DRk.length' {K : PySem.W.Frag} {ct : CT} {S : Addr → Prop} {H : Hp} {d : List (Key × D)} {v : List (Key × V)} (h : DRk K ct S H d v) : d.length = v.length := DRk.length h
section
variable {X : Cx} {ct : CT} {W : WX} {pos pos' apos cpos : Pos} {o i e a b value : Expr} {f g k v : SemE}
theorem din_sound (hu : X.A.units + 65 < cLine) : OpR X (compareOp .In) (rOp X.K ct (oDIn false)) := by
  intro pins s σ H x y u1 u2 Q I q1 q2 ⟨m, ah, a, b, h1, ra, rb, p⟩
  unfold oDIn at p
  cases e : dGet b a ah with
  | none => rw [e] at p; exact p.elim
  | some o =>
    rw [e] at p
    obtain ⟨c, ov, rfl, g1, g2, n1, n2⟩ := dget_of h1 rb ra e
    have es : ov.isSome = o.isSome := by
      cases o with
      | none => rw [n1 rfl]; rfl
      | some d => obtain ⟨u, e2, _⟩ := n2 d rfl; rw [e2]; rfl
    cases q2
    exact d_in (by omega) I g1 q1 fun s' I' => ⟨.bl _, H, I', rfl, by rw [es]; exact p.same h1 (.bl _)⟩
theorem dnotin_sound (hu : X.A.units + 65 < cLine) : OpR X (compareOp .NotIn) (rOp X.K ct (oDIn true)) := by
  intro pins s σ H x y u1 u2 Q I q1 q2 ⟨m, ah, a, b, h1, ra, rb, p⟩
  unfold oDIn at p
  cases e : dGet b a ah with
  | none => rw [e] at p; exact p.elim
  | some o =>
    rw [e] at p
    obtain ⟨c, ov, rfl, g1, g2, n1, n2⟩ := dget_of h1 rb ra e
    have es : ov.isSome = o.isSome := by
      cases o with
      | none => rw [n1 rfl]; rfl
      | some d => obtain ⟨u, e2, _⟩ := n2 d rfl; rw [e2]; rfl
    cases q2
    exact d_notIn (by omega) I g1 q1 fun s' I' => ⟨.bl _, H, I', rfl, by rw [es]; exact p.same h1 (.bl _)⟩
theorem se_dget (hu : X.A.units + 65 < cLine) (ho : SE X ct W o f) (hi : SE X ct W i g) (hs : NoSl i := by exact fun _ _ => rfl) : SE X ct W (.Subscript o i pos) (eBin oDGet f g) :=
  PE.imp (pe_dget (by omega) ho hi hs) fun σV H Q ⟨m, ah, σ, hr, lr, p⟩ => ⟨m, ah, σ, hr, lr, (Po.bind (R := VlR X.K ct) p).imp fun x H1 ⟨m1, h1, x', hr1, e1, r1, p1⟩ =>
    ⟨m1, h1, σ, hr1, lr.ext e1, (Po.bind (R := VlR X.K ct) p1).imp fun y H2 ⟨m2, h2, y', hr2, e2, r2, p2⟩ => by
      have p3 := Pp.of p2
      unfold oDGet at p3
      split at p3
      · rename_i d e
        obtain ⟨c, ov, rfl, g1, _, _, n2⟩ := dget_of hr2 (VlR.ext e2 r1) r2 e
        obtain ⟨u, rfl, ru⟩ := n2 d rfl
        exact ⟨c, u, rfl, g1, p3.same hr2 ru⟩
      · exact p3.elim⟩⟩
theorem se_dg2 (hu : X.A.units + 65 < cLine) (ho : SE X ct W o f) (he : SE X ct W e g) (hk : SE X ct W a k) (mm : M2 X o "get" apos e a cpos) : SE X ct W (.Call (.Attribute o "get" apos) [e, a] [] cpos) (eDg2 f g k) :=
  PE.imp (pe_dget2 (by omega) ho he hk mm) fun σV H Q ⟨m, ah, σ, hr, lr, p⟩ => ⟨m, ah, σ, hr, lr, (Po.bind (R := VlR X.K ct) p).imp fun x H1 ⟨m1, h1, x', hr1, e1, r1, p1⟩ => by
    dsimp only at p1
    split at p1
    · rename_i hd
      obtain ⟨c, rfl, hD⟩ := isDct_of hr1 r1 hd
      refine ⟨c, rfl, hD, m1, h1, σ, hr1, lr.ext e1, (Po.bind (R := VlR X.K ct) p1).imp fun y H2 ⟨m2, h2, y', hr2, e2, r2, p2⟩ => ⟨m2, h2, σ, hr2, (lr.ext e1).ext e2, (Po.bind (R := VlR X.K ct) p2).imp fun z H3 ⟨m3, h3, z', hr3, e3, r3, p3⟩ => ?_⟩⟩
      dsimp only at p3
      split at p3
      · rename_i d e
        obtain ⟨c', ov, ee, g1, _, _, n2⟩ := dget_of hr3 (VlR.ext e3 (VlR.ext e2 r1)) (VlR.ext e3 r2) e
        cases ee
        obtain ⟨u, rfl, ru⟩ := n2 d rfl
        exact ⟨some u, g1, p3 m3 H3 u hr3 (Ext.refl _ _ _) ru⟩
      · rename_i e
        obtain ⟨c', ov, ee, g1, _, n1, _⟩ := dget_of hr3 (VlR.ext e3 (VlR.ext e2 r1)) (VlR.ext e3 r2) e
        cases ee
        have := n1 rfl
        subst this
        exact ⟨none, g1, p3 m3 H3 z hr3 (Ext.refl _ _ _) r3⟩
      · exact p3.elim
    · exact p1.elim⟩
theorem ss_dput (hu : X.A.units + 65 < cLine) (ho : SE X ct W o f) (hi : SE X ct W i g) (hv : SE X ct W value v) (hs : swapsWith value (some (.Subscript o i pos')) pos.line X.env = pure false := by rfl) :
    SS X ct W (.Assign [.Subscript o i pos'] value pos) (sDp f g v) :=
  PS.imp (ps_dput (by omega) ho hi hv hs) fun D σV H ⟨m, ah, σ, hr, lr, p⟩ => ⟨m, ah, σ, hr, lr, (PoS.bind (R := VlR X.K ct) lr p).imp fun y H1 ⟨m1, h1, y', hr1, e1, r1, p1⟩ => by
    dsimp only at p1
    cases q : toD y' h1 with
    | none => rw [q] at p1; exact p1.elim
    | some z =>
      obtain ⟨d, h2⟩ := z
      rw [q] at p1
      dsimp only at p1
      obtain ⟨hr2, e2, r2⟩ := toD_sound hr1 q r1
      have l2 := (lr.ext e1).ext e2
      refine ⟨m1, h2, σ, hr2, l2, (PoS.bind (R := VlR X.K ct) l2 (PoS.ext (r := sb (f σ h2) σ fun x h3 => _) p1 e2)).imp fun x H2 ⟨m3, h3, x', hr3, e3, r3, p3⟩ => ?_⟩
      have l3 := l2.ext e3
      refine ⟨m3, h3, σ, hr3, l3, (PoS.bind (R := VlR X.K ct) l3 p3).imp fun w H4 ⟨m4, h4, w', hr4, e4, r4, p4⟩ => ?_⟩
      dsimp only at p4
      cases q2 : dPut x' w' d h4 with
      | none => rw [q2] at p4; exact p4.elim
      | some h5 =>
        rw [q2] at p4
        dsimp only at p4
        cases x' with
        | d _ => cases q2
        | r j =>
        cases w' with
        | r _ => cases q2
        | d key =>
          unfold dPut at q2
          dsimp only at q2
          obtain ⟨a, ha, rfl⟩ := VlR.ext e4 r3
          have rd := r2.mono (e3.kp.trans e4.kp)
          split at q2
          · rename_i kvs hk
            obtain ⟨u, h1', h2'⟩ := hr4.ob j a _ ha hk
            obtain ⟨kk, k1, k2⟩ := Option.bind_eq_some_iff.mp q2
            split at k2
            · rename_i hl
              cases k2
              cases h2' with
              | dk t =>
                have ew := key_of r4 k1
                subst ew
                obtain ⟨hr6, e6⟩ := hr4.write ha hk (by simp) (OR.dk (put_k (k := kk) rd t))
                exact ⟨a, _, rfl, DPut.k h1' (by rw [← t.length]; exact hl), p4 m4 _ σV hr6 e6 ((l3.ext e4).ext e6)⟩
            · cases k2
          · rename_i kvs hk
            obtain ⟨u, h1', h2'⟩ := hr4.ob j a _ ha hk
            obtain ⟨kk, k1, k2⟩ := Option.bind_eq_some_iff.mp q2
            split at k2
            · rename_i hl
              cases k2
              cases h2' with
              | dt t =>
                unfold keyT at k1
                split at k1
                · cases r4 with
                  | tup g1 tt =>
                    have ew := keys_of tt k1
                    subst ew
                    obtain ⟨hr6, e6⟩ := hr4.write ha hk (by simp) (OR.dt (put_t (k := kk) rd t))
                    exact ⟨a, _, rfl, DPut.t h1' g1.1 (by rw [← t.length]; exact hl), p4 m4 _ σV hr6 e6 ((l3.ext e4).ext e6)⟩
                · cases k1
            · cases k2
          · cases q2⟩
end
end Mi

/-! Mi23: zip of two sequences, each a list or a tuple -/
namespace Mi
open PySem PySem.Spec L2
/-- a tuple (true) or a list (false) that is read -/
def SqB : Bool → PySem.W.Frag → Hp → Addr → List V → Prop
  | true => SqT
  | false => SqL
def ObB : Bool → Heap → Addr → Array Value → Prop
  | true => Heap.IsTuple
  | false => Heap.IsList
def ItB : Bool → Heap → Addr → Addr → Nat → Prop
  | true => Heap.IsTupleIter
  | false => Heap.IsListIter
def nwB (t : Bool) (a : Addr) : Obj := { cls := .type (if t then "tuple_iterator" else "list_iterator"), data := .fields #[.ref a, .int 0 0] }
theorem SqB.get {X : Cx} {pins : List (Addr × Obj)} {σ : L2.St} {H : Hp} {s : Shared} {a : Addr} {xs : List V} (I : Inv X pins σ H s) : ∀ {t : Bool}, SqB t X.K H a xs → ∃ its : List Value, Vals xs its ∧ ObB t s.heap a its.toArray
  | true, h => let ⟨its, r, p, _⟩ := I.tuple h; ⟨its, r, p⟩
  | false, h => let ⟨its, r, p, _⟩ := I.list h; ⟨its, r, p.isList⟩
theorem SqB.inj {X : Cx} {pins : List (Addr × Obj)} {σ : L2.St} {H : Hp} {s : Shared} {a : Addr} {xs ys : List V} (I : Inv X pins σ H s) : ∀ {t : Bool}, SqB t X.K H a xs → SqB t X.K H a ys → xs = ys
  | true, h, g => I.tuple_inj h g
  | false, h, g => I.list_inj h g
theorem ObB.lt {h : Heap} {a : Addr} {its : Array Value} : ∀ {t : Bool}, ObB t h a its → a < h.objs.size
  | true, q => by obtain ⟨o, ho, _⟩ := q; exact Heap.lt_size ho
  | false, q => by obtain ⟨o, ho, _⟩ := q; exact Heap.lt_size ho
theorem ItB.obj {h : Heap} {it l : Addr} {i : Nat} : ∀ {t : Bool}, ItB t h it l i → ∃ o, h.get? it = some o ∧ ∀ v, o.data ≠ .cell v
  | true, q => by obtain ⟨o, ho, _, hd⟩ := q; exact ⟨o, ho, fun v z => by rw [hd] at z; cases z⟩
  | false, q => by obtain ⟨o, ho, _, hd⟩ := q; exact ⟨o, ho, fun v z => by rw [hd] at z; cases z⟩
theorem ItB.keep {h h' : Heap} {it l : Addr} {i : Nat} (k : ∀ o, h.get? it = some o → h'.get? it = some o) : ∀ {t : Bool}, ItB t h it l i → ItB t h' it l i
  | true, q => Heap.IsTupleIter.at q k
  | false, q => Heap.IsListIter.at q k
theorem ItB.new {h : Heap} {it a : Addr} : ∀ {t : Bool}, h.get? it = some (nwB t a) → ItB t h it a 0
  | true, q => ⟨_, q, rfl, rfl⟩
  | false, q => ⟨_, q, rfl, rfl⟩
theorem drB {prog : Program} {w : World} {A : Around} (hh : A.handled = none) (it l : Addr) (hne : l ≠ it) (items : Array Value) :
    ∀ t : Bool, Draws prog w A it [it, l] items.size (fun i v => items[i]? = some v) fun i h => ItB t h it l i ∧ ObB t h l items
  | true => Draws.tuple hh it l hne items
  | false => Draws.list hh it l hne items
theorem endB {prog : Program} {w : World} {A : Around} (hh : A.handled = none) {it l : Addr} {items : Array Value} {i : Nat} (hi : items.size ≤ i) {s : Shared} {Q E : Value → Shared → Prop} : ∀ {t : Bool}, ItB t s.heap it l i → ObB t s.heap l items →
    (∀ h' e, Heap.ExtBut it s.heap h' → (∃ o, h'.get? e = some o ∧ o.cls = .type "StopIteration") → E (.ref e) { s with heap := h' }) → wpAny (model prog w) A (Builtin.SmallTypes.nextOf (.ref it)) Q E s
  | true, a, b, c => wpAny_nextOf_tuple_end hh a b (Array.getElem?_eq_none hi) c
  | false, a, b, c => wpAny_nextOf_list_end hh a b (Array.getElem?_eq_none hi) c
/-- at the i-th turn, be it past the end -/
theorem drX {prog : Program} {w : World} {A : Around} (hh : A.handled = none) {it l : Addr} (hne : l ≠ it) {items : Array Value} {t : Bool} {i : Nat} {h : Heap} (a : ItB t h it l i) (b : ObB t h l items) :
    ∃ n P St, Draws prog w A it [it, l] n P St ∧ St i h ∧ i ≤ n ∧ (items.size ≤ i → i = n) := by
  by_cases q : items.size ≤ i
  · refine ⟨i, fun _ _ => False, fun j g => j = i ∧ ItB t g it l i ∧ ObB t g l items, ⟨fun j g st => ?_, fun j g g' st k => ⟨st.1, st.2.1.keep fun o z => k it List.mem_cons_self o z, ?_⟩, fun j s Q E hj st _ => ?_, fun s Q E st hE => endB hh q st.2.1 st.2.2 hE⟩, ⟨rfl, a, b⟩, Nat.le_refl _, fun _ => rfl⟩
    · obtain ⟨o, z, _⟩ := st.2.1.obj; exact ⟨o, z⟩
    · have st2 := st.2.2
      cases t
      · exact Heap.IsList.at st2 fun o z => k l (List.mem_cons_of_mem _ List.mem_cons_self) o z
      · exact Heap.IsTuple.at st2 fun o z => k l (List.mem_cons_of_mem _ List.mem_cons_self) o z
    · exact absurd st.1 (Nat.ne_of_lt hj)
  · exact ⟨_, _, _, drB hh it l hne items t, ⟨a, b⟩, by omega, fun z => absurd z q⟩
theorem bgB (l : Addr) (items : Array Value) : ∀ t : Bool, Begins (.ref l) (nwB t l) fun h => ObB t h l items
  | true => begins_tuple l items
  | false => begins_list l items
/-- the two at a and b as they stand at each turn, the items in new pairs -/
def ItzB (K : PySem.W.Frag) (t u : Bool) (a b : Addr) : It :=
  { go := fun i H => ∃ (xs ys : List V) (x y : V), SqB t K H a xs ∧ SqB u K H b ys ∧ (xs[i]? = some x ∧ ys[i]? = some y)
    yld := fun i H v H' => ∃ T x y, v = .ref T ∧ (H T = none ∧ H' = upd H T (.tup [x, y])) ∧ (∀ xs, SqB t K H a xs → xs[i]? = some x) ∧ ∀ ys, SqB u K H b ys → ys[i]? = some y
    stop := fun i H => ∃ xs ys : List V, SqB t K H a xs ∧ SqB u K H b ys ∧ (xs.length ≤ i ∨ ys.length ≤ i) }
theorem sep_of {z TI TO i1 i2 a b : Addr} (D : ZipApart z TI TO i1 i2 a b) : ZipSep2 z TI TO i1 i2 [i1, a] [i2, b] where
  TIz := D.TIz
  TOz := D.TOz
  TITO := D.TITO
  TIi1 := D.TIi1
  mem1 := List.mem_cons_self
  zf1 := fun q => by rcases List.mem_cons.mp q with q | q; exact D.i1z q.symm; exact D.l1z (List.mem_singleton.mp q).symm
  Tf1 := fun q => by rcases List.mem_cons.mp q with q | q; exact D.TOi1 q; exact D.l1TO (List.mem_singleton.mp q).symm
  TIi2 := D.TIi2
  mem2 := List.mem_cons_self
  zf2 := fun q => by rcases List.mem_cons.mp q with q | q; exact D.i2z q.symm; exact D.l2z (List.mem_singleton.mp q).symm
  Tf2 := fun q => by rcases List.mem_cons.mp q with q | q; exact D.TOi2 q; exact D.l2TO (List.mem_singleton.mp q).symm
  sep1_2 := fun q => by rcases List.mem_cons.mp q with q | q; exact D.i12 q; exact D.l2i1 (List.mem_singleton.mp q).symm
  sep2_1 := fun q => by rcases List.mem_cons.mp q with q | q; exact D.i12 q.symm; exact D.l1i2 (List.mem_singleton.mp q).symm
theorem mem5 {c z TI TO i1 i2 : Addr} (h : c ∈ [z, TI, TO, i1, i2]) : c = z ∨ c = TI ∨ c = TO ∨ c = i1 ∨ c = i2 := by simpa using h
theorem turn_zipB {P : Program} {w : World} {K : PySem.W.Frag} {elts : List Expr} {kk : Nat} {tpos : Pos} {t u : Bool} {a b z TI TO i1 i2 : Addr} (D : ZipApart z TI TO i1 i2 a b) :
    Turn P w K (.Tuple elts kk tpos) (ItzB K t u a b) [z, TI, TO, i1, i2] z (fun i h => (IsZip h z TI TO .none ∧ IsPair h TI (.ref i1) (.ref i2)) ∧ (∃ x y, IsPair h TO x y) ∧ (ItB t h i1 a i ∧ ItB u h i2 b i)) where
  mem := by simp
  obj := fun i h ⟨⟨hz, hTI⟩, ⟨x, y, hTO⟩, h1, h2⟩ c hc => by
    rcases mem5 hc with q | q | q | q | q
    · subst q; refine ⟨_, hz, ?_⟩; intro v e; cases e
    · subst q; refine ⟨_, hTI, ?_⟩; intro v e; cases e
    · subst q; refine ⟨_, hTO, ?_⟩; intro v e; cases e
    · exact q ▸ h1.obj
    · exact q ▸ h2.obj
  keep := fun i h h' ⟨⟨hz, hTI⟩, ⟨x, y, hTO⟩, h1, h2⟩ k => ⟨⟨k z (by simp) _ hz, k TI (by simp) _ hTI⟩, ⟨x, y, k TO (by simp) _ hTO⟩, h1.keep fun o q => k i1 (by simp) o q, h2.keep fun o q => k i2 (by simp) o q⟩
  item := by
    rintro X rfl rfl rfl hc i pins s σ H E I hf ⟨⟨hz, hTI⟩, ⟨x0, y0, hTO⟩, h1, h2⟩ ⟨xs, ys, x, y, hqx, hqy, hx, hy⟩
    obtain ⟨its, rv, p⟩ := SqB.get I hqx
    obtain ⟨its2, rv2, p2⟩ := SqB.get I hqy
    obtain ⟨v1, hv1, r1⟩ := rv.get hx
    obtain ⟨v2, hv2, r2⟩ := rv2.get hy
    have hh : X.A.in1.handled = none := I.ok.hd hc
    have hzl : z < s.heap.objs.size := Heap.lt_size hz
    refine wpAny_pyNext_zipD2_item (sep_of D) (drB hh i1 a D.l1i1 its.toArray t) (drB hh i2 b D.l2i2 its2.toArray u) hz hTI hTO ⟨h1, p⟩ ⟨h2, p2⟩ (by have := (List.getElem?_eq_some_iff.mp hv1).1; simpa using this) (by have := (List.getElem?_eq_some_iff.mp hv2).1; simpa using this)
      fun x1 x2 h' tk e1 e2 z' TO' s1' s2' hT hsz hk => ?_
    have ex1 : x1 = v1 := by
      have q : its.toArray[i]? = some v1 := by simpa using hv1
      rw [e1] at q; exact Option.some.inj q
    have ex2 : x2 = v2 := by
      have q : its2.toArray[i]? = some v2 := by simpa using hv2
      rw [e2] at q; exact Option.some.inj q
    subst ex1 ex2
    refine ⟨_, rfl, wpAny_letOwnedTupleGo_zip (s := { s with heap := h', toks := tk }) z' fun h'' z'' sb => ?_⟩
    have hT2 := (sb.2 _ (Nat.ne_of_gt hzl)).trans hT
    have new : ObjOk X.prog X.w (upd H s.heap.objs.size (.tup [x, y])) h'' s.heap.objs.size (.tup [x, y]) :=
      ⟨Nat.le_trans (by decide : 2 ≤ 16) (by decide), [x1, x2], .cons r1 (.cons r2 .nil), ⟨_, hT2, rfl, _, rfl⟩⟩
    have no : ∀ c, c ∉ [z, TI, TO, i1, i2] → (c ≠ z ∧ c ≠ TO) ∧ c ≠ i1 ∧ c ≠ i2 := fun c hb => ⟨⟨fun q => hb (by simp [q]), fun q => hb (by simp [q])⟩, fun q => hb (by simp [q]), fun q => hb (by simp [q])⟩
    have I1 : Inv X pins σ (upd H s.heap.objs.size (.tup [x, y])) { s with heap := h'', toks := tk } :=
      I.turnedNew (ch := [z, TI, TO, i1, i2]) (fun c o hb q => (sb.2 c (no c hb).1.1).trans (hk c o (no c hb).1.1 (no c hb).1.2 (no c hb).2.1 (no c hb).2.2 q)) hf (Nat.le_refl _) new
    refine ⟨.ref s.heap.objs.size, _, I1, rfl, ⟨_, x, y, rfl, ⟨I.hok.fresh (Nat.le_refl _), rfl⟩, fun l hl => by rw [SqB.inj I hl hqx]; exact hx, fun l hl => by rw [SqB.inj I hl hqy]; exact hy⟩, ⟨⟨z'', ?_⟩, ⟨x1, x2, ?_⟩, ?_, ?_⟩, fun c hcm => ?_⟩
    · exact (sb.2 TI D.TIz).trans (hk TI _ D.TIz D.TITO D.TIi1 D.TIi2 hTI)
    · exact (sb.2 TO D.TOz).trans TO'
    · exact s1'.1.keep fun o q => (sb.2 i1 D.i1z).trans q
    · exact s2'.1.keep fun o q => (sb.2 i2 D.i2z).trans q
    · have hlt : c < s.heap.objs.size := by
        obtain ⟨o1, g1, _⟩ := h1.obj
        obtain ⟨o2, g2, _⟩ := h2.obj
        rcases mem5 hcm with q | q | q | q | q
        · exact q ▸ hzl
        · exact q ▸ Heap.lt_size hTI
        · exact q ▸ Heap.lt_size hTO
        · exact q ▸ Heap.lt_size g1
        · exact q ▸ Heap.lt_size g2
      rw [upd_ne (Nat.ne_of_lt hlt)]
      exact (hf c hcm).1
  done := by
    rintro X rfl rfl rfl hc i pins s σ H E I hf ⟨⟨hz, hTI⟩, ⟨x0, y0, hTO⟩, h1, h2⟩ ⟨xs, ys, hqx, hqy, hend⟩
    obtain ⟨its, rv, p⟩ := SqB.get I hqx
    obtain ⟨its2, rv2, p2⟩ := SqB.get I hqy
    have l1 := rv.length
    have l2 := rv2.length
    have hh : X.A.in1.handled = none := I.ok.hd hc
    have no : ∀ c, c ∉ [z, TI, TO, i1, i2] → (c ≠ z ∧ c ≠ TO) ∧ c ≠ i1 ∧ c ≠ i2 := fun c hb => ⟨⟨fun q => hb (by simp [q]), fun q => hb (by simp [q])⟩, fun q => hb (by simp [q]), fun q => hb (by simp [q])⟩
    obtain ⟨n1, P1, S1, D1, st1, k1, f1⟩ := drX (prog := X.prog) (w := X.w) hh D.l1i1 h1 p
    obtain ⟨n2, P2, S2, D2, st2, k2, f2⟩ := drX (prog := X.prog) (w := X.w) hh D.l2i2 h2 p2
    have he : i = n1 ∨ i = n2 := hend.imp (fun q => f1 (by simp; omega)) fun q => f2 (by simp; omega)
    exact wpAny_pyNext_zipD2_end (sep_of D) D1 D2 hz hTI hTO st1 st2 k1 k2 he
      fun h' tk hk => ⟨rfl, I.turnedL (ch := [z, TI, TO, i1, i2]) (fun c o hb q => hk c o (no c hb).1.1 (no c hb).1.2 (no c hb).2.1 (no c hb).2.2 q) hf⟩
  self := fun A i s Q E st h => wpAny_pyIter_zip st.1.1 h

def iZipB (K : PySem.W.Frag) (ta : TA) : TI := fun σ H R => ta σ H fun vs H1 => ∃ a b t u xs ys, vs = [.ref a, .ref b] ∧ SqB t K H1 a xs ∧ SqB u K H1 b ys ∧ R (ItzB K t u a b) H1
section
variable {X : Cx} {ct : CT} {W : WX} {e e2 : Expr} {ta : TA} {p pos tpos : Pos} {elts : List Expr} {kk : Nat} {fs : SemA}
theorem pi_zipB (hg : Gl X "zip") (hm : X.mg "zip" = none) (ha : PA X [e, e2] ta)
    (hs : starEach [e, e2] X.env = (false, eval e X.env) :: starEach [e2] X.env := by rfl) (hpl : (backTo pos (starEach [e2] X.env)).any (·.1) = false := by rfl) :
    PI X (.Tuple elts kk tpos) (.Call (.Name "zip" p) [e, e2] [] pos) (iZipB X.K ta) := by
  refine ⟨fun pins s σ H R I h => ?_⟩
  refine PyProof.Rows.Call_ (ld_blt I hg hm PyProof.Rows.boot_zip (PyProof.Rows.callWith_type1 (thn (ha.run pos pins s σ H _ I h) fun us s1 ⟨vs, H1, I1, r1, a, b, t, u, xs, ys, ex, hqx, hqy, q⟩ => ?_) hs hpl))
  subst ex
  cases r1 with
  | cons r rr =>
    cases rr with
    | cons r' rr =>
      cases rr
      cases r
      cases r'
      obtain ⟨its, rv, p1⟩ := SqB.get I1 hqx
      obtain ⟨its2, rv2, p2⟩ := SqB.get I1 hqy
      refine zip_begins2 (bgB a its.toArray t) (bgB b its2.toArray u) p1 p2 fun h' hz hTI hTO h1 h2 hsz hk => wpAny_pyIter_zip hz ?_
      refine ⟨s1.heap.objs.size + 4, [s1.heap.objs.size + 4, s1.heap.objs.size + 2, s1.heap.objs.size + 3, s1.heap.objs.size, s1.heap.objs.size + 1], _, _, H1, rfl, I1.kept (t' := s1.toks) hk,
        turn_zipB (PySem.W.ktu_apart s1.heap.objs.size a b p1.lt p2.lt), ⟨⟨hz, hTI⟩, ⟨_, _, hTO⟩, ItB.new h1, ItB.new h2⟩, fun c hcm => ?_, q⟩
      have hle : s1.heap.objs.size ≤ c := by rcases mem5 hcm with q | q | q | q | q <;> (rw [q]; first | exact Nat.le_add_right _ _ | exact Nat.le_refl _)
      exact I1.fpOk hle (I1.hok.fresh hle)
/-- enumerate over a list or a tuple -/
def iEnumB (K : PySem.W.Frag) (ta : TA) : TI := fun σ H R => ta σ H fun vs H1 => ∃ a xs, vs = [.ref a] ∧ ((SqT K H1 a xs ∧ R (IteT K a) H1) ∨ (SqL K H1 a xs ∧ R (Ite K a) H1))
theorem pi_enumB (hg : Gl X "enumerate") (hm : X.mg "enumerate" = none) (ha : PA X [e] ta) (hs : starEach [e] X.env = [(false, eval e X.env)] := by rfl) :
    PI X (.Tuple elts kk tpos) (.Call (.Name "enumerate" p) [e] [] pos) (iEnumB X.K ta) := by
  refine ⟨fun pins s σ H R I h => ?_⟩
  refine PyProof.Rows.Call_ (ld_blt I hg hm PyProof.Rows.boot_enumerate (PyProof.Rows.callWith_type1 (thn (ha.run pos pins s σ H _ I h) fun us s1 ⟨vs, H1, I1, r1, a, xs, ex, hq⟩ => ?_) hs rfl))
  subst ex
  obtain ⟨u, rfl, r⟩ := r1.one
  cases r
  have fr : ∀ b, b ∈ [s1.heap.objs.size + 1, s1.heap.objs.size] → FpOk X pins H1 b := fun b hb => by
    have hle : s1.heap.objs.size ≤ b := by
      rcases List.mem_cons.mp hb with q | q
      · omega
      · have := List.mem_singleton.mp q; omega
    exact I1.fpOk hle (I1.hok.fresh hle)
  rcases hq with ⟨hq, q⟩ | ⟨hq, q⟩
  · obtain ⟨its, rv, p', hz⟩ := I1.tuple hq
    refine call_enumT p' fun h' he hit hk => wpAny_pyIter_enum he ?_
    exact ⟨_, _, _, _, H1, rfl, I1.kept (t' := s1.toks) hk, turn_enumT a _ _, ⟨⟨.none, he⟩, hit, Nat.succ_ne_self _⟩, fr, q⟩
  · obtain ⟨its, rv, p', hz⟩ := I1.list hq
    refine call_enumerate_list p'.isList fun h' he hit _ hk => wpAny_pyIter_enum he ?_
    exact ⟨_, _, _, _, H1, rfl, I1.kept (t' := s1.toks) hk, turn_enum a _ _, ⟨⟨.none, he⟩, hit, Nat.succ_ne_self _⟩, fr, q⟩
end
def pureB (x : Vl) : Option (Bool × List D) := match x with
  | .d (.tup xs) => some (true, xs)
  | .d (.lv xs) => some (false, xs)
  | _ => none
section
variable {K : PySem.W.Frag} {ct : CT} {m : List Addr} {ah : Hs} {H : Hp}
def HasB (m : List Addr) (ah : Hs) (H : Hp) (t : Bool) (a : Addr) (vs : List V) : Prop := match t with
  | true => H a = some (.tup vs) ∧ Sf m ah a
  | false => (H a = some (.lst vs) ∨ ∃ o, H a = some (.frz o (.lst vs))) ∧ Sf m ah a
theorem HasB.sq {t : Bool} {a : Addr} {vs : List V} (h : HasB m ah H t a vs) : SqB t K H a vs := by
  cases t
  · exact sqL_uniq (ys := vs) h.1
  · exact sqT_of h
theorem HasB.ext {m2 : List Addr} {h2 : Hs} {H2 : Hp} {t : Bool} {a : Addr} {vs : List V} (ex : Kp (Sf m ah) H (Sf m2 h2) H2) (h : HasB m ah H t a vs) : SqB t K H2 a vs := by
  cases t
  · exact sqL_uniq (ys := vs) (h.1.imp (fun g => (ex _ _ g h.2).1) fun ⟨o, g⟩ => ⟨o, (ex _ _ g h.2).1⟩)
  · exact sqT_of (sqT_ext ex h)
theorem pureB_of {x : Vl} {t : Bool} {ds : List D} {v : V} (e : pureB x = some (t, ds)) (r : VlR K ct m ah H x v) : ∃ a vs, v = .ref a ∧ HasB m ah H t a vs ∧ DRs K ct (Sf m ah) H ds vs := by
  cases t with
  | true =>
    unfold pureB at e
    split at e
    · cases e
      cases r with
      | tup h r => exact ⟨_, _, rfl, h, r⟩
    · cases e
    · cases e
  | false =>
    have q : pureLst x = some ds := by
      unfold pureB at e
      split at e
      · cases e
      · cases e; rfl
      · cases e
    obtain ⟨a, vs, e1, h, s, r⟩ := pureLst_of q r
    exact ⟨a, vs, e1, ⟨h, s⟩, r⟩
theorem wks_zipB {t u : Bool} {a b : Addr} {ds es : List D} {vs ws : List V} (h : HasB m ah H t a vs) (r : DRs K ct (Sf m ah) H ds vs) (g : HasB m ah H u b ws) (r2 : DRs K ct (Sf m ah) H es ws) : Wks K ct (zipD ds es) m ah H (ItzB K t u a b) := fun m2 h2 H2 hr ex => by
  have h' : SqB t K H2 a vs := h.ext ex
  have g' : SqB u K H2 b ws := g.ext ex
  refine ⟨fun i hi => ?_, fun i d hd => ?_⟩
  · rw [zipD_len, r.length, r2.length] at hi
    exact ⟨vs, ws, h', g', by omega⟩
  · obtain ⟨x0, y0, q1, q2, rfl⟩ := zipD_get hd
    obtain ⟨x, hx, rx⟩ := (r.mono ex).get q1
    obtain ⟨y, hy, ry⟩ := (r2.mono ex).get q2
    refine ⟨⟨vs, ws, x, y, h', g', hx, hy⟩, ?_⟩
    rintro z H3 ⟨T, x1, y1, rfl, ⟨hT, rfl⟩, f1, f2⟩
    have e1 := (f1 vs h').symm.trans hx
    have e2 := (f2 ws g').symm.trans hy
    cases e1; cases e2
    exact pair_new hr hT rx ry
end
def iZpB (f : SemA) : SemI := fun σ h => rb (f σ h) fun xs h1 => match xs with
  | [x, y] => (match pureB x, pureB y with
    | some (_, ds), some (_, es) => .ok (zipD ds es) h1
    | _, _ => .bad)
  | _ => .bad
def iEnB (f : SemA) : SemI := fun σ h => rb (f σ h) fun xs h1 => match xs with
  | [x] => (match pureB x with
    | some (_, ds) => .ok (enumD ds) h1
    | none => .bad)
  | _ => .bad
section
variable {X : Cx} {ct : CT} {W : WX} {e e2 : Expr} {p pos tpos : Pos} {elts : List Expr} {kk : Nat} {fs : SemA}
theorem si_zipB (hg : Gl X "zip") (hm : X.mg "zip" = none) (ha : SA X ct W [e, e2] fs)
    (hs : starEach [e, e2] X.env = (false, eval e X.env) :: starEach [e2] X.env := by rfl) (hpl : (backTo pos (starEach [e2] X.env)).any (·.1) = false := by rfl) :
    SI X ct W (.Tuple elts kk tpos) (.Call (.Name "zip" p) [e, e2] [] pos) (iZpB fs) :=
  PI.imp (pi_zipB hg hm ha hs hpl) fun σV H R ⟨m, ah, σ, hr, lr, p⟩ => ⟨m, ah, σ, hr, lr, (Po.bind (R := VlRs X.K ct) p).imp fun vs H1 ⟨m1, h1, x, hr1, e1, r1, p1⟩ => by
    dsimp only at p1
    split at p1
    · cases r1 with
      | cons r t =>
        cases t with
        | cons r2 t =>
          cases t
          split at p1
          · rename_i t ds u es q1 q2
            obtain ⟨a, vs, rfl, h, r⟩ := pureB_of q1 r
            obtain ⟨b, ws, rfl, h2, r2⟩ := pureB_of q2 r2
            exact ⟨a, b, t, u, vs, ws, rfl, h.sq, h2.sq, p1 m1 H1 _ hr1 (Ext.refl _ _ _) (wks_zipB h r h2 r2)⟩
          · exact p1.elim
    · exact p1.elim⟩
theorem si_enumB (hg : Gl X "enumerate") (hm : X.mg "enumerate" = none) (ha : SA X ct W [e] fs) (hs : starEach [e] X.env = [(false, eval e X.env)] := by rfl) : SI X ct W (.Tuple elts kk tpos) (.Call (.Name "enumerate" p) [e] [] pos) (iEnB fs) :=
  PI.imp (pi_enumB hg hm ha hs) fun σV H R ⟨m, ah, σ, hr, lr, p⟩ => ⟨m, ah, σ, hr, lr, (Po.bind (R := VlRs X.K ct) p).imp fun vs H1 ⟨m1, h1, x, hr1, e1, r1, p1⟩ => by
    dsimp only at p1
    split at p1
    · cases r1 with
      | cons r t =>
        cases t
        split at p1
        · rename_i t ds q1
          obtain ⟨a, vs, rfl, h, r⟩ := pureB_of q1 r
          cases t with
          | true => exact ⟨_, _, rfl, .inl ⟨sqT_of h, p1 m1 H1 _ hr1 (Ext.refl _ _ _) (wks_enumT h r)⟩⟩
          | false => exact ⟨_, _, rfl, .inr ⟨sqL_uniq (ys := vs) h.1, p1 m1 H1 _ hr1 (Ext.refl _ _ _) (wks_enum h.1 h.2 r)⟩⟩
        · exact p1.elim
    · exact p1.elim⟩
end
end Mi

/-! Mi24: list.index of data -/
namespace Mi
open PySem PySem.Spec L2
def fIx (p : D → Bool) : List D → Option Nat
  | [] => none
  | d :: ds => if p d = true then some 0 else (fIx p ds).map (· + 1)
theorem fIx_some {p : D → Bool} : ∀ {ds : List D} {j : Nat}, fIx p ds = some j → (∃ z, ds[j]? = some z ∧ p z = true) ∧ ∀ (m : Nat) (z : D), m < j → ds[m]? = some z → p z = false
  | [], j, e => by cases e
  | d :: ds, j, e => by
    unfold fIx at e
    split at e
    · rename_i h
      cases e
      exact ⟨⟨d, rfl, h⟩, fun m z hm => absurd hm (Nat.not_lt_zero _)⟩
    · rename_i h
      obtain ⟨i, ei, rfl⟩ := Option.map_eq_some_iff.mp e
      obtain ⟨⟨z, g1, g2⟩, g3⟩ := fIx_some ei
      refine ⟨⟨z, by simpa using g1, g2⟩, fun m z' hm hz => ?_⟩
      cases m with
      | zero => simp only [List.getElem?_cons_zero, Option.some.injEq] at hz; subst hz; exact Bool.eq_false_iff.mpr h
      | succ m => exact g3 m z' (by omega) (by simpa using hz)
theorem pds_get : ∀ (ds : List D) (j : Nat), (D.pds ds)[j]? = (ds[j]?).map D.pd
  | [], j => by simp [D.pds]
  | d :: ds, 0 => by simp [D.pds]
  | d :: ds, j + 1 => by simp only [D.pds, List.getElem?_cons_succ]; exact pds_get ds j
def eIdx (f : SemE) (g : SemA) : SemE := fun σ h => rb (f σ h) fun x h1 => (match lstOf x h1 with
  | some _ => rb (g σ h1) fun ys h2 => (match ys with
    | [y] => (match lstOf x h2, viewD y h2 with
      | some ds, some d => if (shp (.lv ds) && shp d) = true then (match fIx (fun z => PyData.eqv z.pd d.pd) ds with
          | some j => .ok (.d (.int (j : Nat))) h2
          | none => .bad) else .bad
      | _, _ => .bad)
    | _ => .bad)
  | none => .bad)
section
variable {X : Cx} {ct : CT} {W : WX} {o e : Expr} {f : SemE} {fs : SemA} {apos cpos : Pos}
theorem se_index (hu : X.A.units + 65 < cLine) (he : SE X ct W o f) (ha : SA X ct W [e] fs)
    (hb : attributeBase o "index" X.env (eval o X.env) = eval o X.env := by rfl)
    (hf : ((backTo cpos (starEach [e] X.env)).all (fun x => !x.1) && (backToKw cpos (keywordEach [] X.env)).all (fun x => x.1.isSome)
      && decide ([e].length + ([] : List Keyword).length + (if ([] : List Keyword).isEmpty then 0 else 1) < 30)) = true := by rfl)
    (hl : (apos.endLine == cpos.line) = true := by rfl) (hs : starEach [e] X.env = (false, eval e X.env) :: starEach [] X.env := by rfl) (hp : (backTo cpos (starEach [] X.env)).any (·.1) = false := by rfl) :
    SE X ct W (.Call (.Attribute o "index" apos) [e] [] cpos) (eIdx f fs) :=
  PE.imp (pe_bm PySem.F.plainAttrs_list PySem.F.slot_list_index PySem.F.type_list_index (r := rIndexD X.K) (mt_indexD hu) he ha hb hf hl hs hp) fun σV H Q ⟨m, ah, σ, hr, lr, p⟩ => by
    refine ⟨m, ah, σ, hr, lr, (Po.bind (R := VlR X.K ct) p).imp fun v H1 ⟨m1, h1, x, hr1, e1, r1, p1⟩ => ?_⟩
    dsimp only at p1
    split at p1
    · rename_i xs hx
      obtain ⟨a, vs, rfl, g1, g2⟩ := lst_of hr1 hx r1
      refine ⟨.inl ⟨rfl, vs, .of g1⟩, m1, h1, σ, hr1, lr.ext e1, (Po.bind (R := VlRs X.K ct) p1).imp fun us H2 ⟨m2, h2, ys2, hr2, e2, r2, p2⟩ => ?_⟩
      dsimp only at p2
      split at p2
      · cases r2 with
        | cons ry tt =>
          cases tt
          split at p2
          · rename_i ds d q1 q2
            split at p2
            · rename_i hc
              have hc' := Bool.and_eq_true_iff.mp hc
              split at p2
              · rename_i j hj
                obtain ⟨l, ws, ea, h3, r3⟩ := lst_of hr2 q1 (VlR.ext e2 r1)
                cases ea
                have c2 := hc'.1
                unfold shp at c2
                simp only [D.pd] at c2
                have c3 := SeqAt.canLay_of_shaped c2
                simp only [PyData.canLay0] at c3
                obtain ⟨⟨z, z1, z2⟩, z3⟩ := fIx_some hj
                refine ⟨a, _, d.pd, D.pds ds, j, z.pd, rfl, rfl, .lst (.of h3) (dps_of r3 c3), view_dp hr2 q2 ry hc'.2, c2, hc'.2, by rw [pds_get, z1]; rfl, z2, fun m z' hm hz => ?_, ?_⟩
                · rw [pds_get] at hz
                  obtain ⟨z'', e1, rfl⟩ := Option.map_eq_some_iff.mp hz
                  exact z3 m z'' hm e1
                · exact p2 m2 H2 _ hr2 (Ext.refl _ _ _) (.int _)
              · exact p2.elim
            · exact p2.elim
          · exact p2.elim
      · exact p2.elim
    · exact p1.elim
end
end Mi

/-! Mi25: exception objects as data: made, read, asked by isinstance -/
namespace Mi
open PySem PySem.Spec L2

/-! ### what is asked of an own exception class -/
structure ExcK (K : PySem.W.Frag) (C : Addr) : Prop where
  ox : OexC K C
  ga : PySem.W.findIn K (.ref C) "__getattribute__" = some (some (.builtin "BaseException.__getattribute__"))
  gg : PySem.W.findIn K (.ref C) "__getattr__" = some none
  hd : PySem.W.hasDictIn K C = true
  cl : (PySem.W.clsIn K C).isSome = true
  ha : PySem.W.findIn K (.ref C) "__class__" = some (some (.builtin "object.__class__"))
  hn : PySem.W.specialIn K (.builtin "object.__class__") "__get__" = some (some (.builtin "getset_descriptor.__get__"))
  ht : PySem.W.takesIn K (.builtin "object.__class__") = some true
  hm : PySem.W.mroIn K C (.type "object") = some true
theorem oexB_ok {K : PySem.W.Frag} {C : Addr} (q : oexB K C = true) : ∃ nm q N bs bm sn sub ab col dd k0 k1 k2 k3 k5, K.lookup C = some (excClassObj nm q C N bs bm true sn sub ab col dd k0 k1 k2 k3 k5 "ValueError.__new__") ∧ PySem.HandSPX.refsVE bm = true := by
  unfold oexB at q
  split at q
  · rename_i dd cd sl ho
    split at q
    · rename_i C' bm k0 k1 k2 k3 n k5 h1 h2
      obtain ⟨nm, bs, mro, N, qn, hd, sn, sub, ab, col, dl⟩ := cd
      simp only [Bool.and_eq_true, decide_eq_true_eq, beq_iff_eq, Bool.not_eq_true'] at q h1
      obtain ⟨e1, e2, e3, e4, e5⟩ := q
      subst e1 e2 e3 e4 h1
      have hs : sl = #[k0, k1, k2, k3, some (.builtin "ValueError.__new__"), k5] := by
        cases sl
        simp only at h2
        rw [h2]
      subst hs
      exact ⟨nm, qn, N, bs, bm, sn, sub, ab, col, dd, k0, k1, k2, k3, k5, ho, e5⟩
    · cases q
  · cases q
theorem excKB_ok {K : PySem.W.Frag} {C : Addr} (q : excKB K C = true) : ExcK K C := by
  unfold excKB at q
  simp only [Bool.and_eq_true, decide_eq_true_eq] at q
  obtain ⟨h1, h2, h3, h4, h5, h6, h7, h8, h9, h10, h11, h12, h13⟩ := q
  exact ⟨⟨oexB_ok h1, He.eqO_ok h2, h3, h4, h5⟩, He.eqO_ok h6, He.eqO_ok h7, h8, h9, He.eqO_ok h10, He.eqO_ok h11, h12, h13⟩

/-! ### an exception object in the heap -/
/-- what the context knows of the caught exception -/
def Caught (X : Cx) (ct : CT) : Prop := ∀ a C d, ct.ex = some (a, C, d) → ∃ oe, (a, oe) ∈ X.pn ∧ Zc (.ref (ct.ca C)) d oe ∧ ∃ vs, oe.data = .fields vs
theorem Caught.none {X : Cx} {ct : CT} (h : ct.ex = none) : Caught X ct := fun a C d e => by rw [h] at e; cases e
section
variable {X : Cx} {ct : CT} {W : WX} {pins : List (Addr × Obj)} {σ : L2.St} {H : Hp} {s : Shared} {S : Addr → Prop}
theorem exc_inst (hc : Caught X ct) (I : Inv X pins σ H s) {C : Nat} {fs : List (Nat × D)} {v : V} (r : DR X.K ct S H (.exc C fs) v) :
    ∃ (a : Addr) (ox : Obj), v = .ref a ∧ (fs = [] → ∃ od, PySem.W.InstAt s.heap a ox (ct.ca C) od) ∧ (fs ≠ [] → ∃ od, PySem.W.InstAt s.heap a ox (ct.ca C) (some od) ∧ ∀ k d, fs.lookup k = some d → ∃ (w : V) (u : Value), PySem.W.lookIn (ct.nm k) od = some (some u) ∧ RelV w u ∧ DR X.K ct S H d w) := by
  have own : ∀ {dx : Addr} {vs : List (Str × V)} {mA : Str → Option Value}, s.heap.Ns1 dx mA → (∀ f, RelO (vs.lookup f) (mA f)) → DRf X.K ct S H fs vs →
      ∃ od, s.heap.get? dx = some od ∧ ∀ k d, fs.lookup k = some d → ∃ (w : V) (u : Value), PySem.W.lookIn (ct.nm k) od = some (some u) ∧ RelV w u ∧ DR X.K ct S H d w := by
    intro dx vs mA hn hr t
    obtain ⟨od, ho, hl⟩ := lookIn_ns hn
    refine ⟨od, ho, fun k d hk => ?_⟩
    obtain ⟨w, h3, r3⟩ := (lookup_drf t).1 d hk
    obtain ⟨u, hu, ru⟩ := RelO.some_of (v := w) (o := mA (ct.nm k)) (by rw [← h3]; exact hr _)
    exact ⟨w, u, by rw [hl, hu], ru, r3⟩
  cases r with
  | exb h hs =>
    obtain ⟨t1, ho⟩ := exo_at I.hok h
    exact ⟨_, _, rfl, fun _ => ⟨none, ho, rfl, rfl, trivial⟩, fun z => absurd rfl z⟩
  | @exd a _ dx _ vs h hs h2 hs2 t =>
    obtain ⟨t1, ho⟩ := exo_at I.hok h
    obtain ⟨mA, hn, hr⟩ := exd_at I.hok h2
    obtain ⟨od, hod, q⟩ := own hn hr t
    exact ⟨a, _, rfl, fun _ => ⟨some od, ho, rfl, rfl, hod⟩, fun _ => ⟨od, ⟨ho, rfl, rfl, hod⟩, q⟩⟩
  | @exq a _ e =>
    obtain ⟨oe, hp, hz, vs, hv⟩ := hc _ _ _ e
    obtain ⟨hget, _⟩ := I.pin (a, oe) (List.mem_append_left _ hp)
    exact ⟨a, oe, rfl, fun _ => ⟨none, hget, hz.1, by unfold PySem.W.notCls; rw [hv] <;> rfl, by rw [hz.2]; trivial⟩, fun z => absurd rfl z⟩
  | @exr a _ dx _ vs e h hs t =>
    obtain ⟨oe, hp, hz, ws, hv⟩ := hc _ _ _ e
    obtain ⟨hget, _⟩ := I.pin (a, oe) (List.mem_append_left _ hp)
    have hx : ObjOk X.prog X.w H s.heap dx (.xd vs) := I.hok dx _ h
    obtain ⟨mA, hn, hr⟩ := hx
    obtain ⟨od, hod, q⟩ := own hn hr t
    have J : PySem.W.InstAt s.heap a oe (ct.ca C) (some od) := ⟨hget, hz.1, by unfold PySem.W.notCls; rw [hv] <;> rfl, by rw [hz.2]; exact hod⟩
    exact ⟨a, oe, rfl, fun _ => ⟨_, J⟩, fun _ => ⟨od, J, q⟩⟩
end
end Mi

/-! Mi26: an exception's fields read, isinstance of it, exceptions made as values -/
namespace Mi
open PySem PySem.Spec L2

/-- e.f, e an exception -/
def eXf (ok : Nat → Bool) (n : Nat) (f : SemE) : SemE := fun σ h => rb (f σ h) fun x h1 => match x with
  | .d (.exc C fs) => if ok C = true then (match fs.lookup n with
    | some d => .ok (.d d) h1
    | none => .bad) else .bad
  | _ => .bad
/-- isinstance(e, C) by a table over the exception classes -/
def eIsx (l : List (Nat × Bool)) (f : SemE) : SemE := fun σ h => rb (f σ h) fun x h1 => match x with
  | .d (.exc C _) => (match l.lookup C with
    | some b => .ok (.d (.bl b)) h1
    | none => .bad)
  | _ => .bad
section
variable {X : Cx} {ct : CT} {W : WX} {pos p p2 : Pos} {e : Expr} {f : SemE} {x : Str}
theorem se_xf {ok : Nat → Bool} {k : Nat} {fl : Str} (hc : Caught X ct) (he : SE X ct W e f) (hf : ct.nm k = fl) (hok : ∀ C, ok C = true → ExcK X.K (ct.ca C) ∧ PySem.W.findIn X.K (.ref (ct.ca C)) fl = some none)
    (hb : attributeBase e fl X.env (eval e X.env) = eval e X.env := by rfl) : SE X ct W (.Attribute e fl pos) (eXf ok k f) := by
  subst hf
  refine ⟨fun pins s σV H Q I ⟨m, ah, σ, hr, lr, p⟩ => attr_of hb (thn (he.run pins s σV H _ I ⟨m, ah, σ, hr, lr, Po.bind (R := VlR X.K ct) p⟩) fun u s1 ⟨v, H1, I1, rx, m1, h1, y, hr1, e1, r1, p1⟩ => ?_)⟩
  dsimp only at p1
  split at p1
  · rename_i C fs
    split at p1
    · rename_i hC
      obtain ⟨T, hno⟩ := hok C hC
      cases q : fs.lookup k with
      | none => rw [q] at p1; exact p1.elim
      | some d =>
        rw [q] at p1
        obtain ⟨a, ox, rfl, _, z⟩ := exc_inst hc I1 r1
        obtain ⟨od, J, g⟩ := z (fun z => by rw [z] at q; cases q)
        obtain ⟨w, uu, hl, ru, rd⟩ := g k d q
        obtain rfl : u = Value.ref a := rx
        exact HandSPX.exc_get I1.kIn J T.ga T.gg T.ox.exC (PySem.W.findObj_own T.hd hno rfl hl) (handed_of ru) ⟨w, H1, I1.tok _, ru, p1 m1 H1 w hr1 (Ext.refl _ _ _) rd⟩
    · exact p1.elim
  · exact p1.elim
/-- isinstance of an exception -/
def rIsx (K : PySem.W.Frag) (ct : CT) : List V → Hp → VK → Prop := fun xs H Q => ∃ (v c : V) (C : Nat) (fs : List (Nat × D)) (u : Value) (b : Bool) (S : Addr → Prop), xs = [v, c] ∧ ClsV c u ∧ DR K ct S H (.exc C fs) v ∧ ExcK K (ct.ca C) ∧ PySem.W.kitOne K (.ref (ct.ca C)) u = some b ∧ Q (.bl b) H
theorem call_isx (hc : Caught X ct) : CallR X (.builtin "isinstance") (rIsx X.K ct) := by
  intro pins s σ H xs us Q I r h
  obtain ⟨v, c, C, fs, u, b, S, rfl, k, d, T, e, q⟩ := h
  obtain ⟨u1, u2, rfl, r1, r2⟩ := vals2 r
  have e2 := k.eq r2
  subst e2
  obtain ⟨a, ox, rfl, z1, z2⟩ := exc_inst hc I d
  obtain rfl : u1 = Value.ref a := r1
  obtain ⟨od, J⟩ : ∃ od, PySem.W.InstAt s.heap a ox (ct.ca C) od := by
    by_cases hf : fs = []
    · exact z1 hf
    · obtain ⟨od, J, _⟩ := z2 hf; exact ⟨_, J⟩
  exact PySem.W.kia_one (PySem.W.kitx_exc T.cl T.ga T.gg T.ox.exC T.ha T.hn T.ht T.hm) I.kIn J e (fun z => nomatch z) fun tk => ⟨.bl b, H, I.tok tk, rfl, q⟩
theorem pe_isx {l : List (Nat × Bool)} {c : V} {u : Value} (hk : ClsV c u) (h2 : PE X (.Name x p2) (tC c)) (hc : Caught X ct) (ho : ∀ C b, l.lookup C = some b → ExcK X.K (ct.ca C) ∧ PySem.W.kitOne X.K (.ref (ct.ca C)) u = some b) (hg : Gl X "isinstance") (hm : X.mg "isinstance" = none) (he : SE X ct W e f)
    (h1 : starEach [e, .Name x p2] X.env = (false, eval e X.env) :: starEach [.Name x p2] X.env := by rfl) : SE X ct W (.Call (.Name "isinstance" p) [e, .Name x p2] [] pos) (eIsx l f) :=
  PE.imp (pe_callB (call_isx hc) hg hm PyProof.Rows.boot_isinstance (pa_cons he (pa_cons h2 pa_nil (by rfl)) h1) (by decide) (by decide) h1 (by rfl)) fun σV H Q ⟨m, ah, σ, hr, lr, p⟩ => ⟨m, ah, σ, hr, lr, (Po.bind (R := VlR X.K ct) p).imp fun v H1 ⟨m1, h1, x, hr1, e1, r1, p1⟩ => by
    dsimp only at p1
    split at p1
    · rename_i C fs
      cases q2 : l.lookup C with
      | none => rw [q2] at p1; exact p1.elim
      | some b =>
        rw [q2] at p1
        obtain ⟨T, k1⟩ := ho C b q2
        exact ⟨v, c, C, fs, u, b, _, rfl, hk, r1, T, k1, p1 m1 H1 _ hr1 (Ext.refl _ _ _) (.bl b)⟩
    · exact p1.elim⟩
/-- isinstance(e, T), T built in -/
theorem se_isxB {l : List (Nat × Bool)} {T : String} (hg2 : Gl X x) (hm2 : X.mg x = none) (hv : bootBuiltins x = some (.type T)) (hc : Caught X ct) (ho : ∀ C b, l.lookup C = some b → ExcK X.K (ct.ca C) ∧ PySem.W.kitOne X.K (.ref (ct.ca C)) (.type T) = some b) (hg : Gl X "isinstance") (hm : X.mg "isinstance" = none) (he : SE X ct W e f)
    (hn : x ≠ "__name__" := by decide) (hd : (x == ("__debug__" : Str)) = false := by decide)
    (h1 : starEach [e, .Name x p2] X.env = (false, eval e X.env) :: starEach [.Name x p2] X.env := by rfl) : SE X ct W (.Call (.Name "isinstance" p) [e, .Name x p2] [] pos) (eIsx l f) :=
  pe_isx (.ty T) (pe_bltn hg2 hm2 hv (v := .ty T) rfl hn hd) hc ho hg hm he h1
/-- isinstance(e, C), C own -/
theorem se_isxC {l : List (Nat × Bool)} {C : Addr} (hg2 : Gl X x) (hm2 : X.mg x = some (.ref C)) (hc : Caught X ct) (ho : ∀ D b, l.lookup D = some b → ExcK X.K (ct.ca D) ∧ PySem.W.kitOne X.K (.ref (ct.ca D)) (.ref C) = some b) (hg : Gl X "isinstance") (hm : X.mg "isinstance" = none) (he : SE X ct W e f)
    (hd : (x == ("__debug__" : Str)) = false := by decide)
    (h1 : starEach [e, .Name x p2] X.env = (false, eval e X.env) :: starEach [.Name x p2] X.env := by rfl) : SE X ct W (.Call (.Name "isinstance" p) [e, .Name x p2] [] pos) (eIsx l f) :=
  pe_isx (.own C) (pe_glob hg2 hm2 (v := .ref C) rfl hd) hc ho hg hm he h1

/-! ### made as values -/
/-- C(), no own __init__ -/
def eXb (C : Nat) : SemE := fun _ h => .ok (.d (.exc C [])) h
theorem se_exb {C : Nat} (q : PySem.W.excIn X.K (ct.ca C) He.veBase "ValueError.__new__" = true) (kC : PySem.W.keepIn X.K (.ref (ct.ca C)) = true) (gC : X.mg x = some (.ref (ct.ca C))) (hg : Gl X x) (hdb : (x == ("__debug__" : Str)) = false := by decide) : SE X ct W (.Call (.Name x p) [] [] pos) (eXb C) := by
  refine ⟨fun pins s σV H Q I ⟨m, ah, σ, hr, lr, p⟩ => ?_⟩
  refine wpAny_Call_Name_kw (ld_glob I hg gC ?_ hdb)
  refine PySem.W.callWith_K0 I.kIn kC ?_
  show wpAny _ _ (call (.ref (ct.ca C)) []) _ _ _
  obtain ⟨bm, N, nm, qn, bs, hdct, sn, sub, ab, col, dd, k0, k1, k2, k3, k5, mN, hC, hN, hni, T⟩ := exc_obj I.kIn q
  refine wpAny_call_exc_subT F.excBase_ValueError T hC hN hni (fun h' a hm => ?_) (by show 0 ≤ sizeLine; omega)
  obtain ⟨t, ht, _, _⟩ := hm.there
  have hn : H a = none := I.hok.gone hm.new
  obtain ⟨hr2, e2, sa⟩ := hr.pure (o := L2.exo a (ct.ca C) none) hn
  exact ⟨.ref a, upd H a (L2.exo a (ct.ca C) none), I.laidN hm.keeps hm.new hn (exo_ok ht), rfl, p m _ (.ref a) hr2 e2 (.exb upd_same sa)⟩
end
end Mi

/-! Mi27: exceptions with an own __init__ -/
namespace Mi
open PySem PySem.Spec L2

def fieldsOf (ct : CT) (ks : List Nat) (ws : List V) : List (Str × V) := ((ks.map ct.nm).zip ws).reverse
/-- what an exception's __init__ keeps: it stores its arguments under the names ks -/
def spX (ct : CT) (C : Nat) (ks : List Nat) : Sp := fun vs H Q _ => ∃ (a : Addr) (ws : List V), vs = .ref a :: ws ∧ ws.length = ks.length ∧ H a = some (L2.exo a (ct.ca C) none) ∧
  (ks = [] → Q .non H) ∧ (ks ≠ [] → ∀ (dx : Addr) (H' : Hp), H dx = none → dx ≠ a → H' a = some (L2.exo a (ct.ca C) (some dx)) → H' dx = some (L2.exd dx (fieldsOf ct ks ws)) → (∀ b, b ≠ a → b ≠ dx → H' b = H b) → Q .non H')
section
variable {P : Program} {w : World} {K : PySem.W.Frag} {mg : Str → Option Value} {base : Heap} {CX : CXT} {ct : CT} {x qual slf v v2 : Str} {params : Arguments} {scope : Scope} {dvs : List V} {kws : List (Str × V)} {f : Addr} {fd : FuncData} {k : Nat} {p1 p2 p3 p4 p5 p6 p7 p8 : Pos} {C k0 k1 : Nat}
theorem xi1_ok (F : FunD K x qual params [.Assign [.Attribute (.Name slf p1) (ct.nm k0) p2] (.Name v p3) p4] scope dvs kws f fd) (S : FnScope [slf, v] [slf, v] scope) (hs : Vis scope slf) (hv : Vis scope v) (T : OexC K (ct.ca C)) (hno : PySem.W.findIn K (.ref (ct.ca C)) (ct.nm k0) = some none)
    (d1 : (slf == ("__debug__" : Str)) = false := by decide) (d2 : (slf == ("__classdict__" : Str)) = false := by decide) (d3 : (v == ("__debug__" : Str)) = false := by decide) (d4 : (v == ("__classdict__" : Str)) = false := by decide) : FnOk P w K mg base CX (k + 1) f fd [slf, v] (spX ct C [k0]) :=
  fun_ok F S (fun vs H Q E ⟨a, ws, h1, h2, _⟩ => by subst h1; simp [h2]) fun cdv A outer s H vs Q E hr ⟨a, ws, h1, h2, h3, _, h5⟩ => by
    match ws, h2, h1, h5 with
    | [y], _, h1, h5 =>
      subst h1
      refine ⟨_, pss_one (ps_ost (pe_var (i := 0) rfl hs d1 d2) (pe_var (i := 1) rfl hv d3 d4)), ?_⟩
      exact ⟨y, rfl, .ref a, rfl, a, ct.ca C, rfl, T, hno, .inl ⟨h3, fun dx n ne => h5 (by simp) dx _ n ne upd_same (by rw [upd_ne ne, upd_same]; rfl) fun b b1 b2 => by rw [upd_ne b1, upd_ne b2]⟩⟩
theorem xi2_ok (F : FunD K x qual params [.Assign [.Attribute (.Name slf p1) (ct.nm k0) p2] (.Name v p3) p4, .Assign [.Attribute (.Name slf p5) (ct.nm k1) p6] (.Name v2 p7) p8] scope dvs kws f fd) (S : FnScope [slf, v, v2] [slf, v, v2] scope) (hs : Vis scope slf) (hv : Vis scope v) (hv2 : Vis scope v2)
    (T : OexC K (ct.ca C)) (hno : PySem.W.findIn K (.ref (ct.ca C)) (ct.nm k0) = some none) (hno2 : PySem.W.findIn K (.ref (ct.ca C)) (ct.nm k1) = some none)
    (d1 : (slf == ("__debug__" : Str)) = false := by decide) (d2 : (slf == ("__classdict__" : Str)) = false := by decide) (d3 : (v == ("__debug__" : Str)) = false := by decide) (d4 : (v == ("__classdict__" : Str)) = false := by decide)
    (d5 : (v2 == ("__debug__" : Str)) = false := by decide) (d6 : (v2 == ("__classdict__" : Str)) = false := by decide) : FnOk P w K mg base CX (k + 1) f fd [slf, v, v2] (spX ct C [k0, k1]) :=
  fun_ok F S (fun vs H Q E ⟨a, ws, h1, h2, _⟩ => by subst h1; simp [h2]) fun cdv A outer s H vs Q E hr ⟨a, ws, h1, h2, h3, _, h5⟩ => by
    match ws, h2, h1, h5 with
    | [y, y2], _, h1, h5 =>
      subst h1
      refine ⟨_, pss_cons (ps_ost (pe_var (i := 0) rfl hs d1 d2) (pe_var (i := 1) rfl hv d3 d4)) (pss_one (ps_ost (pe_var (i := 0) rfl hs d1 d2) (pe_var (i := 2) rfl hv2 d5 d6))), ?_⟩
      exact ⟨y, rfl, .ref a, rfl, a, ct.ca C, rfl, T, hno, .inl ⟨h3, fun dx n ne => ⟨y2, rfl, .ref a, rfl, a, ct.ca C, rfl, T, hno2, .inr ⟨dx, _, upd_same, by rw [upd_ne ne, upd_same], (by show 1 ≤ 900; omega),
        h5 (by simp) dx _ n ne (by rw [upd_ne ne.symm, upd_same]) upd_same fun b b1 b2 => by rw [upd_ne b2, upd_ne b1, upd_ne b2]⟩⟩⟩⟩
end
end Mi

/-! Mi28: an exception with an own __init__ made as a value; an __init__ that calls its base's -/
namespace Mi
open PySem PySem.Spec L2

section
variable {K : PySem.W.Frag} {ct : CT} {S : Addr → Prop} {H : Hp}
theorem DRf.append : ∀ {ds : List (Nat × D)} {vs : List (Str × V)} {es : List (Nat × D)} {ws : List (Str × V)}, DRf K ct S H ds vs → DRf K ct S H es ws → DRf K ct S H (ds ++ es) (vs ++ ws)
  | _, _, _, _, .nil, t => t
  | _, _, _, _, .cons r s, t => .cons r (DRf.append s t)
theorem drf_fields : ∀ {ks : List Nat} {ds : List D} {ws : List V}, DRs K ct S H ds ws → DRf K ct S H (ks.zip ds).reverse (fieldsOf ct ks ws)
  | [], _, _, _ => .nil
  | _ :: _, _, _, .nil => .nil
  | k :: ks, _, _, .cons r t => by
    unfold fieldsOf
    simp only [List.zip_cons_cons, List.map_cons, List.reverse_cons]
    exact DRf.append (drf_fields t) (.cons r .nil)
end
/-- what the class's own __init__ is -/
structure XInit (X : Cx) (ct : CT) (C : Nat) (ks : List Nat) : Prop where
  T : OexC X.K (ct.ca C)
  i : ∃ (f : Addr) (fd : FuncData) (ps : List Str), PySem.W.findIn X.K (.ref (ct.ca C)) "__init__" = some (some (.ref f)) ∧ PySem.W.typeIn X.K (.ref f) = some (.type "function") ∧ Binds X.K fd ps [] ∧ FnOk X.prog X.w X.K X.mg X.base (L2.CX X.prog X.w) 1 f fd ps (spX ct C ks)
section
variable {X : Cx} {ct : CT} {W : WX} {pos p : Pos} {e : Expr} {es : List Expr} {fs : SemA} {x : Str}
theorem run_exi {C : Nat} {ks : List Nat} {pins : List (Addr × Obj)} {σ : L2.St} {H : Hp} {s : Shared} {Q : VK} {us : List Value} {vs : List V} (XI : XInit X ct C ks) (hr : Room 2 X.A) (hl : vs.length = ks.length) (hk : ks.length ≤ 100) (I : Inv X pins σ H s) (r : Vals vs us)
    (h0 : ks = [] → ∀ a, H a = none → Q (.ref a) (upd H a (L2.exo a (ct.ca C) none)))
    (h1 : ks ≠ [] → ∀ a dx H', H a = none → H dx = none → H' a = some (L2.exo a (ct.ca C) (some dx)) → H' dx = some (L2.exd dx (fieldsOf ct ks vs)) → (∀ b, b ≠ a → b ≠ dx → H' b = H b) → Q (.ref a) H') :
    wpAny (model X.prog X.w) X.A (call (.ref (ct.ca C)) us) (EP X pins σ Q) X.xe s := by
  obtain ⟨T, fI, fd, ps, iC, tI, hb, F1⟩ := XI
  obtain ⟨nm, q, N, bs, bm, sn, sub, ab, col, dd, k0, k1, k2, k3, k5, hC, hbm⟩ := T.cls
  obtain ⟨hp, g, dr, tk, os⟩ := s
  have hsz : hp.objs.size ≤ hp.objs.size + 1 := Nat.le_succ _
  have hn : H (hp.objs.size + 1) = none := I.hok.fresh hsz
  have kk : ∀ b o, hp.get? b = some o → ((hp.push (PySem.W.kdv_tup us)).push (PySem.HandSPX.excO (ct.ca C) hp.objs.size)).get? b = some o := fun b o e => Heap.get?_push_of_some _ (Heap.get?_push_of_some _ e)
  have hget : ((hp.push (PySem.W.kdv_tup us)).push (PySem.HandSPX.excO (ct.ca C) hp.objs.size)).get? (hp.objs.size + 1) = some (PySem.HandSPX.excO (ct.ca C) hp.objs.size) := by heap_get
  have I2 := I.laid (t' := tk) (a := hp.objs.size + 1) (o := L2.exo (hp.objs.size + 1) (ct.ca C) none) (h' := (hp.push (PySem.W.kdv_tup us)).push (PySem.HandSPX.excO (ct.ca C) hp.objs.size)) kk hsz (exo_ok hget)
  have r2 : Vals (V.ref (hp.objs.size + 1) :: vs) (Value.ref (hp.objs.size + 1) :: us) := .cons rfl r
  have hus : us.length ≤ sizeLine := by
    rw [← Paired.length r, hl, sizeLine_eq]
    omega
  have hq : spX ct C ks (V.ref (hp.objs.size + 1) :: vs) (upd H (hp.objs.size + 1) (L2.exo (hp.objs.size + 1) (ct.ca C) none)) (fun v H2 => v = .non ∧ Q (.ref (hp.objs.size + 1)) H2) (fun _ _ _ => False) := by
    refine ⟨_, vs, rfl, hl, upd_same, fun z => ⟨rfl, h0 z _ hn⟩, fun z dx H' n ne e1 e2 e3 => ⟨rfl, h1 z _ dx H' hn ?_ e1 e2 fun b b1 b2 => by rw [e3 b b1 b2, upd_ne b1]⟩⟩
    rw [upd_ne ne] at n
    exact n
  have hlen : (Value.ref (hp.objs.size + 1) :: us).length = ps.length := by rw [← Paired.length r2, F1.len _ _ _ _ hq]
  have bb := hb _ (Value.ref (hp.objs.size + 1) :: us) I2.kIn (by rw [List.append_nil]; exact hlen)
  rw [List.append_nil] at bb
  refine wpAny_call (PySem.HandSPX.call_own F.excBase_ValueError (fun Y => PySem.HandSPX.refsVE_contains Y bm hbm) (I.kIn _ _ hC) (PySem.W.looks_findIn I.kIn iC) (fun self => PySem.W.bind_fn I.kIn self tI) hus
    (codeAny_mono (F1.run _ X.stack _ _ ⟨Value.ref (hp.objs.size + 1) :: us, []⟩ _ _ _ _ (hr.make (ct.ca C) us []) (I2.env0.make (ct.ca C) us []) bb r2 hq) fun r s' hq' => ?_))
  cases r with
  | error er =>
    obtain ⟨_, _, _, _, _, _, _, _, _, _, _, _, z⟩ := hq'
    exact z.elim
  | ok fl =>
    cases fl with
    | ret u =>
      obtain ⟨v, H', I3, rv, ev, q3⟩ := I2.after hq'
      subst ev
      exact ⟨rv, ⟨V.ref (hp.objs.size + 1), H', I3, rfl, q3⟩⟩
    | next => exact False.elim hq'
    | brk => exact False.elim hq'
    | cont => exact False.elim hq'
/-- C(e, ..) -/
def eXi (C : Nat) (ks : List Nat) (fs : SemA) : SemE := fun σ h => rb (fs σ h) fun xs h1 => match toDs xs h1 with
  | some (ds, h2) => if ds.length = ks.length then .ok (.d (.exc C (ks.zip ds).reverse)) h2 else .bad
  | none => .bad
theorem se_exi {C : Nat} {k : Nat} {ks : List Nat} (XI : XInit X ct C (k :: ks)) (hr : Room 2 X.A) (hk : (k :: ks).length ≤ 100) (hg : Gl X x) (hm : X.mg x = some (.ref (ct.ca C))) (ha : SA X ct W (e :: es) fs) (hdb : (x == ("__debug__" : Str)) = false := by decide)
    (he : starEach (e :: es) X.env = (false, eval e X.env) :: starEach es X.env := by rfl) (hpl : (backTo pos (starEach es X.env)).any (·.1) = false := by rfl) : SE X ct W (.Call (.Name x p) (e :: es) [] pos) (eXi C (k :: ks) fs) := by
  refine ⟨fun pins s σV H Q I ⟨m, ah, σ, hr0, lr, q⟩ => ?_⟩
  refine wpAny_Call_Name_kw (ld_glob I hg hm ?_ hdb)
  refine PySem.W.callWith_K (h₀ := X.base) I.ok.mod.kin XI.T.kC (thn (ha.run pos pins s σV H _ I ⟨m, ah, σ, hr0, lr, Po.bind (R := VlRs X.K ct) q⟩) fun us s1 ⟨vs, H1, I1, r, m1, h1, xs, hr1, e1, r1, p1⟩ => ⟨I1.kIn, ?_⟩) he hpl
  dsimp only at p1
  cases e2 : toDs xs h1 with
  | none => rw [e2] at p1; exact p1.elim
  | some z =>
    obtain ⟨ds, h2⟩ := z
    rw [e2] at p1
    dsimp only at p1
    split at p1
    · rename_i hl
      obtain ⟨hr2, ex2, t2⟩ := toDs_sound hr1 e2 r1
      refine run_exi XI hr (by rw [← hl, t2.length]) hk I1 r (fun z => nomatch z) fun _ a dx H' n nd q1 q2 q3 => ?_
      obtain ⟨hr3, e3⟩ := hr2.more (H' := H') fun b o hb => by
        rw [q3 b (ne_of_none hb n) (ne_of_none hb nd)]
        exact hb
      exact p1 m1 H' (.ref a) hr3 (ex2.trans e3) (.exd q1 (hr2.freshS n) q2 (hr2.freshS nd) ((drf_fields t2).mono e3.kp))
    · exact p1.elim
/-- C(), C's __init__ stores nothing -/
theorem se_exi0 {C : Nat} (XI : XInit X ct C []) (hr : Room 2 X.A) (hg : Gl X x) (hm : X.mg x = some (.ref (ct.ca C))) (hdb : (x == ("__debug__" : Str)) = false := by decide) : SE X ct W (.Call (.Name x p) [] [] pos) (eXb C) := by
  refine ⟨fun pins s σV H Q I ⟨m, ah, σ, hr0, lr, q⟩ => ?_⟩
  refine wpAny_Call_Name_kw (ld_glob I hg hm ?_ hdb)
  refine PySem.W.callWith_K0 I.kIn XI.T.kC ?_
  refine run_exi (us := []) (vs := []) XI hr rfl (by decide) I .nil (fun _ a n => ?_) fun z => absurd rfl z
  obtain ⟨hr2, e2, sa⟩ := hr0.pure (o := L2.exo a (ct.ca C) none) n
  exact q m _ (.ref a) hr2 e2 (.exb upd_same sa)
end
/-! ### an __init__ that calls its base's -/
section
variable {X : Cx} {e : Expr} {es : List Expr} {ta : TA} {x : Str} {p p1 p2 pos : Pos}
/-- B.__init__(self, ..), found at ValueError -/
theorem pe_binit {B : Addr} {pl : Sem Bool} (hg : Gl X x) (hm : X.mg x = some (.ref B)) (h1 : PySem.W.specialIn X.K (.ref B) "__getattribute__" = some (some (.builtin "type.__getattribute__"))) (h2 : PySem.W.readsIn X.K B (.type "type") = true)
    (h3 : PySem.W.findCls X.K (.ref B) (.type "type") "__init__" = some (.val (.builtin "ValueError.__init__"))) (ha : PA X (e :: es) ta)
    (hc : eval (.Call (.Attribute (.Name x p1) "__init__" p2) (e :: es) [] pos) X.env = (do
      let ov ← eval (.Name x p1) X.env
      standAt p2.atName
      let (f, first) ← holding [ov] (getMethod ov "__init__" pl)
      callWith pos f first (backTo pos (starEach (e :: es) X.env)) (backToKw pos (keywordEach [] X.env))) := by rfl)
    (hdb : (x == ("__debug__" : Str)) = false := by decide)
    (he : starEach (e :: es) X.env = (false, eval e X.env) :: starEach es X.env := by rfl) (hpl : (backTo pos (starEach es X.env)).any (·.1) = false := by rfl) :
    PE X (.Call (.Attribute (.Name x p1) "__init__" p2) (e :: es) [] pos) (tVeI X.K ta) := by
  refine ⟨fun pins s σ H Q I h => PySem.W.methodCall_KW (ld_glob I hg hm ?_ hdb) hc⟩
  refine PySem.W.method_cls I.kIn h1 (PySem.W.cls_value I.kIn h2 h3 (by decide +kernel) ?_)
  refine PyProof.Rows.callWith_method1 (thn (ha.run pos pins _ σ H _ (I.tok _) h) fun us s1 ⟨vs, H1, I1, r1, a, C, ws, ev, hl, T, ea, q⟩ => ?_) he hpl
  subst ev
  cases r1 with
  | @cons _ u0 _ ur ra rr =>
    obtain rfl : u0 = Value.ref a := ra
    exact oinit_ok T I1 ea (by rw [← Paired.length rr, sizeLine_eq]; omega) fun s' J => ⟨.non, H1, J, rfl, q⟩
end
section
variable {P : Program} {w : World} {K : PySem.W.Frag} {mg : Str → Option Value} {base : Heap} {CX : CXT} {ct : CT} {x qual slf : Str} {params : Arguments} {scope : Scope} {dvs : List V} {kws : List (Str × V)} {f : Addr} {fd : FuncData} {k : Nat} {p6 : Pos} {C : Nat} {e : Expr} {t : TE}
theorem xi0_ok (F : FunD K x qual params [.Expr e p6] scope dvs kws f fd) (S : FnScope [slf] [slf] scope) (hs : ∀ env : Env, swapsWith e none p6.line env = pure false) (hp : ∀ (cdv : Value) (A : Around) (outer : List Env) (s : Shared) (H : Hp) (E : XK), PE (cxOf CX P w K mg base [slf] qual scope f cdv A outer s H E) e t)
    (ht : ∀ (a : Addr) (H : Hp) (Q : VK), H a = some (L2.exo a (ct.ca C) none) → Q .non H → t (L2.start [slf] [V.ref a]) H Q) : FnOk P w K mg base CX (k + 1) f fd [slf] (spX ct C []) :=
  fun_ok F S (fun vs H Q E ⟨a, ws, h1, h2, _⟩ => by subst h1; simp [h2]) fun cdv A outer s H vs Q E hr ⟨a, ws, e1, e2, e3, e4, _⟩ => by
    match ws, e2, e1 with
    | [], _, e1 =>
      subst e1
      exact ⟨_, pss_one (ps_expr (hp cdv A outer s H E) (hs _)), ht a H _ e3 (e4 rfl)⟩
end
end Mi

/-! Mi29: facts of exception classes by tables; join -/
namespace Mi
open PySem PySem.Spec L2

def isxC (b : Nat) (xs : List Nat) (T : Nat) : List (Nat × Bool) := xs.map fun C => (C, xsub b C T)
def isxB (xs : List Nat) : List (Nat × Bool) := xs.map fun C => (C, true)
theorem lookup_map {xs : List Nat} {g : Nat → Bool} {C : Nat} {b : Bool} (h : (xs.map fun C => (C, g C)).lookup C = some b) : C ∈ xs ∧ g C = b := by
  induction xs with
  | nil => cases h
  | cons x xs ih =>
    by_cases e : C = x
    · subst e
      simp only [List.map_cons, List.lookup, beq_self_eq_true] at h
      cases h
      exact ⟨List.mem_cons_self, rfl⟩
    · have z : (C == x) = false := beq_eq_false_iff_ne.mpr e
      simp only [List.map_cons, List.lookup, z] at h
      exact ⟨List.mem_cons_of_mem _ (ih h).1, (ih h).2⟩
theorem xAll_ok {K : PySem.W.Frag} {ct : CT} {cn : List Str} {xs : List Nat} {C : Nat} (hca : ∀ C, ct.ca C = cga K cn C) (h : xAllB K cn xs = true) (hC : C ∈ xs) : ExcK K (ct.ca C) := by
  rw [hca]
  exact excKB_ok (List.all_eq_true.mp h C hC)
theorem isxC_ok {K : PySem.W.Frag} {ct : CT} {cn : List Str} {b : Nat} {xs ts : List Nat} {T : Nat} (hca : ∀ C, ct.ca C = cga K cn C) (h1 : xAllB K cn xs = true) (h2 : kitXB K cn b xs ts = true) (hT : T ∈ ts) (C : Nat) (r : Bool) (h : (isxC b xs T).lookup C = some r) :
    ExcK K (ct.ca C) ∧ PySem.W.kitOne K (.ref (ct.ca C)) (.ref (ct.ca T)) = some r := by
  obtain ⟨hm, e⟩ := lookup_map h
  subst e
  refine ⟨xAll_ok hca h1 hm, ?_⟩
  rw [hca, hca]
  exact kitA_ok (List.all_eq_true.mp (List.all_eq_true.mp h2 C hm) T hT)
theorem isxB_ok {K : PySem.W.Frag} {ct : CT} {cn : List Str} {xs : List Nat} {ts : List String} {T : String} (hca : ∀ C, ct.ca C = cga K cn C) (h1 : xAllB K cn xs = true) (h2 : kitYB K cn xs ts = true) (hT : T ∈ ts) (C : Nat) (r : Bool) (h : (isxB xs).lookup C = some r) :
    ExcK K (ct.ca C) ∧ PySem.W.kitOne K (.ref (ct.ca C)) (.type T) = some r := by
  obtain ⟨hm, e⟩ := lookup_map h
  subst e
  refine ⟨xAll_ok hca h1 hm, ?_⟩
  rw [hca]
  exact kitA_ok (List.all_eq_true.mp (List.all_eq_true.mp h2 C hm) T hT)
theorem bare_ok {K : PySem.W.Frag} {ct : CT} {cn : List Str} {xs : List Nat} {C : Nat} (hca : ∀ C, ct.ca C = cga K cn C) (h : bareAllB K cn xs = true) (hC : C ∈ xs) : PySem.W.excIn K (ct.ca C) He.veBase "ValueError.__new__" = true ∧ PySem.W.keepIn K (.ref (ct.ca C)) = true := by
  rw [hca]
  exact Bool.and_eq_true_iff.mp (List.all_eq_true.mp h C hC)
theorem binit_ok {K : PySem.W.Frag} {B : Addr} (h : binitB K B = true) : PySem.W.specialIn K (.ref B) "__getattribute__" = some (some (.builtin "type.__getattribute__")) ∧ PySem.W.readsIn K B (.type "type") = true ∧ PySem.W.findCls K (.ref B) (.type "type") "__init__" = some (.val (.builtin "ValueError.__init__")) := by
  unfold binitB at h
  obtain ⟨h1, h⟩ := Bool.and_eq_true_iff.mp h
  obtain ⟨h2, h3⟩ := Bool.and_eq_true_iff.mp h
  refine ⟨He.eqO_ok h1, h2, ?_⟩
  split at h3
  · rename_i n e
    rw [e, beq_iff_eq.mp h3]
  · cases h3

theorem ro2 {n : Nat} {A : Around} (r : Room (2 * n + 2) A) : Room 2 A := r.mono (by omega)

/-! ### x.join(y) -/
def strsOf : List D → Option (List Str)
  | [] => some []
  | .str a :: r => (strsOf r).map (a :: ·)
  | _ => none
def eJo (f g : SemE) : SemE := fun σ h => rb (f σ h) fun x h1 => match x with
  | .d (.str a) => rb (g σ h1) fun y h2 => match seqOf y h2 with
    | some xs => (match strsOf xs with
      | some ys => if (ys.map (·.length)).sum + ys.length * a.length ≤ 16777216 then .ok (.d (.str (Txt.join a ys))) h2 else .bad
      | none => .bad)
    | none => .bad
  | _ => .bad
theorem strsOf_drs {K : PySem.W.Frag} {ct : CT} {S : Addr → Prop} {H : Hp} : ∀ {xs : List D} {vs : List V} {ys : List Str}, strsOf xs = some ys → DRs K ct S H xs vs → vs = ys.map V.str
  | [], _, _, e, .nil => by cases e; rfl
  | x :: xs, _, ys, e, .cons r t => by
    cases x with
    | str a =>
      simp only [strsOf, Option.map_eq_some_iff] at e
      obtain ⟨zs, e1, e2⟩ := e
      subst e2
      cases r
      rw [List.map_cons, ← strsOf_drs e1 t]
    | _ => cases e
theorem se_join {X : Cx} {ct : CT} {W : WX} {o e : Expr} {f g : SemE} {apos pos : Pos} (ho : SE X ct W o f) (he : SE X ct W e g) (hs : starEach [e] X.env = [(false, eval e X.env)] := by rfl) (hbase : attributeBase o "join" X.env (eval o X.env) = eval o X.env := by rfl)
    (hline : (apos.endLine == pos.line) = true := by rfl) : SE X ct W (.Call (.Attribute o "join" apos) [e] [] pos) (eJo f g) :=
  PE.imp (pe_join ho he hs hbase hline) fun σV H Q ⟨m, ah, σ, hr, lr, p⟩ => ⟨m, ah, σ, hr, lr, (Po.bind (R := VlR X.K ct) p).imp fun v H1 ⟨m1, h1, x, hr1, e1, r1, p1⟩ => by
    dsimp only at p1
    split at p1
    · rename_i a
      cases r1
      refine ⟨⟨a, rfl⟩, m1, h1, σ, hr1, lr.ext e1, (Po.bind (R := VlR X.K ct) p1).imp fun u H2 ⟨m2, h2, y, hr2, e2, r2, p2⟩ => ?_⟩
      dsimp only at p2
      cases q : seqOf y h2 with
      | none => rw [q] at p2; exact p2.elim
      | some xs =>
        rw [q] at p2
        dsimp only at p2
        cases q2 : strsOf xs with
        | none => rw [q2] at p2; exact p2.elim
        | some ys =>
          rw [q2] at p2
          dsimp only at p2
          split at p2
          · rename_i hb
            obtain ⟨b, vs, rfl, h3, t⟩ := seq_of hr2 q r2
            rw [strsOf_drs q2 t] at h3
            exact ⟨a, b, ys, rfl, rfl, h3, hb, p2 m2 H2 _ hr2 (Ext.refl _ _ _) (.str _)⟩
          · exact p2.elim
    · exact p1.elim⟩
end Mi

/-! Mi30: the new meanings, applied -/
namespace Mi
open PySem PySem.Spec L2
section
variable {σ : Lo} {h : Hs} {f g : SemE} {fs : SemA}
@[simp] theorem ap_jo : eJo f g σ h = rb (f σ h) fun x h1 => match x with
  | .d (.str a) => rb (g σ h1) fun y h2 => match seqOf y h2 with
    | some xs => (match strsOf xs with
      | some ys => if (ys.map (·.length)).sum + ys.length * a.length ≤ 16777216 then .ok (.d (.str (Txt.join a ys))) h2 else .bad
      | none => .bad)
    | none => .bad
  | _ => .bad := rfl
@[simp] theorem ap_xf (ok : Nat → Bool) (n : Nat) : eXf ok n f σ h = rb (f σ h) fun x h1 => match x with
  | .d (.exc C fs) => if ok C = true then (match fs.lookup n with
    | some d => .ok (.d d) h1
    | none => .bad) else .bad
  | _ => .bad := rfl
@[simp] theorem ap_isx (l : List (Nat × Bool)) : eIsx l f σ h = rb (f σ h) fun x h1 => match x with
  | .d (.exc C _) => (match l.lookup C with
    | some b => .ok (.d (.bl b)) h1
    | none => .bad)
  | _ => .bad := rfl
@[simp] theorem ap_xb (C : Nat) : eXb C σ h = .ok (.d (.exc C [])) h := rfl
@[simp] theorem ap_xi (C : Nat) (ks : List Nat) : eXi C ks fs σ h = rb (fs σ h) fun xs h1 => match toDs xs h1 with
  | some (ds, h2) => if ds.length = ks.length then .ok (.d (.exc C (ks.zip ds).reverse)) h2 else .bad
  | none => .bad := rfl
end
end Mi

/-! Mi31: sorted of lists of data, < of data, sum, max of a list -/
namespace Mi
open PySem PySem.Spec L2

def ltD (x y : D) : Bool := PySem.W.dataLt x.pd y.pd
def leD (x y : D) : Bool := !ltD y x
def sortD (ds : List D) : List D := ds.mergeSort leD
/-- a tuple with an item at least -/
def tup1 : D → Bool
  | .tup (_ :: _) => true
  | _ => false
def plain0 : D → Bool
  | .bl _ => true
  | .int _ => true
  | .str _ => true
  | .lv _ => true
  | _ => false
def sortOk (ds : List D) : Bool := (ds.all shp && (ds.all fun a => ds.all fun b => PySem.W.alike a.pd b.pd)) && ((ds.all tup1 || ds.all plain0) && Nat.ble ds.length sizeLine)
def nSorted : OpN := fun xs h => match xs with
  | [x] => (match lstOf x h with
    | some ds => if sortOk ds = true then some (.d (.lv (sortD ds)), h) else none
    | none => none)
  | _ => none
theorem tup1_pd {d : D} (h : tup1 d = true) : ∃ x r, d.pd = .tuple (x :: r) := by
  unfold tup1 at h
  split at h
  · exact ⟨_, _, by rw [D.pd, D.pds]⟩
  · cases h
theorem plain0_pd {d : D} (h : plain0 d = true) : d.pd ≠ .none ∧ ∀ xs, d.pd ≠ .tuple xs := by
  unfold plain0 at h
  split at h
  · exact ⟨by simp [D.pd], by simp [D.pd]⟩
  · exact ⟨by simp [D.pd], by simp [D.pd]⟩
  · exact ⟨by simp [D.pd], by simp [D.pd]⟩
  · exact ⟨by simp [D.pd], by simp [D.pd]⟩
  · cases h
section
variable {X : Cx} {ct : CT}
open PySem.W in
theorem each_of {pins : List (Addr × Obj)} {σ : L2.St} {H : Hp} {s : Shared} {S : Addr → Prop} (I : Inv X pins σ H s) : ∀ {ds : List D} {vs : List V} {us : List Value}, DRs X.K ct S H ds vs → Vals vs us → (∀ d ∈ ds, shp d = true) →
    EachIs (fun (u : Value) (d : D) => ∃ v : V, RelV v u ∧ DR X.K ct S H d v) us ds ∧ EachIs (fun (u : Value) (d : D) => ∃ as, Reads s.heap u d.pd as) us ds
  | _, _, _, .nil, .nil, _ => ⟨.nil, .nil⟩
  | _, _, _, .cons r t, .cons q p, h => by
    obtain ⟨a, b⟩ := each_of I t p fun d hd => h d (List.mem_cons_of_mem _ hd)
    obtain ⟨as, rd⟩ := Dp.reads I _ _ _ (dp_of r (SeqAt.canLay_of_shaped (h _ List.mem_cons_self))) q
    exact ⟨.cons ⟨_, q, r⟩ a, .cons ⟨as, rd⟩ b⟩
open PySem.W in
theorem each_back {K : PySem.W.Frag} {S : Addr → Prop} {H : Hp} : ∀ {us : List Value} {ds : List D}, EachIs (fun (u : Value) (d : D) => ∃ v : V, RelV v u ∧ DR K ct S H d v) us ds → ∃ vs : List V, Vals vs us ∧ DRs K ct S H ds vs
  | _, _, .nil => ⟨[], .nil, .nil⟩
  | _, _, .cons ⟨v, q, r⟩ t => by
    obtain ⟨vs, a, b⟩ := each_back t
    exact ⟨v :: vs, .cons q a, .cons r b⟩
theorem sorted_sound {k : Nat} (hr : Room k X.A) : CallR X (.builtin "sorted") (rN X.K ct nSorted) := by
  intro pins s σ H vs us Q I rv ⟨m, ah, xs, h1, rs, p⟩
  unfold nSorted at p
  split at p
  · cases rs with
    | cons r t =>
      cases t
      split at p
      · rename_i ds e
        split at p
        · rename_i hk
          unfold sortOk at hk
          simp only [Bool.and_eq_true, Bool.or_eq_true, List.all_eq_true] at hk
          obtain ⟨⟨k1, k2⟩, k3, k4⟩ := hk
          obtain ⟨a, ws, rfl, ha, t2⟩ := lst_of h1 e r
          obtain ⟨u, rfl, ru⟩ := rv.one
          obtain rfl : u = Value.ref a := ru
          obtain ⟨its, rit, hl, hz⟩ := I.list (SqL.of (K := X.K) ha)
          obtain ⟨e1, e2⟩ := each_of I t2 rit k1
          have un := hr.un
          refine PySem.W.sorted_data (enc := D.pd) hl.isList e1 e2 (fun d hd d' hd' => ?_) ?_ (Nat.le_of_ble_eq_true k4) (fun d hd => ?_) fun out hlen ho => ?_
          · obtain ⟨x, hx, rfl⟩ := List.mem_map.mp hd
            obtain ⟨y, hy, rfl⟩ := List.mem_map.mp hd'
            exact k2 x hx y hy
          · rcases k3 with k3 | k3
            · exact .inl fun d hd => by
                obtain ⟨x, hx, rfl⟩ := List.mem_map.mp hd
                exact tup1_pd (k3 x hx)
            · exact .inr fun d hd => by
                obtain ⟨x, hx, rfl⟩ := List.mem_map.mp hd
                exact plain0_pd (k3 x hx)
          · have dp := SeqAt.depth_of_shaped (k1 d hd)
            omega
          · have eo : ds.mergeSort (PySem.W.dataLe false D.pd) = sortD ds := rfl
            rw [eo] at ho
            obtain ⟨vs', q1, q2⟩ := each_back ho
            obtain ⟨n, hn⟩ := PyProof.Rows.sortedAll_at s.heap its out.toArray
            have hd : s.heap.objs.size ≤ s.heap.objs.size + 1 := Nat.le_succ _
            have hnone := I.hok.fresh hd
            refine ⟨.ref (s.heap.objs.size + 1), upd H (s.heap.objs.size + 1) (.lst vs'), I.laid (t' := s.toks) (fun b o q => PyProof.Rows.sortedAll_old q) hd ⟨?_, out, n, q1, hn⟩, rfl, ?_⟩
            · rw [← q2.length, sortD, List.length_mergeSort]
              exact Nat.le_of_ble_eq_true k4
            · obtain ⟨hr2, ex2, sa⟩ := h1.pure (o := .lst vs') hnone
              exact p m _ _ hr2 ex2 (new_lv q2 ex2.kp sa)
        · exact p.elim
      · exact p.elim
  · exact p.elim
end
end Mi

/-! Mi32: < of data, sum, max of a list, a dict begun with one tuple key -/
namespace Mi
open PySem PySem.Spec L2

def oLtD : Op2 := fun x y h => match viewD x h, viewD y h with
  | some a, some b => if (shp a && shp b) && (PySem.W.alike a.pd b.pd && !isNon (.d a)) then some (.d (.bl (ltD a b)), h) else none
  | _, _ => none
section
variable {X : Cx} {ct : CT} {W : WX}
theorem isNon_pd {a : D} (h : (!isNon (.d a)) = true) : a.pd ≠ .none := by
  cases a <;> simp [D.pd, isNon] at h ⊢
theorem ltD_sound {k : Nat} (hr : Room k X.A) : OpR X (compareOp .Lt) (rOp X.K ct oLtD) := by
  intro pins s σ H x y u1 u2 Q I q1 q2 ⟨m, ah, a, b, h1, ra, rb, p⟩
  unfold oLtD at p
  split at p
  · rename_i d e va vb
    split at p
    · rename_i hc
      simp only [Bool.and_eq_true] at hc
      obtain ⟨⟨s1, s2⟩, s3, s4⟩ := hc
      obtain ⟨as, rd1⟩ := Dp.reads I _ _ _ (view_dp h1 va ra s1) q1
      obtain ⟨bs, rd2⟩ := Dp.reads I _ _ _ (view_dp h1 vb rb s2) q2
      have dp := SeqAt.depth_of_shaped s1
      have un := hr.un
      exact PySem.W.rcLt_alike _ _ X.A s _ _ as bs rd1 rd2 s3 (isNon_pd s4) (by omega) _ _ _ _ ⟨.bl _, H, I, rfl, p.same h1 (.bl _)⟩
    · exact p.elim
  · exact p.elim
end
def intsOf : List D → Option (List Int)
  | [] => some []
  | .int i :: r => (intsOf r).map (i :: ·)
  | _ => none
theorem intsOf_drs {K : PySem.W.Frag} {ct : CT} {S : Addr → Prop} {H : Hp} : ∀ {xs : List D} {vs : List V} {ys : List Int}, intsOf xs = some ys → DRs K ct S H xs vs → vs = ys.map V.int
  | [], _, _, e, .nil => by cases e; rfl
  | x :: xs, _, ys, e, .cons r t => by
    cases x with
    | int a =>
      simp only [intsOf, Option.map_eq_some_iff] at e
      obtain ⟨zs, e1, e2⟩ := e
      subst e2
      cases r
      rw [List.map_cons, ← intsOf_drs e1 t]
    | _ => cases e
@[simp] theorem intsOf_map : ∀ l : List Int, intsOf (l.map D.int) = some l
  | [] => rfl
  | x :: l => by rw [List.map_cons, intsOf, intsOf_map l]; rfl
def maxI : List Int → Int
  | [] => 0
  | [x] => x
  | x :: r => max x (maxI r)
theorem maxI_mem : ∀ {l : List Int}, l ≠ [] → maxI l ∈ l
  | [], h => absurd rfl h
  | [x], _ => by simp [maxI]
  | x :: y :: r, _ => by
    have ih := maxI_mem (l := y :: r) (by simp)
    show max x (maxI (y :: r)) ∈ _
    by_cases h : x ≤ maxI (y :: r)
    · rw [Int.max_eq_right h]; exact List.mem_cons_of_mem _ ih
    · rw [Int.max_eq_left (by omega)]; exact List.mem_cons_self
theorem maxI_le : ∀ {l : List Int} {y : Int}, y ∈ l → y ≤ maxI l
  | [x], y, h => by
    have := List.mem_singleton.mp h
    subst this
    exact Int.le_refl _
  | x :: z :: r, y, h => by
    show y ≤ max x (maxI (z :: r))
    rcases List.mem_cons.mp h with rfl | h
    · exact Int.le_max_left _ _
    · exact Int.le_trans (maxI_le h) (Int.le_max_right _ _)
def nSum : OpN := fun xs h => match xs with
  | [x] => (match lstOf x h with
    | some ds => (intsOf ds).map fun l => (.d (.int l.sum), h)
    | none => none)
  | _ => none
def nMaxL : OpN := fun xs h => match xs with
  | [x] => (match lstOf x h with
    | some (d :: ds) => (intsOf (d :: ds)).map fun l => (.d (.int (maxI l)), h)
    | _ => none)
  | _ => none
section
variable {X : Cx} {ct : CT} {W : WX}
theorem sum_sound (hc : X.calm = true) : CallR X (.builtin "sum") (rN X.K ct nSum) := CallR.imp (cr_sum hc) fun vs H Q ⟨m, ah, xs, h1, rs, p⟩ => by
  unfold nSum at p
  split at p
  · cases rs with
    | cons r t =>
      cases t
      split at p
      · rename_i ds e
        obtain ⟨a, ws, rfl, ha, t2⟩ := lst_of h1 e r
        cases q : intsOf ds with
        | none => rw [q] at p; exact p.elim
        | some l =>
          rw [q] at p
          rw [intsOf_drs q t2] at ha
          exact ⟨a, l, rfl, SqL.of ha, p.same h1 (.int _)⟩
      · exact p.elim
  · exact p.elim
theorem maxL_sound (hc : X.calm = true) : CallR X (.builtin "max") (rN X.K ct nMaxL) := CallR.imp (cr_max hc) fun vs H Q ⟨m, ah, xs, h1, rs, p⟩ => by
  unfold nMaxL at p
  split at p
  · cases rs with
    | cons r t =>
      cases t
      split at p
      · rename_i d ds e
        obtain ⟨a, ws, rfl, ha, t2⟩ := lst_of h1 e r
        cases q : intsOf (d :: ds) with
        | none => rw [q] at p; exact p.elim
        | some l =>
          rw [q] at p
          have e3 := intsOf_drs q t2
          rw [e3] at ha
          have hl : l ≠ [] := by
            intro z
            subst z
            have := t2.length
            rw [e3] at this
            simp at this
          refine ⟨a, l, rfl, SqL.of ha, List.length_pos_iff.mpr hl, fun m' h2 h3 => ?_⟩
          have e4 : m' = maxI l := Int.le_antisymm (maxI_le h2) (h3 _ (maxI_mem hl))
          rw [e4]
          exact p.same h1 (.int _)
      · exact p.elim
  · exact p.elim
end

/-! ### {k: v}, k a tuple -/
def eDt1 (f g : SemE) : SemE := fun σ h => rb (f σ (h ++ [.dt []])) fun x h1 => rb (g σ h1) fun y h2 => match toD y h2, x with
  | some (v, h3), .d key => (match keyT key with
    | some k => (match h3[h.length]? with
      | some (.dt []) => .ok (.r h.length) (h3.set h.length (.dt [(k, v)]))
      | _ => .bad)
    | none => .bad)
  | _, _ => .bad
section
variable {X : Cx} {ct : CT} {W : WX} {pos : Pos} {ke ve : Expr} {f g : SemE}
theorem se_dt1 (hu : X.A.units + 65 < cLine) (hk : SE X ct W ke f) (hv : SE X ct W ve g) : SE X ct W (.Dict [some ke] [ve] pos) (eDt1 f g) := by
  refine ⟨fun pins s σV H Q I ⟨m, ah, σ, hr, lr, p⟩ => ?_⟩
  have hn := I.hok.fresh (Nat.le_refl s.heap.objs.size)
  have I1 := I.laid (a := s.heap.objs.size) (o := .dT []) (h' := s.heap.push { cls := .type "dict", data := .dict #[] }) (t' := s.toks) (fun _ _ q => Heap.get?_push_of_some _ q) (Nat.le_refl _) (dt_empty s.heap I.big)
  obtain ⟨hr1, e1⟩ := hr.alloc hn (OR.dt (ct := ct) .nil)
  have at1 : (m ++ [s.heap.objs.size])[ah.length]? = some s.heap.objs.size := at_new hr
  have hl1 : ([some ke] : List (Option Expr)).length = [ve].length := rfl
  have ha1 : ([some ke] : List (Option Expr)).all (·.isSome) = true := rfl
  have hp := pairTrees_length [some ke] [ve] X.env pos ha1 hl1
  have hne : pairTrees [some ke] [ve] X.env pos ≠ [] := fun z => by rw [z] at hp; cases hp
  rw [arm_eval_Dict, zip_pairTrees [some ke] [ve] X.env pos ha1 hl1, dictDisplay_pairs _ hne (by rw [hp]; show 1 < 17; omega)]
  refine wpAny_bind (wpAny_standAt (wpAny_bind (wpAny_subDictH (knd := tupleKind (mixKind X.prog X.w)) (Q := fun d s' => wpAny (model X.prog X.w) X.A (pure (Value.ref d)) _ _ s') (show X.A.units < cLine by omega) (by rw [hp]; show 1 ≤ 15; omega)
    (pairTrees_cons_walk (thn (hk.run pins _ σV _ _ I1 ⟨_, _, σ, hr1, lr.ext e1, Po.bind (R := VlR X.K ct) (Po.ext p e1)⟩) fun u s1 ⟨y, H1, I2, ry, m2, h2, x, hr2, e2, r2, p2⟩ =>
      thn (hv.run pins s1 σV H1 _ I2 ⟨m2, h2, σ, hr2, (lr.ext e1).ext e2, Po.bind (R := VlR X.K ct) p2⟩) fun u2 s2 ⟨z, H2, I3, rz, m3, h3, w, hr3, e3, r3, p3⟩ => pairTrees_nil_walk ?_)))))
  dsimp only at p3
  cases q1 : toD w h3 with
  | none => rw [q1] at p3; exact p3.elim
  | some zz =>
    obtain ⟨d, h4⟩ := zz
    rw [q1] at p3
    cases x with
    | r _ => exact p3.elim
    | d key =>
    dsimp only at p3
    cases q2 : keyT key with
    | none => rw [q2] at p3; exact p3.elim
    | some k =>
    rw [q2] at p3
    dsimp only at p3
    split at p3
    · rename_i hk3
      obtain ⟨hr4, e4, r4⟩ := toD_sound hr3 q1 r3
      have at4 := (e2.trans (e3.trans e4)).at at1
      obtain ⟨ob, g1, g2⟩ := hr4.ob _ _ _ at4 hk3
      have e5 : ob = .dT [] := by
        cases g2 with
        | dt t => cases t; rfl
      subst e5
      unfold keyT at q2
      split at q2
      · rename_i ds
        cases r2 with
        | @tup b _ vs gk tt =>
          have ew := Mi.keys_of tt q2
          subst ew
          have gk2 := ((e3.trans e4).kp b _ gk.1 gk.2).1
          have gk3 := (e3.trans e4).kp b _ gk.1 gk.2
          obtain rfl : u = Value.ref b := ry
          obtain ⟨_, hd, xs, rel, dd⟩ := dt_of I3.hok g1
          cases rel
          refine ⟨[(k, b, u2)], ⟨rfl, rfl, L2.key_of I3.hok gk2, trivial⟩, dd, fun h' tk dd' hs => wpAny_pure ?_⟩
          obtain ⟨q, es, ep, hq, f2, f3, f4, f6, f5⟩ := dd'
          obtain ⟨hr6, e6⟩ := hr4.write at4 hk3 (by simp) (OR.dt (.cons (k := k) r4 .nil))
          refine ⟨.ref s.heap.objs.size, upd H2 s.heap.objs.size (.dT [(k, z)]), d_write (t' := tk) I3 (by rw [g1]; exact True.intro) hs ⟨q, hq⟩ ⟨by show 1 ≤ sizeLine; rw [sizeLine_eq]; omega, hd, [(k, b, u2)], .cons ⟨rfl, ?_, rz⟩ .nil, q, es, ep, hq, f2, f3, f4, f5⟩, rfl, ?_⟩
          · rw [upd_ne (ne_of gk2 g1 (fun z => nomatch z))]
            exact gk2
          · exact p3 m3 _ _ hr6 (e4.trans e6) ⟨_, at4, rfl⟩
      · cases q2
    · exact p3.elim
end
end Mi

/-! Mi33: applied meanings of Mi32 -/
namespace Mi
open PySem PySem.Spec L2
section
variable {σ : Lo} {h : Hs} {f g : SemE}
@[simp] theorem ap_dt1 : eDt1 f g σ h = rb (f σ (h ++ [.dt []])) fun x h1 => rb (g σ h1) fun y h2 => match toD y h2, x with
  | some (v, h3), .d key => (match keyT key with
    | some k => (match h3[h.length]? with
      | some (.dt []) => .ok (.r h.length) (h3.set h.length (.dt [(k, v)]))
      | _ => .bad)
    | none => .bad)
  | _, _ => .bad := rfl
@[simp] theorem n_sumL (l : List Int) (h : Hs) : nSum [.d (.lv (l.map D.int))] h = some (.d (.int l.sum), h) := by
  simp [nSum]
@[simp] theorem n_maxL (x : Int) (l : List Int) (h : Hs) : nMaxL [.d (.lv ((x :: l).map D.int))] h = some (.d (.int (maxI (x :: l))), h) := by
  simp only [nMaxL, lstOf_lv, List.map_cons, intsOf, intsOf_map, Option.map_some]
end
end Mi

/-! Mi34: lists added into a changeable list -/
namespace Mi
open PySem PySem.Spec L2

def oAddM : Op2 := fun x y h => match lstOf x h, lstOf y h with
  | some a, some b => if a.length + b.length ≤ sizeLine then some (.r h.length, h ++ [.lst (a ++ b)]) else none
  | _, _ => none
section
variable {X : Cx} {ct : CT} {W : WX}
theorem addM_sound : OpR X (binaryOp .Add) (rOp X.K ct oAddM) := by
  refine OpR.imp op_cat fun x y H Q ⟨m, ah, a, b, hr, ra, rb, p⟩ => ?_
  unfold oAddM at p
  split at p
  · rename_i xs ys e1 e2
    obtain ⟨l1, v1, rfl, h1, r1⟩ := lst_of hr e1 ra
    obtain ⟨l2, v2, rfl, h2, r2⟩ := lst_of hr e2 rb
    split at p
    · rename_i hc
      refine ⟨l1, l2, v1, v2, rfl, rfl, h1, h2, by rw [← r1.length, ← r2.length]; exact hc, fun a ha => ?_⟩
      obtain ⟨hr3, ex3⟩ := hr.alloc ha (OR.lst (r1.append r2))
      exact p _ _ _ hr3 ex3 ⟨a, at_new hr, rfl⟩
    · exact p.elim
  · exact p.elim
end
theorem ap_addM {x y : Vl} {h : Hs} {a b : List D} (e1 : lstOf x h = some a) (e2 : lstOf y h = some b) (hz : a.length + b.length ≤ sizeLine) : oAddM x y h = some (.r h.length, h ++ [.lst (a ++ b)]) := by
  unfold oAddM
  rw [e1, e2]
  dsimp only
  rw [if_pos hz]
end Mi

/-! Mi35: any datum in a tuple -/
namespace Mi
open PySem PySem.Spec L2

def oInU (neg : Bool) : Op2 := fun x y h => match viewD x h, y with
  | some a, .d (.tup ds) => if shp a && shp (.tup ds) then some (.d (.bl (if neg = true then !(ds.any fun z => PyData.eqv z.pd a.pd) else ds.any fun z => PyData.eqv z.pd a.pd)), h) else none
  | _, _ => none
section
variable {X : Cx} {ct : CT} {W : WX}
theorem inU_sound {k : Nat} (hr : Room k X.A) : OpR X (compareOp .In) (rOp X.K ct (oInU false)) := by
  intro pins s σ H x y u1 u2 Q I q1 q2 ⟨m, ah, a, b, h1, ra, rb, p⟩
  unfold oInU at p
  split at p
  · rename_i d ds va
    split at p
    · rename_i hc
      simp only [Bool.and_eq_true] at hc
      obtain ⟨s1, s2⟩ := hc
      obtain ⟨as, rd1⟩ := Dp.reads I _ _ _ (view_dp h1 va ra s1) q1
      obtain ⟨bs, rd2⟩ := Dp.reads I _ _ _ (view_dp (d := .tup ds) h1 rfl rb s2) q2
      rw [D.pd] at rd2
      unfold shp at s1 s2
      rw [D.pd] at s2
      have un := hr.un
      refine SeqAt.in_tuple_reads rd2 rd1 (SeqAt.canLay_of_shaped s2) (SeqAt.canLay_of_shaped s1) (by have dp := SeqAt.depth_of_shaped s1; omega) ⟨.bl _, H, I, rfl, ?_⟩
      rw [any_pds]
      exact p.same h1 (.bl _)
    · exact p.elim
  · exact p.elim
theorem notInU_sound {k : Nat} (hr : Room k X.A) : OpR X (compareOp .NotIn) (rOp X.K ct (oInU true)) := by
  intro pins s σ H x y u1 u2 Q I q1 q2 ⟨m, ah, a, b, h1, ra, rb, p⟩
  unfold oInU at p
  split at p
  · rename_i d ds va
    split at p
    · rename_i hc
      simp only [Bool.and_eq_true] at hc
      obtain ⟨s1, s2⟩ := hc
      obtain ⟨as, rd1⟩ := Dp.reads I _ _ _ (view_dp h1 va ra s1) q1
      obtain ⟨bs, rd2⟩ := Dp.reads I _ _ _ (view_dp (d := .tup ds) h1 rfl rb s2) q2
      rw [D.pd] at rd2
      unfold shp at s1 s2
      rw [D.pd] at s2
      have un := hr.un
      refine SeqAt.notIn_tuple_reads rd2 rd1 (SeqAt.canLay_of_shaped s2) (SeqAt.canLay_of_shaped s1) (by have dp := SeqAt.depth_of_shaped s1; omega) ⟨.bl _, H, I, rfl, ?_⟩
      rw [any_pds]
      exact p.same h1 (.bl _)
    · exact p.elim
  · exact p.elim
end
end Mi

namespace K28
open PySem PySem.Spec L2 Mi
/-! printed by gen.py: the defs, their meanings -/
def fl : List Str := ["numbers", "rows", "at", "what"]
def ct (K : PySem.W.Frag) : CT := ⟨fun C => He.ga K (cn.getD C ""), nmL fl, nmL_inj (by decide +kernel), none⟩
def ok_numbers (C : Nat) : Bool := C == 2
def ok_rows (C : Nat) : Bool := C == 3
def m_is_whole (call : CallT) : SemS := (sRt (eAn (eIsi (isiL ["int", "bool"]) (eVar 0)) (eNo (eIsi (isiL ["bool"]) (eVar 0)))))
@[simp] theorem am_is_whole (call : CallT) (σ : Lo) (h : Hs) : m_is_whole call σ h = (sRt (eAn (eIsi (isiL ["int", "bool"]) (eVar 0)) (eNo (eIsi (isiL ["bool"]) (eVar 0))))) σ h := rfl
def m_is_sequence (call : CallT) : SemS := (sRt (eOr (eIsi (isiL ["list"]) (eVar 0)) (eIsi (isiL ["tuple"]) (eVar 0))))
@[simp] theorem am_is_sequence (call : CallT) (σ : Lo) (h : Hs) : m_is_sequence call σ h = (sRt (eOr (eIsi (isiL ["list"]) (eVar 0)) (eIsi (isiL ["tuple"]) (eVar 0)))) σ h := rfl
def b_form_value_1 (call : CallT) : SemS := (sIf (tBl (eBin oLt (eVar 3) (eN nLen (aCons (eVar 1) aNil))))
      (sAs (eBin oAdd (eVar 2) (eBin oMulI (eVar 4) (eBin oIx (eVar 1) (eVar 3)))) (gNm 2))
      sNil)
@[simp] theorem ab_form_value_1 (call : CallT) (σ : Lo) (h : Hs) : b_form_value_1 call σ h = (sIf (tBl (eBin oLt (eVar 3) (eN nLen (aCons (eVar 1) aNil))))
      (sAs (eBin oAdd (eVar 2) (eBin oMulI (eVar 4) (eBin oIx (eVar 1) (eVar 3)))) (gNm 2))
      sNil) σ h := rfl
def m_form_value (call : CallT) : SemS := (sSq (sAs (eBin oIx (eVar 0) (eK (.int 0))) (gNm 2))
      (sSq (sFor (iEnB (aCons (eBin oIx (eVar 0) (eK (.int 1))) aNil)) (gTp 2 (gCo (gNm 3) (gCo (gNm 4) gNi)))
      (b_form_value_1 call))
      (sRt (eVar 2))))
@[simp] theorem am_form_value (call : CallT) (σ : Lo) (h : Hs) : m_form_value call σ h = (sSq (sAs (eBin oIx (eVar 0) (eK (.int 0))) (gNm 2))
      (sSq (sFor (iEnB (aCons (eBin oIx (eVar 0) (eK (.int 1))) aNil)) (gTp 2 (gCo (gNm 3) (gCo (gNm 4) gNi)))
      (b_form_value_1 call))
      (sRt (eVar 2)))) σ h := rfl
def b_check_system_1 (call : CallT) : SemS := (sSq (sIf (tOr' (tNo (tTru (eCl call 1 [] (aCons (eVar 3) aNil)))) (tOr' (tBl (eBin (oEqF true) (eN nLen (aCons (eVar 3) aNil)) (eK (.int 2)))) (tOr' (tNo (tTru (eCl call 0 [] (aCons (eBin oIx (eVar 3) (eK (.int 0))) aNil)))) (tNo (tTru (eCl call 1 [] (aCons (eBin oIx (eVar 3) (eK (.int 1))) aNil)))))))
      sBad
      sNil)
      (sSq (sIf (tTru (eLc false [4] (iSeq (eBin oIx (eVar 3) (eK (.int 1)))) (gNm 4) (tNo (tTru (eCl call 0 [] (aCons (eVar 4) aNil)))) (eVar 4)))
      sBad
      sNil)
      (sSq (sIf (tAn (tTru (eVar 1)) (tBl (eBin oNe (eN nLen (aCons (eBin oIx (eVar 3) (eK (.int 1))) aNil)) (eN nLen (aCons (eBin oIx (eBin oIx (eVar 1) (eK (.int 0))) (eK (.int 1))) aNil)))))
      sBad
      sNil)
      (sEx (eLm lmAppend (eVar 1) (aCons (eTup (aCons (eBin oIx (eVar 3) (eK (.int 0))) (aCons (eN nTuple (aCons (eBin oIx (eVar 3) (eK (.int 1))) aNil)) aNil))) aNil))))))
@[simp] theorem ab_check_system_1 (call : CallT) (σ : Lo) (h : Hs) : b_check_system_1 call σ h = (sSq (sIf (tOr' (tNo (tTru (eCl call 1 [] (aCons (eVar 3) aNil)))) (tOr' (tBl (eBin (oEqF true) (eN nLen (aCons (eVar 3) aNil)) (eK (.int 2)))) (tOr' (tNo (tTru (eCl call 0 [] (aCons (eBin oIx (eVar 3) (eK (.int 0))) aNil)))) (tNo (tTru (eCl call 1 [] (aCons (eBin oIx (eVar 3) (eK (.int 1))) aNil)))))))
      sBad
      sNil)
      (sSq (sIf (tTru (eLc false [4] (iSeq (eBin oIx (eVar 3) (eK (.int 1)))) (gNm 4) (tNo (tTru (eCl call 0 [] (aCons (eVar 4) aNil)))) (eVar 4)))
      sBad
      sNil)
      (sSq (sIf (tAn (tTru (eVar 1)) (tBl (eBin oNe (eN nLen (aCons (eBin oIx (eVar 3) (eK (.int 1))) aNil)) (eN nLen (aCons (eBin oIx (eBin oIx (eVar 1) (eK (.int 0))) (eK (.int 1))) aNil)))))
      sBad
      sNil)
      (sEx (eLm lmAppend (eVar 1) (aCons (eTup (aCons (eBin oIx (eVar 3) (eK (.int 0))) (aCons (eN nTuple (aCons (eBin oIx (eVar 3) (eK (.int 1))) aNil)) aNil))) aNil)))))) σ h := rfl
def m_check_system (call : CallT) : SemS := (sSq (sIf (tNo (tTru (eCl call 1 [] (aCons (eVar 0) aNil))))
      sBad
      sNil)
      (sSq (sAs (eLst aNil) (gNm 1))
      (sSq (sFor (iEnB (aCons (eVar 0) aNil)) (gTp 2 (gCo (gNm 2) (gCo (gNm 3) gNi)))
      (b_check_system_1 call))
      (sRt (eN nTuple (aCons (eVar 1) aNil))))))
@[simp] theorem am_check_system (call : CallT) (σ : Lo) (h : Hs) : m_check_system call σ h = (sSq (sIf (tNo (tTru (eCl call 1 [] (aCons (eVar 0) aNil))))
      sBad
      sNil)
      (sSq (sAs (eLst aNil) (gNm 1))
      (sSq (sFor (iEnB (aCons (eVar 0) aNil)) (gTp 2 (gCo (gNm 2) (gCo (gNm 3) gNi)))
      (b_check_system_1 call))
      (sRt (eN nTuple (aCons (eVar 1) aNil)))))) σ h := rfl
def m_variable_count (call : CallT) : SemS := (sRt (eIf (tTru (eVar 0)) (eN nLen (aCons (eBin oIx (eBin oIx (eVar 0) (eK (.int 0))) (eK (.int 1))) aNil)) (eK (.int 0))))
@[simp] theorem am_variable_count (call : CallT) (σ : Lo) (h : Hs) : m_variable_count call σ h = (sRt (eIf (tTru (eVar 0)) (eN nLen (aCons (eBin oIx (eBin oIx (eVar 0) (eK (.int 0))) (eK (.int 1))) aNil)) (eK (.int 0)))) σ h := rfl
def m_start_row_of (call : CallT) : SemS := (sRt (eN nTuple (aCons (eLc false [1] (iSeq (eVar 0)) (gNm 1) tYs (eBin oIx (eVar 1) (eK (.int 0)))) aNil)))
@[simp] theorem am_start_row_of (call : CallT) (σ : Lo) (h : Hs) : m_start_row_of call σ h = (sRt (eN nTuple (aCons (eLc false [1] (iSeq (eVar 0)) (gNm 1) tYs (eBin oIx (eVar 1) (eK (.int 0)))) aNil))) σ h := rfl
def m_is_zero_row (call : CallT) : SemS := (sRt (eBin oEq (eLc false [1] (iSeq (eVar 0)) (gNm 1) (tBl (eBin (oEqF true) (eVar 1) (eK (.int 0)))) (eVar 1)) (eLv aNil)))
@[simp] theorem am_is_zero_row (call : CallT) (σ : Lo) (h : Hs) : m_is_zero_row call σ h = (sRt (eBin oEq (eLc false [1] (iSeq (eVar 0)) (gNm 1) (tBl (eBin (oEqF true) (eVar 1) (eK (.int 0)))) (eVar 1)) (eLv aNil))) σ h := rfl
def b_figure_sums_1 (call : CallT) : SemS := (sSq (sAs (eLc false [4] (iSeq (eVar 0)) (gNm 4) (tBl (eBin (oEqF true) (eBin oIx (eBin oIx (eVar 4) (eK (.int 1))) (eVar 2)) (eK (.int 0)))) (eVar 4)) (gNm 3))
      (sIf (tTru (eVar 3))
      (sAs (eLc2 false [5, 6] [6] (iSeq (eVar 1)) (gNm 5) tYs (iSeq (eTup (aCons (eK (.int 0)) (aCons (eK (.int 1)) aNil)))) (gNm 6) tYs (eBin oAdd (eVar 5) (eTup (aCons (eVar 6) aNil)))) (gNm 1))
      (sAs (eLc false [5] (iSeq (eVar 1)) (gNm 5) tYs (eBin oAdd (eVar 5) (eTup (aCons (eK (.int 0)) aNil)))) (gNm 1))))
@[simp] theorem ab_figure_sums_1 (call : CallT) (σ : Lo) (h : Hs) : b_figure_sums_1 call σ h = (sSq (sAs (eLc false [4] (iSeq (eVar 0)) (gNm 4) (tBl (eBin (oEqF true) (eBin oIx (eBin oIx (eVar 4) (eK (.int 1))) (eVar 2)) (eK (.int 0)))) (eVar 4)) (gNm 3))
      (sIf (tTru (eVar 3))
      (sAs (eLc2 false [5, 6] [6] (iSeq (eVar 1)) (gNm 5) tYs (iSeq (eTup (aCons (eK (.int 0)) (aCons (eK (.int 1)) aNil)))) (gNm 6) tYs (eBin oAdd (eVar 5) (eTup (aCons (eVar 6) aNil)))) (gNm 1))
      (sAs (eLc false [5] (iSeq (eVar 1)) (gNm 5) tYs (eBin oAdd (eVar 5) (eTup (aCons (eK (.int 0)) aNil)))) (gNm 1)))) σ h := rfl
def m_figure_sums (call : CallT) : SemS := (sSq (sAs (eLv (aCons (eTup aNil) aNil)) (gNm 1))
      (sSq (sFor (iA1 (aCons (eCl call 4 [] (aCons (eVar 0) aNil)) aNil)) (gNm 2)
      (b_figure_sums_1 call))
      (sRt (eLc false [7] (iSeq (eVar 1)) (gNm 7) tYs (eTup (aCons (eVar 7) (aCons (eN nTuple (aCons (eLc false [4] (iSeq (eVar 0)) (gNm 4) tYs (eCl call 2 [] (aCons (eTup (aCons (eK (.int 0)) (aCons (eBin oIx (eVar 4) (eK (.int 1))) aNil))) (aCons (eVar 7) aNil)))) aNil)) aNil)))))))
@[simp] theorem am_figure_sums (call : CallT) (σ : Lo) (h : Hs) : m_figure_sums call σ h = (sSq (sAs (eLv (aCons (eTup aNil) aNil)) (gNm 1))
      (sSq (sFor (iA1 (aCons (eCl call 4 [] (aCons (eVar 0) aNil)) aNil)) (gNm 2)
      (b_figure_sums_1 call))
      (sRt (eLc false [7] (iSeq (eVar 1)) (gNm 7) tYs (eTup (aCons (eVar 7) (aCons (eN nTuple (aCons (eLc false [4] (iSeq (eVar 0)) (gNm 4) tYs (eCl call 2 [] (aCons (eTup (aCons (eK (.int 0)) (aCons (eBin oIx (eVar 4) (eK (.int 1))) aNil))) (aCons (eVar 7) aNil)))) aNil)) aNil))))))) σ h := rfl
def b_turned_row_1 (call : CallT) : SemS := (sSq (sAs (eN nDm (aCons (eBin oAdd (eVar 3) (eVar 4)) (aCons (eK (.int 2)) aNil))) (gTp 2 (gCo (gNm 5) (gCo (gNm 6) gNi))))
      (sSq (sIf (tBl (eBin (oEqF false) (eVar 6) (eK (.int 1))))
      (sRt (eK .non))
      sNil)
      (sEx (eLm lmAppend (eVar 2) (aCons (eVar 5) aNil)))))
@[simp] theorem ab_turned_row_1 (call : CallT) (σ : Lo) (h : Hs) : b_turned_row_1 call σ h = (sSq (sAs (eN nDm (aCons (eBin oAdd (eVar 3) (eVar 4)) (aCons (eK (.int 2)) aNil))) (gTp 2 (gCo (gNm 5) (gCo (gNm 6) gNi))))
      (sSq (sIf (tBl (eBin (oEqF false) (eVar 6) (eK (.int 1))))
      (sRt (eK .non))
      sNil)
      (sEx (eLm lmAppend (eVar 2) (aCons (eVar 5) aNil))))) σ h := rfl
def m_turned_row (call : CallT) : SemS := (sSq (sAs (eLst aNil) (gNm 2))
      (sSq (sFor (iZpB (aCons (eVar 0) (aCons (eVar 1) aNil))) (gTp 2 (gCo (gNm 3) (gCo (gNm 4) gNi)))
      (b_turned_row_1 call))
      (sRt (eN nTuple (aCons (eVar 2) aNil)))))
@[simp] theorem am_turned_row (call : CallT) (σ : Lo) (h : Hs) : m_turned_row call σ h = (sSq (sAs (eLst aNil) (gNm 2))
      (sSq (sFor (iZpB (aCons (eVar 0) (aCons (eVar 1) aNil))) (gTp 2 (gCo (gNm 3) (gCo (gNm 4) gNi)))
      (b_turned_row_1 call))
      (sRt (eN nTuple (aCons (eVar 2) aNil))))) σ h := rfl
def w_read_answer_1 (call : CallT) : SemT := (tBl (eBin oNotN (eBin oDGet (eVar 0) (eVar 1)) (eK .non)))
@[simp] theorem aw_read_answer_1 (call : CallT) (σ : Lo) (h : Hs) : w_read_answer_1 call σ h = (tBl (eBin oNotN (eBin oDGet (eVar 0) (eVar 1)) (eK .non))) σ h := rfl
def b_read_answer_2 (call : CallT) : SemS := (sSq (sAs (eBin oDGet (eVar 0) (eVar 1)) (gTp 2 (gCo (gNm 1) (gCo (gNm 4) gNi))))
      (sAs (eLc false [5, 6] (iZpB (aCons (eVar 3) (aCons (eVar 4) aNil))) (gTp 2 (gCo (gNm 5) (gCo (gNm 6) gNi))) tYs (eBin oAdd (eBin oMulI (eK (.int 2)) (eVar 5)) (eVar 6))) (gNm 3)))
@[simp] theorem ab_read_answer_2 (call : CallT) (σ : Lo) (h : Hs) : b_read_answer_2 call σ h = (sSq (sAs (eBin oDGet (eVar 0) (eVar 1)) (gTp 2 (gCo (gNm 1) (gCo (gNm 4) gNi))))
      (sAs (eLc false [5, 6] (iZpB (aCons (eVar 3) (aCons (eVar 4) aNil))) (gTp 2 (gCo (gNm 5) (gCo (gNm 6) gNi))) tYs (eBin oAdd (eBin oMulI (eK (.int 2)) (eVar 5)) (eVar 6))) (gNm 3))) σ h := rfl
def m_read_answer (call : CallT) : SemS := (sSq (sAs (eBin oMul (eLv (aCons (eK (.int 0)) aNil)) (eVar 2)) (gNm 3))
      (sSq (sWh (w_read_answer_1 call)
      (b_read_answer_2 call))
      (sRt (eN nTuple (aCons (eVar 3) aNil)))))
@[simp] theorem am_read_answer (call : CallT) (σ : Lo) (h : Hs) : m_read_answer call σ h = (sSq (sAs (eBin oMul (eLv (aCons (eK (.int 0)) aNil)) (eVar 2)) (gNm 3))
      (sSq (sWh (w_read_answer_1 call)
      (b_read_answer_2 call))
      (sRt (eN nTuple (aCons (eVar 3) aNil))))) σ h := rfl
def b_whole_1 (call : CallT) : SemS := (sSq (sAs (eCl call 8 [] (aCons (eVar 7) (aCons (eVar 9) aNil))) (gNm 10))
      (sIf (tAn (tBl (eBin oNotN (eVar 10) (eK .non))) (tBl (eBin (oDIn true) (eVar 10) (eVar 4))))
      (sSq (sDp (eVar 4) (eVar 10) (eTup (aCons (eVar 7) (aCons (eVar 8) aNil))))
      (sEx (eLm lmAppend (eVar 5) (aCons (eVar 10) aNil))))
      sNil))
@[simp] theorem ab_whole_1 (call : CallT) (σ : Lo) (h : Hs) : b_whole_1 call σ h = (sSq (sAs (eCl call 8 [] (aCons (eVar 7) (aCons (eVar 9) aNil))) (gNm 10))
      (sIf (tAn (tBl (eBin oNotN (eVar 10) (eK .non))) (tBl (eBin (oDIn true) (eVar 10) (eVar 4))))
      (sSq (sDp (eVar 4) (eVar 10) (eTup (aCons (eVar 7) (aCons (eVar 8) aNil))))
      (sEx (eLm lmAppend (eVar 5) (aCons (eVar 10) aNil))))
      sNil)) σ h := rfl
def w_whole_2 (call : CallT) : SemT := (tBl (eBin oLt (eVar 6) (eN nLen (aCons (eVar 5) aNil))))
@[simp] theorem aw_whole_2 (call : CallT) (σ : Lo) (h : Hs) : w_whole_2 call σ h = (tBl (eBin oLt (eVar 6) (eN nLen (aCons (eVar 5) aNil)))) σ h := rfl
def b_whole_3 (call : CallT) : SemS := (sSq (sAs (eBin oIx (eVar 5) (eVar 6)) (gNm 7))
      (sSq (sIf (tTru (eCl call 6 [] (aCons (eVar 7) aNil)))
      (sRt (eMk call 12 2 [] (aCons (eCl call 9 [] (aCons (eVar 4) (aCons (eVar 7) (aCons (eCl call 4 [] (aCons (eVar 1) aNil)) aNil)))) aNil)))
      sNil)
      (sSq (sFor (iSeq (eVar 2)) (gTp 2 (gCo (gNm 8) (gCo (gNm 9) gNi)))
      (b_whole_1 call))
      (sAs (eBin oAdd (eVar 6) (eK (.int 1))) (gNm 6)))))
@[simp] theorem ab_whole_3 (call : CallT) (σ : Lo) (h : Hs) : b_whole_3 call σ h = (sSq (sAs (eBin oIx (eVar 5) (eVar 6)) (gNm 7))
      (sSq (sIf (tTru (eCl call 6 [] (aCons (eVar 7) aNil)))
      (sRt (eMk call 12 2 [] (aCons (eCl call 9 [] (aCons (eVar 4) (aCons (eVar 7) (aCons (eCl call 4 [] (aCons (eVar 1) aNil)) aNil)))) aNil)))
      sNil)
      (sSq (sFor (iSeq (eVar 2)) (gTp 2 (gCo (gNm 8) (gCo (gNm 9) gNi)))
      (b_whole_1 call))
      (sAs (eBin oAdd (eVar 6) (eK (.int 1))) (gNm 6))))) σ h := rfl
def m_whole (call : CallT) : SemS := (sSq (sAs (eCl call 3 [] (aCons (eVar 0) aNil)) (gNm 1))
      (sSq (sAs (eCl call 7 [] (aCons (eVar 1) aNil)) (gNm 2))
      (sSq (sAs (eCl call 5 [] (aCons (eVar 1) aNil)) (gNm 3))
      (sSq (sAs (eDt1 (eVar 3) (eK .non)) (gNm 4))
      (sSq (sAs (eLst (aCons (eVar 3) aNil)) (gNm 5))
      (sSq (sAs (eK (.int 0)) (gNm 6))
      (sSq (sWh (w_whole_2 call)
      (b_whole_3 call))
      (sRt (eMk call 14 3 [] (aCons (eN nTuple (aCons (eN nSorted (aCons (eVar 5) aNil)) aNil)) aNil))))))))))
@[simp] theorem am_whole (call : CallT) (σ : Lo) (h : Hs) : m_whole call σ h = (sSq (sAs (eCl call 3 [] (aCons (eVar 0) aNil)) (gNm 1))
      (sSq (sAs (eCl call 7 [] (aCons (eVar 1) aNil)) (gNm 2))
      (sSq (sAs (eCl call 5 [] (aCons (eVar 1) aNil)) (gNm 3))
      (sSq (sAs (eDt1 (eVar 3) (eK .non)) (gNm 4))
      (sSq (sAs (eLst (aCons (eVar 3) aNil)) (gNm 5))
      (sSq (sAs (eK (.int 0)) (gNm 6))
      (sSq (sWh (w_whole_2 call)
      (b_whole_3 call))
      (sRt (eMk call 14 3 [] (aCons (eN nTuple (aCons (eN nSorted (aCons (eVar 5) aNil)) aNil)) aNil)))))))))) σ h := rfl
def b_judge_carries_1 (call : CallT) : SemS := (sSq (sIf (tOr' (tNo (tTru (eCl call 1 [] (aCons (eVar 4) aNil)))) (tBl (eBin oNe (eN nLen (aCons (eVar 4) aNil)) (eN nLen (aCons (eVar 0) aNil)))))
      (sRt (eTup (aCons (eK (.str "row")) (aCons (eVar 3) aNil))))
      sNil)
      (sSq (sIf (tTru (eLc false [9] (iSeq (eVar 4)) (gNm 9) (tNo (tTru (eCl call 0 [] (aCons (eVar 9) aNil)))) (eVar 9)))
      (sRt (eTup (aCons (eK (.str "row")) (aCons (eVar 3) aNil))))
      sNil)
      (sDp (eVar 2) (eN nTuple (aCons (eVar 4) aNil)) (eK (.bl true)))))
@[simp] theorem ab_judge_carries_1 (call : CallT) (σ : Lo) (h : Hs) : b_judge_carries_1 call σ h = (sSq (sIf (tOr' (tNo (tTru (eCl call 1 [] (aCons (eVar 4) aNil)))) (tBl (eBin oNe (eN nLen (aCons (eVar 4) aNil)) (eN nLen (aCons (eVar 0) aNil)))))
      (sRt (eTup (aCons (eK (.str "row")) (aCons (eVar 3) aNil))))
      sNil)
      (sSq (sIf (tTru (eLc false [9] (iSeq (eVar 4)) (gNm 9) (tNo (tTru (eCl call 0 [] (aCons (eVar 9) aNil)))) (eVar 9)))
      (sRt (eTup (aCons (eK (.str "row")) (aCons (eVar 3) aNil))))
      sNil)
      (sDp (eVar 2) (eN nTuple (aCons (eVar 4) aNil)) (eK (.bl true))))) σ h := rfl
def b_judge_carries_2 (call : CallT) : SemS := (sIf (tTru (eCl call 6 [] (aCons (eVar 4) aNil)))
      (sRt (eTup (aCons (eK (.str "zero")) (aCons (eVar 3) aNil))))
      sNil)
@[simp] theorem ab_judge_carries_2 (call : CallT) (σ : Lo) (h : Hs) : b_judge_carries_2 call σ h = (sIf (tTru (eCl call 6 [] (aCons (eVar 4) aNil)))
      (sRt (eTup (aCons (eK (.str "zero")) (aCons (eVar 3) aNil))))
      sNil) σ h := rfl
def b_judge_carries_3 (call : CallT) : SemS := (sSq (sAs (eCl call 8 [] (aCons (eVar 4) (aCons (eVar 7) aNil))) (gNm 8))
      (sIf (tAn (tBl (eBin oNotN (eVar 8) (eK .non))) (tBl (eBin (oDIn true) (eVar 8) (eVar 2))))
      (sRt (eTup (aCons (eK (.str "open")) (aCons (eVar 3) (aCons (eVar 6) aNil)))))
      sNil))
@[simp] theorem ab_judge_carries_3 (call : CallT) (σ : Lo) (h : Hs) : b_judge_carries_3 call σ h = (sSq (sAs (eCl call 8 [] (aCons (eVar 4) (aCons (eVar 7) aNil))) (gNm 8))
      (sIf (tAn (tBl (eBin oNotN (eVar 8) (eK .non))) (tBl (eBin (oDIn true) (eVar 8) (eVar 2))))
      (sRt (eTup (aCons (eK (.str "open")) (aCons (eVar 3) (aCons (eVar 6) aNil)))))
      sNil)) σ h := rfl
def b_judge_carries_4 (call : CallT) : SemS := (sFor (iSeq (eVar 5)) (gTp 2 (gCo (gNm 6) (gCo (gNm 7) gNi)))
      (b_judge_carries_3 call))
@[simp] theorem ab_judge_carries_4 (call : CallT) (σ : Lo) (h : Hs) : b_judge_carries_4 call σ h = (sFor (iSeq (eVar 5)) (gTp 2 (gCo (gNm 6) (gCo (gNm 7) gNi)))
      (b_judge_carries_3 call)) σ h := rfl
def m_judge_carries (call : CallT) : SemS := (sSq (sIf (tNo (tTru (eCl call 1 [] (aCons (eFd (ok_rows) 1 (eVar 1)) aNil))))
      (sRt (eTup (aCons (eK (.str "rows")) aNil)))
      sNil)
      (sSq (sAs eDt0 (gNm 2))
      (sSq (sFor (iEnB (aCons (eFd (ok_rows) 1 (eVar 1)) aNil)) (gTp 2 (gCo (gNm 3) (gCo (gNm 4) gNi)))
      (b_judge_carries_1 call))
      (sSq (sIf (tBl (eBin (oDIn true) (eCl call 5 [] (aCons (eVar 0) aNil)) (eVar 2)))
      (sRt (eTup (aCons (eK (.str "start")) aNil)))
      sNil)
      (sSq (sFor (iEnB (aCons (eFd (ok_rows) 1 (eVar 1)) aNil)) (gTp 2 (gCo (gNm 3) (gCo (gNm 4) gNi)))
      (b_judge_carries_2 call))
      (sSq (sAs (eCl call 7 [] (aCons (eVar 0) aNil)) (gNm 5))
      (sSq (sFor (iEnB (aCons (eFd (ok_rows) 1 (eVar 1)) aNil)) (gTp 2 (gCo (gNm 3) (gCo (gNm 4) gNi)))
      (b_judge_carries_4 call))
      (sRt (eK .non)))))))))
@[simp] theorem am_judge_carries (call : CallT) (σ : Lo) (h : Hs) : m_judge_carries call σ h = (sSq (sIf (tNo (tTru (eCl call 1 [] (aCons (eFd (ok_rows) 1 (eVar 1)) aNil))))
      (sRt (eTup (aCons (eK (.str "rows")) aNil)))
      sNil)
      (sSq (sAs eDt0 (gNm 2))
      (sSq (sFor (iEnB (aCons (eFd (ok_rows) 1 (eVar 1)) aNil)) (gTp 2 (gCo (gNm 3) (gCo (gNm 4) gNi)))
      (b_judge_carries_1 call))
      (sSq (sIf (tBl (eBin (oDIn true) (eCl call 5 [] (aCons (eVar 0) aNil)) (eVar 2)))
      (sRt (eTup (aCons (eK (.str "start")) aNil)))
      sNil)
      (sSq (sFor (iEnB (aCons (eFd (ok_rows) 1 (eVar 1)) aNil)) (gTp 2 (gCo (gNm 3) (gCo (gNm 4) gNi)))
      (b_judge_carries_2 call))
      (sSq (sAs (eCl call 7 [] (aCons (eVar 0) aNil)) (gNm 5))
      (sSq (sFor (iEnB (aCons (eFd (ok_rows) 1 (eVar 1)) aNil)) (gTp 2 (gCo (gNm 3) (gCo (gNm 4) gNi)))
      (b_judge_carries_4 call))
      (sRt (eK .non))))))))) σ h := rfl
def m_Answer__init_ (call : CallT) : SemS := (sFd ok_numbers 0 (eVar 0) (eVar 1))
@[simp] theorem am_Answer__init_ (call : CallT) (σ : Lo) (h : Hs) : m_Answer__init_ call σ h = (sFd ok_numbers 0 (eVar 0) (eVar 1)) σ h := rfl
def m_Answer__eq_ (call : CallT) : SemS := (sRt (eAn (eIsi (isiT isOk isBt 2) (eVar 1)) (eBin oEq (eFd (ok_numbers) 0 (eVar 0)) (eFd (ok_numbers) 0 (eVar 1)))))
@[simp] theorem am_Answer__eq_ (call : CallT) (σ : Lo) (h : Hs) : m_Answer__eq_ call σ h = (sRt (eAn (eIsi (isiT isOk isBt 2) (eVar 1)) (eBin oEq (eFd (ok_numbers) 0 (eVar 0)) (eFd (ok_numbers) 0 (eVar 1))))) σ h := rfl
def m_Carries__init_ (call : CallT) : SemS := (sFd ok_rows 1 (eVar 0) (eVar 1))
@[simp] theorem am_Carries__init_ (call : CallT) (σ : Lo) (h : Hs) : m_Carries__init_ call σ h = (sFd ok_rows 1 (eVar 0) (eVar 1)) σ h := rfl
def m_Carries__eq_ (call : CallT) : SemS := (sRt (eAn (eIsi (isiT isOk isBt 3) (eVar 1)) (eBin oEq (eFd (ok_rows) 1 (eVar 0)) (eFd (ok_rows) 1 (eVar 1)))))
@[simp] theorem am_Carries__eq_ (call : CallT) (σ : Lo) (h : Hs) : m_Carries__eq_ call σ h = (sRt (eAn (eIsi (isiT isOk isBt 3) (eVar 1)) (eBin oEq (eFd (ok_rows) 1 (eVar 0)) (eFd (ok_rows) 1 (eVar 1))))) σ h := rfl
def m__law_source (call : CallT) : SemS := (sRt (eLst (aCons (eN nListV (aCons (eVar 0) aNil)) (aCons (eK (.int 0)) (aCons (eK (.int 0)) (aCons (eK (.int 1)) aNil))))))
@[simp] theorem am__law_source (call : CallT) (σ : Lo) (h : Hs) : m__law_source call σ h = (sRt (eLst (aCons (eN nListV (aCons (eVar 0) aNil)) (aCons (eK (.int 0)) (aCons (eK (.int 0)) (aCons (eK (.int 1)) aNil)))))) σ h := rfl
def m__law_take (call : CallT) : SemS := (sSq (sIf (tBl (eBin (oEqF false) (eBin oIx (eVar 0) (eK (.int 2))) (eK (.int 0))))
      (sSq (sAs (eK (.int 0)) (gNm 2))
      (sSq (sIf (tBl (eBin oLt (eBin oIx (eVar 0) (eK (.int 1))) (eN nLen (aCons (eBin oIx (eVar 0) (eK (.int 0))) aNil))))
      (sAs (eBin oIx (eBin oIx (eVar 0) (eK (.int 0))) (eBin oIx (eVar 0) (eK (.int 1)))) (gNm 2))
      sNil)
      (sSq (sAs (eBin oAdd (eBin oIx (eVar 0) (eK (.int 1))) (eK (.int 1))) (gSt (eVar 0) (eK (.int 1))))
      (sIf (tBl (eBin oGe (eVar 2) (eBin oPow (eK (.int 10)) (eK (.int 18)))))
      (sAs (eVar 2) (gSt (eVar 0) (eK (.int 2))))
      (sSq (sAs (eBin oMod (eN nInt (aCons (eBin oAdd (eBin oAdd (eBin oAdd (eBin oMulI (eBin oIx (eVar 0) (eK (.int 3))) (eK (.int 69621))) (eBin oMulI (eBin oMod (eN nInt (aCons (eVar 2) aNil)) (eK (.int 2147483629))) (eK (.int 48271)))) (eBin oMulI (eBin oIx (eVar 0) (eK (.int 1))) (eK (.int 7919)))) (eK (.int 1))) aNil)) (eK (.int 2147483647))) (gNm 3))
      (sSq (sAs (eBin oMod (eN nInt (aCons (eBin oAdd (eBin oAdd (eBin oMulI (eVar 3) (eVar 3)) (eBin oMulI (eBin oIx (eVar 0) (eK (.int 1))) (eK (.int 104729)))) (eK (.int 13))) aNil)) (eK (.int 2147483629))) (gNm 3))
      (sSq (sAs (eVar 3) (gSt (eVar 0) (eK (.int 3))))
      (sRt (eBin oMod (eBin oDiv (eVar 3) (eK (.int 7))) (eVar 1))))))))))
      sNil)
      (sSq (sAs (eBin oMod (eN nInt (aCons (eBin oIx (eVar 0) (eK (.int 2))) aNil)) (eVar 1)) (gNm 4))
      (sSq (sAs (eBin oDiv (eBin oIx (eVar 0) (eK (.int 2))) (eVar 1)) (gSt (eVar 0) (eK (.int 2))))
      (sRt (eVar 4)))))
@[simp] theorem am__law_take (call : CallT) (σ : Lo) (h : Hs) : m__law_take call σ h = (sSq (sIf (tBl (eBin (oEqF false) (eBin oIx (eVar 0) (eK (.int 2))) (eK (.int 0))))
      (sSq (sAs (eK (.int 0)) (gNm 2))
      (sSq (sIf (tBl (eBin oLt (eBin oIx (eVar 0) (eK (.int 1))) (eN nLen (aCons (eBin oIx (eVar 0) (eK (.int 0))) aNil))))
      (sAs (eBin oIx (eBin oIx (eVar 0) (eK (.int 0))) (eBin oIx (eVar 0) (eK (.int 1)))) (gNm 2))
      sNil)
      (sSq (sAs (eBin oAdd (eBin oIx (eVar 0) (eK (.int 1))) (eK (.int 1))) (gSt (eVar 0) (eK (.int 1))))
      (sIf (tBl (eBin oGe (eVar 2) (eBin oPow (eK (.int 10)) (eK (.int 18)))))
      (sAs (eVar 2) (gSt (eVar 0) (eK (.int 2))))
      (sSq (sAs (eBin oMod (eN nInt (aCons (eBin oAdd (eBin oAdd (eBin oAdd (eBin oMulI (eBin oIx (eVar 0) (eK (.int 3))) (eK (.int 69621))) (eBin oMulI (eBin oMod (eN nInt (aCons (eVar 2) aNil)) (eK (.int 2147483629))) (eK (.int 48271)))) (eBin oMulI (eBin oIx (eVar 0) (eK (.int 1))) (eK (.int 7919)))) (eK (.int 1))) aNil)) (eK (.int 2147483647))) (gNm 3))
      (sSq (sAs (eBin oMod (eN nInt (aCons (eBin oAdd (eBin oAdd (eBin oMulI (eVar 3) (eVar 3)) (eBin oMulI (eBin oIx (eVar 0) (eK (.int 1))) (eK (.int 104729)))) (eK (.int 13))) aNil)) (eK (.int 2147483629))) (gNm 3))
      (sSq (sAs (eVar 3) (gSt (eVar 0) (eK (.int 3))))
      (sRt (eBin oMod (eBin oDiv (eVar 3) (eK (.int 7))) (eVar 1))))))))))
      sNil)
      (sSq (sAs (eBin oMod (eN nInt (aCons (eBin oIx (eVar 0) (eK (.int 2))) aNil)) (eVar 1)) (gNm 4))
      (sSq (sAs (eBin oDiv (eBin oIx (eVar 0) (eK (.int 2))) (eVar 1)) (gSt (eVar 0) (eK (.int 2))))
      (sRt (eVar 4))))) σ h := rfl
def b__law_value_1 (call : CallT) : SemS := (sAs (eBin oAdd (eVar 2) (eBin oMulI (eVar 3) (eVar 4))) (gNm 2))
@[simp] theorem ab__law_value_1 (call : CallT) (σ : Lo) (h : Hs) : b__law_value_1 call σ h = (sAs (eBin oAdd (eVar 2) (eBin oMulI (eVar 3) (eVar 4))) (gNm 2)) σ h := rfl
def m__law_value (call : CallT) : SemS := (sSq (sAs (eBin oIx (eVar 0) (eK (.int 0))) (gNm 2))
      (sSq (sFor (iZpB (aCons (eBin oIx (eVar 0) (eK (.int 1))) (aCons (eVar 1) aNil))) (gTp 2 (gCo (gNm 3) (gCo (gNm 4) gNi)))
      (b__law_value_1 call))
      (sRt (eVar 2))))
@[simp] theorem am__law_value (call : CallT) (σ : Lo) (h : Hs) : m__law_value call σ h = (sSq (sAs (eBin oIx (eVar 0) (eK (.int 0))) (gNm 2))
      (sSq (sFor (iZpB (aCons (eBin oIx (eVar 0) (eK (.int 1))) (aCons (eVar 1) aNil))) (gTp 2 (gCo (gNm 3) (gCo (gNm 4) gNi)))
      (b__law_value_1 call))
      (sRt (eVar 2)))) σ h := rfl
def b__law_figures_1 (call : CallT) : SemS := (sSq (sIf (tBl (eBin (oEqF false) (eVar 0) (eK (.int 0))))
      sBrk
      sNil)
      (sSq (sEx (eLm lmAppend (eVar 1) (aCons (eBin oMod (eN nInt (aCons (eVar 0) aNil)) (eK (.int 2))) aNil)))
      (sAs (eBin oDiv (eVar 0) (eK (.int 2))) (gNm 0))))
@[simp] theorem ab__law_figures_1 (call : CallT) (σ : Lo) (h : Hs) : b__law_figures_1 call σ h = (sSq (sIf (tBl (eBin (oEqF false) (eVar 0) (eK (.int 0))))
      sBrk
      sNil)
      (sSq (sEx (eLm lmAppend (eVar 1) (aCons (eBin oMod (eN nInt (aCons (eVar 0) aNil)) (eK (.int 2))) aNil)))
      (sAs (eBin oDiv (eVar 0) (eK (.int 2))) (gNm 0)))) σ h := rfl
def m__law_figures (call : CallT) : SemS := (sSq (sAs (eLst aNil) (gNm 1))
      (sSq (sFor (iA1 (aCons (eK (.int 400)) aNil)) (gNm 2)
      (b__law_figures_1 call))
      (sRt (eVar 1))))
@[simp] theorem am__law_figures (call : CallT) (σ : Lo) (h : Hs) : m__law_figures call σ h = (sSq (sAs (eLst aNil) (gNm 1))
      (sSq (sFor (iA1 (aCons (eK (.int 400)) aNil)) (gNm 2)
      (b__law_figures_1 call))
      (sRt (eVar 1)))) σ h := rfl
def m__law_used (call : CallT) : SemS := (sSq (sIf (tBl (eBin oEq (eVar 0) (eLv aNil)))
      (sRt (eLv aNil))
      sNil)
      (sRt (eLc false [1] (iA1 (aCons (eN nLen (aCons (eBin oIx (eBin oIx (eVar 0) (eK (.int 0))) (eK (.int 1))) aNil)) aNil)) (gNm 1) tYs (eBin oNe (eLc false [2] (iSeq (eVar 0)) (gNm 2) (tBl (eBin (oEqF true) (eBin oIx (eBin oIx (eVar 2) (eK (.int 1))) (eVar 1)) (eK (.int 0)))) (eK (.int 1))) (eLv aNil)))))
@[simp] theorem am__law_used (call : CallT) (σ : Lo) (h : Hs) : m__law_used call σ h = (sSq (sIf (tBl (eBin oEq (eVar 0) (eLv aNil)))
      (sRt (eLv aNil))
      sNil)
      (sRt (eLc false [1] (iA1 (aCons (eN nLen (aCons (eBin oIx (eBin oIx (eVar 0) (eK (.int 0))) (eK (.int 1))) aNil)) aNil)) (gNm 1) tYs (eBin oNe (eLc false [2] (iSeq (eVar 0)) (gNm 2) (tBl (eBin (oEqF true) (eBin oIx (eBin oIx (eVar 2) (eK (.int 1))) (eVar 1)) (eK (.int 0)))) (eK (.int 1))) (eLv aNil))))) σ h := rfl
def b__law_figure_rows_1 (call : CallT) : SemS := (sAs (eBin oAdd (eVar 3) (eLc false [5] (iSeq (eIf (tTru (eVar 2)) (eTup (aCons (eK (.int 0)) (aCons (eK (.int 1)) aNil))) (eTup (aCons (eK (.int 0)) aNil)))) (gNm 5) tYs (eBin oAdd (eVar 4) (eTup (aCons (eVar 5) aNil))))) (gNm 3))
@[simp] theorem ab__law_figure_rows_1 (call : CallT) (σ : Lo) (h : Hs) : b__law_figure_rows_1 call σ h = (sAs (eBin oAdd (eVar 3) (eLc false [5] (iSeq (eIf (tTru (eVar 2)) (eTup (aCons (eK (.int 0)) (aCons (eK (.int 1)) aNil))) (eTup (aCons (eK (.int 0)) aNil)))) (gNm 5) tYs (eBin oAdd (eVar 4) (eTup (aCons (eVar 5) aNil))))) (gNm 3)) σ h := rfl
def b__law_figure_rows_2 (call : CallT) : SemS := (sSq (sAs (eLv aNil) (gNm 3))
      (sSq (sFor (iSeq (eVar 1)) (gNm 4)
      (b__law_figure_rows_1 call))
      (sAs (eVar 3) (gNm 1))))
@[simp] theorem ab__law_figure_rows_2 (call : CallT) (σ : Lo) (h : Hs) : b__law_figure_rows_2 call σ h = (sSq (sAs (eLv aNil) (gNm 3))
      (sSq (sFor (iSeq (eVar 1)) (gNm 4)
      (b__law_figure_rows_1 call))
      (sAs (eVar 3) (gNm 1)))) σ h := rfl
def m__law_figure_rows (call : CallT) : SemS := (sSq (sAs (eLv (aCons (eTup aNil) aNil)) (gNm 1))
      (sSq (sFor (iSeq (eCl call 20 [] (aCons (eVar 0) aNil))) (gNm 2)
      (b__law_figure_rows_2 call))
      (sRt (eVar 1))))
@[simp] theorem am__law_figure_rows (call : CallT) (σ : Lo) (h : Hs) : m__law_figure_rows call σ h = (sSq (sAs (eLv (aCons (eTup aNil) aNil)) (gNm 1))
      (sSq (sFor (iSeq (eCl call 20 [] (aCons (eVar 0) aNil))) (gNm 2)
      (b__law_figure_rows_2 call))
      (sRt (eVar 1)))) σ h := rfl
def b__law_next_1 (call : CallT) : SemS := (sSq (sAs (eCl call 18 [] (aCons (eTup (aCons (eVar 4) (aCons (eBin oIx (eVar 5) (eK (.int 1))) aNil))) (aCons (eVar 2) aNil))) (gNm 6))
      (sSq (sIf (tBl (eBin (oEqF true) (eBin oMod (eN nInt (aCons (eVar 6) aNil)) (eK (.int 2))) (eK (.int 0))))
      (sRt (eK .non))
      sNil)
      (sEx (eLm lmAppend (eVar 3) (aCons (eBin oDiv (eVar 6) (eK (.int 2))) aNil)))))
@[simp] theorem ab__law_next_1 (call : CallT) (σ : Lo) (h : Hs) : b__law_next_1 call σ h = (sSq (sAs (eCl call 18 [] (aCons (eTup (aCons (eVar 4) (aCons (eBin oIx (eVar 5) (eK (.int 1))) aNil))) (aCons (eVar 2) aNil))) (gNm 6))
      (sSq (sIf (tBl (eBin (oEqF true) (eBin oMod (eN nInt (aCons (eVar 6) aNil)) (eK (.int 2))) (eK (.int 0))))
      (sRt (eK .non))
      sNil)
      (sEx (eLm lmAppend (eVar 3) (aCons (eBin oDiv (eVar 6) (eK (.int 2))) aNil))))) σ h := rfl
def m__law_next (call : CallT) : SemS := (sSq (sAs (eLst aNil) (gNm 3))
      (sSq (sFor (iZpB (aCons (eVar 1) (aCons (eVar 0) aNil))) (gTp 2 (gCo (gNm 4) (gCo (gNm 5) gNi)))
      (b__law_next_1 call))
      (sRt (eN nTuple (aCons (eVar 3) aNil)))))
@[simp] theorem am__law_next (call : CallT) (σ : Lo) (h : Hs) : m__law_next call σ h = (sSq (sAs (eLst aNil) (gNm 3))
      (sSq (sFor (iZpB (aCons (eVar 1) (aCons (eVar 0) aNil))) (gTp 2 (gCo (gNm 4) (gCo (gNm 5) gNi)))
      (b__law_next_1 call))
      (sRt (eN nTuple (aCons (eVar 3) aNil))))) σ h := rfl
def m__law_turns (call : CallT) : SemS := (sSq (sAs (eLc false [3] (iSeq (eCl call 21 [] (aCons (eVar 0) aNil))) (gNm 3) tYs (eTup (aCons (eVar 3) (aCons (eCl call 22 [] (aCons (eVar 0) (aCons (eVar 1) (aCons (eVar 3) aNil)))) aNil)))) (gNm 2))
      (sRt (eLc false [4] (iSeq (eVar 2)) (gNm 4) (tBl (eBin oNotN (eBin oIx (eVar 4) (eK (.int 1))) (eK .non))) (eVar 4))))
@[simp] theorem am__law_turns (call : CallT) (σ : Lo) (h : Hs) : m__law_turns call σ h = (sSq (sAs (eLc false [3] (iSeq (eCl call 21 [] (aCons (eVar 0) aNil))) (gNm 3) tYs (eTup (aCons (eVar 3) (aCons (eCl call 22 [] (aCons (eVar 0) (aCons (eVar 1) (aCons (eVar 3) aNil)))) aNil)))) (gNm 2))
      (sRt (eLc false [4] (iSeq (eVar 2)) (gNm 4) (tBl (eBin oNotN (eBin oIx (eVar 4) (eK (.int 1))) (eK .non))) (eVar 4)))) σ h := rfl
def b__law_system_1 (call : CallT) : SemS := (sSq (sAs (eN nTuple (aCons (eLc false [8] (iA1 (aCons (eVar 2) aNil)) (gNm 8) tYs (eBin oSub (eCl call 17 [] (aCons (eVar 0) (aCons (eBin oAdd (eBin oMulI (eK (.int 2)) (eVar 3)) (eK (.int 1))) aNil))) (eVar 3))) aNil)) (gNm 7))
      (sEx (eLm lmAppend (eVar 5) (aCons (eTup (aCons (eBin oSub (eCl call 17 [] (aCons (eVar 0) (aCons (eBin oAdd (eBin oMulI (eK (.int 2)) (eVar 4)) (eK (.int 1))) aNil))) (eVar 4)) (aCons (eVar 7) aNil))) aNil))))
@[simp] theorem ab__law_system_1 (call : CallT) (σ : Lo) (h : Hs) : b__law_system_1 call σ h = (sSq (sAs (eN nTuple (aCons (eLc false [8] (iA1 (aCons (eVar 2) aNil)) (gNm 8) tYs (eBin oSub (eCl call 17 [] (aCons (eVar 0) (aCons (eBin oAdd (eBin oMulI (eK (.int 2)) (eVar 3)) (eK (.int 1))) aNil))) (eVar 3))) aNil)) (gNm 7))
      (sEx (eLm lmAppend (eVar 5) (aCons (eTup (aCons (eBin oSub (eCl call 17 [] (aCons (eVar 0) (aCons (eBin oAdd (eBin oMulI (eK (.int 2)) (eVar 4)) (eK (.int 1))) aNil))) (eVar 4)) (aCons (eVar 7) aNil))) aNil)))) σ h := rfl
def m__law_system (call : CallT) : SemS := (sSq (sAs (eLst aNil) (gNm 5))
      (sSq (sFor (iA1 (aCons (eBin oAdd (eK (.int 1)) (eCl call 17 [] (aCons (eVar 0) (aCons (eVar 1) aNil)))) aNil)) (gNm 6)
      (b__law_system_1 call))
      (sRt (eVar 5))))
@[simp] theorem am__law_system (call : CallT) (σ : Lo) (h : Hs) : m__law_system call σ h = (sSq (sAs (eLst aNil) (gNm 5))
      (sSq (sFor (iA1 (aCons (eBin oAdd (eK (.int 1)) (eCl call 17 [] (aCons (eVar 0) (aCons (eVar 1) aNil)))) aNil)) (gNm 6)
      (b__law_system_1 call))
      (sRt (eVar 5)))) σ h := rfl
def b__law_made_system_1 (call : CallT) : SemS := (sSq (sAs (eN nTuple (aCons (eLc false [7] (iSeq (eVar 3)) (gNm 7) tYs (eBin oSub (eCl call 17 [] (aCons (eVar 0) (aCons (eBin oAdd (eBin oMulI (eK (.int 2)) (eVar 2)) (eK (.int 1))) aNil))) (eVar 2))) aNil)) (gNm 6))
      (sEx (eLm lmAppend (eVar 4) (aCons (eTup (aCons (eUn oNeg (eCl call 18 [] (aCons (eTup (aCons (eK (.int 0)) (aCons (eVar 6) aNil))) (aCons (eVar 3) aNil)))) (aCons (eVar 6) aNil))) aNil))))
@[simp] theorem ab__law_made_system_1 (call : CallT) (σ : Lo) (h : Hs) : b__law_made_system_1 call σ h = (sSq (sAs (eN nTuple (aCons (eLc false [7] (iSeq (eVar 3)) (gNm 7) tYs (eBin oSub (eCl call 17 [] (aCons (eVar 0) (aCons (eBin oAdd (eBin oMulI (eK (.int 2)) (eVar 2)) (eK (.int 1))) aNil))) (eVar 2))) aNil)) (gNm 6))
      (sEx (eLm lmAppend (eVar 4) (aCons (eTup (aCons (eUn oNeg (eCl call 18 [] (aCons (eTup (aCons (eK (.int 0)) (aCons (eVar 6) aNil))) (aCons (eVar 3) aNil)))) (aCons (eVar 6) aNil))) aNil)))) σ h := rfl
def m__law_made_system (call : CallT) : SemS := (sSq (sAs (eLst aNil) (gNm 4))
      (sSq (sFor (iA1 (aCons (eVar 1) aNil)) (gNm 5)
      (b__law_made_system_1 call))
      (sRt (eVar 4))))
@[simp] theorem am__law_made_system (call : CallT) (σ : Lo) (h : Hs) : m__law_made_system call σ h = (sSq (sAs (eLst aNil) (gNm 4))
      (sSq (sFor (iA1 (aCons (eVar 1) aNil)) (gNm 5)
      (b__law_made_system_1 call))
      (sRt (eVar 4)))) σ h := rfl
def m__law_either (call : CallT) : SemS := (sRt (eIf (tBl (eBin (oEqF false) (eCl call 17 [] (aCons (eVar 0) (aCons (eK (.int 2)) aNil))) (eK (.int 0)))) (eN nTuple (aCons (eVar 1) aNil)) (eN nListV (aCons (eVar 1) aNil))))
@[simp] theorem am__law_either (call : CallT) (σ : Lo) (h : Hs) : m__law_either call σ h = (sRt (eIf (tBl (eBin (oEqF false) (eCl call 17 [] (aCons (eVar 0) (aCons (eK (.int 2)) aNil))) (eK (.int 0)))) (eN nTuple (aCons (eVar 1) aNil)) (eN nListV (aCons (eVar 1) aNil)))) σ h := rfl
def m__law_handed (call : CallT) : SemS := (sRt (eCl call 26 [] (aCons (eVar 0) (aCons (eLc false [2] (iSeq (eVar 1)) (gNm 2) tYs (eCl call 26 [] (aCons (eVar 0) (aCons (eLv (aCons (eBin oIx (eVar 2) (eK (.int 0))) (aCons (eCl call 26 [] (aCons (eVar 0) (aCons (eBin oIx (eVar 2) (eK (.int 1))) aNil))) aNil))) aNil)))) aNil))))
@[simp] theorem am__law_handed (call : CallT) (σ : Lo) (h : Hs) : m__law_handed call σ h = (sRt (eCl call 26 [] (aCons (eVar 0) (aCons (eLc false [2] (iSeq (eVar 1)) (gNm 2) tYs (eCl call 26 [] (aCons (eVar 0) (aCons (eLv (aCons (eBin oIx (eVar 2) (eK (.int 0))) (aCons (eCl call 26 [] (aCons (eVar 0) (aCons (eBin oIx (eVar 2) (eK (.int 1))) aNil))) aNil))) aNil)))) aNil)))) σ h := rfl
def m__law_is_whole (call : CallT) : SemS := (sRt (eAn (eIsi (isiL ["int", "bool"]) (eVar 0)) (eNo (eIsi (isiL ["bool"]) (eVar 0)))))
@[simp] theorem am__law_is_whole (call : CallT) (σ : Lo) (h : Hs) : m__law_is_whole call σ h = (sRt (eAn (eIsi (isiL ["int", "bool"]) (eVar 0)) (eNo (eIsi (isiL ["bool"]) (eVar 0))))) σ h := rfl
def m__law_wholes (call : CallT) : SemS := (sSq (sIf (tOr' (tNo (tTru (eIsi (isiL ["tuple"]) (eVar 0)))) (tBl (eBin oNe (eN nLen (aCons (eVar 0) aNil)) (eVar 1))))
      (sRt (eK (.bl false)))
      sNil)
      (sRt (eBin oEq (eLc false [2] (iSeq (eVar 0)) (gNm 2) (tNo (tTru (eCl call 28 [] (aCons (eVar 2) aNil)))) (eK (.int 1))) (eLv aNil))))
@[simp] theorem am__law_wholes (call : CallT) (σ : Lo) (h : Hs) : m__law_wholes call σ h = (sSq (sIf (tOr' (tNo (tTru (eIsi (isiL ["tuple"]) (eVar 0)))) (tBl (eBin oNe (eN nLen (aCons (eVar 0) aNil)) (eVar 1))))
      (sRt (eK (.bl false)))
      sNil)
      (sRt (eBin oEq (eLc false [2] (iSeq (eVar 0)) (gNm 2) (tNo (tTru (eCl call 28 [] (aCons (eVar 2) aNil)))) (eK (.int 1))) (eLv aNil)))) σ h := rfl
def b__law_equal_system_1 (call : CallT) : SemS := (sSq (sAs (eCl call 17 [] (aCons (eVar 0) (aCons (eN nLen (aCons (eVar 2) aNil)) aNil))) (gNm 4))
      (sSq (sAs (eBin oIx (eVar 2) (eVar 4)) (gTp 2 (gCo (gNm 5) (gCo (gNm 6) gNi))))
      (sSq (sAs (eCl call 17 [] (aCons (eVar 0) (aCons (eK (.int 4)) aNil))) (gNm 7))
      (sSq (sAs (eTup (aCons (eVar 5) (aCons (eVar 6) aNil))) (gNm 8))
      (sSq (sIf (tBl (eBin (oEqF false) (eVar 7) (eK (.int 0))))
      (sSq (sAs (eBin oIx (eLv (aCons (eUn oNeg (eK (.int 1))) (aCons (eK (.int 2)) (aCons (eUn oNeg (eK (.int 2))) (aCons (eK (.int 3)) aNil))))) (eCl call 17 [] (aCons (eVar 0) (aCons (eK (.int 4)) aNil)))) (gNm 9))
      (sAs (eTup (aCons (eBin oMulI (eVar 5) (eVar 9)) (aCons (eN nTuple (aCons (eLc false [13] (iSeq (eVar 6)) (gNm 13) tYs (eBin oMulI (eVar 13) (eVar 9))) aNil)) aNil))) (gNm 8)))
      (sIf (tAn (tBl (eBin (oEqF false) (eVar 7) (eK (.int 1)))) (tBl (eBin oLt (eN nLen (aCons (eVar 2) aNil)) (eK (.int 3)))))
      (sAs (eBin oAddM (eVar 2) (eLv (aCons (eBin oIx (eVar 2) (eVar 4)) aNil))) (gNm 2))
      (sIf (tBl (eBin (oEqF false) (eVar 7) (eK (.int 2))))
      (sSq (sAs (eBin oAddM (eSl (eVar 2) (oSome (eVar 4)) oNone) (eSl (eVar 2) oNone (oSome (eVar 4)))) (gNm 2))
      (sAs (eBin oIx (eVar 2) (eVar 4)) (gNm 8)))
      (sSq (sAs (eCl call 17 [] (aCons (eVar 0) (aCons (eN nLen (aCons (eVar 2) aNil)) aNil))) (gNm 10))
      (sIf (tBl (eBin oNe (eVar 10) (eVar 4)))
      (sSq (sAs (eBin oIx (eVar 2) (eVar 10)) (gTp 2 (gCo (gNm 11) (gCo (gNm 12) gNi))))
      (sAs (eTup (aCons (eBin oAdd (eVar 5) (eVar 11)) (aCons (eN nTuple (aCons (eLc false [14, 15] (iZpB (aCons (eVar 6) (aCons (eVar 12) aNil))) (gTp 2 (gCo (gNm 14) (gCo (gNm 15) gNi))) tYs (eBin oAdd (eVar 14) (eVar 15))) aNil)) aNil))) (gNm 8)))
      sNil)))))
      (sIf (tBl (eBin oLe (eN nSum (aCons (eLc false [13] (iSeq (eBin oIx (eVar 8) (eK (.int 1)))) (gNm 13) tYs (eN nAbs (aCons (eVar 13) aNil))) aNil)) (eK (.int 24))))
      (sAs (eVar 8) (gSt (eVar 2) (eVar 4)))
      sNil))))))
@[simp] theorem ab__law_equal_system_1 (call : CallT) (σ : Lo) (h : Hs) : b__law_equal_system_1 call σ h = (sSq (sAs (eCl call 17 [] (aCons (eVar 0) (aCons (eN nLen (aCons (eVar 2) aNil)) aNil))) (gNm 4))
      (sSq (sAs (eBin oIx (eVar 2) (eVar 4)) (gTp 2 (gCo (gNm 5) (gCo (gNm 6) gNi))))
      (sSq (sAs (eCl call 17 [] (aCons (eVar 0) (aCons (eK (.int 4)) aNil))) (gNm 7))
      (sSq (sAs (eTup (aCons (eVar 5) (aCons (eVar 6) aNil))) (gNm 8))
      (sSq (sIf (tBl (eBin (oEqF false) (eVar 7) (eK (.int 0))))
      (sSq (sAs (eBin oIx (eLv (aCons (eUn oNeg (eK (.int 1))) (aCons (eK (.int 2)) (aCons (eUn oNeg (eK (.int 2))) (aCons (eK (.int 3)) aNil))))) (eCl call 17 [] (aCons (eVar 0) (aCons (eK (.int 4)) aNil)))) (gNm 9))
      (sAs (eTup (aCons (eBin oMulI (eVar 5) (eVar 9)) (aCons (eN nTuple (aCons (eLc false [13] (iSeq (eVar 6)) (gNm 13) tYs (eBin oMulI (eVar 13) (eVar 9))) aNil)) aNil))) (gNm 8)))
      (sIf (tAn (tBl (eBin (oEqF false) (eVar 7) (eK (.int 1)))) (tBl (eBin oLt (eN nLen (aCons (eVar 2) aNil)) (eK (.int 3)))))
      (sAs (eBin oAddM (eVar 2) (eLv (aCons (eBin oIx (eVar 2) (eVar 4)) aNil))) (gNm 2))
      (sIf (tBl (eBin (oEqF false) (eVar 7) (eK (.int 2))))
      (sSq (sAs (eBin oAddM (eSl (eVar 2) (oSome (eVar 4)) oNone) (eSl (eVar 2) oNone (oSome (eVar 4)))) (gNm 2))
      (sAs (eBin oIx (eVar 2) (eVar 4)) (gNm 8)))
      (sSq (sAs (eCl call 17 [] (aCons (eVar 0) (aCons (eN nLen (aCons (eVar 2) aNil)) aNil))) (gNm 10))
      (sIf (tBl (eBin oNe (eVar 10) (eVar 4)))
      (sSq (sAs (eBin oIx (eVar 2) (eVar 10)) (gTp 2 (gCo (gNm 11) (gCo (gNm 12) gNi))))
      (sAs (eTup (aCons (eBin oAdd (eVar 5) (eVar 11)) (aCons (eN nTuple (aCons (eLc false [14, 15] (iZpB (aCons (eVar 6) (aCons (eVar 12) aNil))) (gTp 2 (gCo (gNm 14) (gCo (gNm 15) gNi))) tYs (eBin oAdd (eVar 14) (eVar 15))) aNil)) aNil))) (gNm 8)))
      sNil)))))
      (sIf (tBl (eBin oLe (eN nSum (aCons (eLc false [13] (iSeq (eBin oIx (eVar 8) (eK (.int 1)))) (gNm 13) tYs (eN nAbs (aCons (eVar 13) aNil))) aNil)) (eK (.int 24))))
      (sAs (eVar 8) (gSt (eVar 2) (eVar 4)))
      sNil)))))) σ h := rfl
def m__law_equal_system (call : CallT) : SemS := (sSq (sAs (eN nListM (aCons (eVar 1) aNil)) (gNm 2))
      (sSq (sForN (iA1 (aCons (eBin oAdd (eK (.int 1)) (eCl call 17 [] (aCons (eVar 0) (aCons (eK (.int 2)) aNil)))) aNil)) (gNm 3)
      (b__law_equal_system_1 call))
      (sRt (eVar 2))))
@[simp] theorem am__law_equal_system (call : CallT) (σ : Lo) (h : Hs) : m__law_equal_system call σ h = (sSq (sAs (eN nListM (aCons (eVar 1) aNil)) (gNm 2))
      (sSq (sForN (iA1 (aCons (eBin oAdd (eK (.int 1)) (eCl call 17 [] (aCons (eVar 0) (aCons (eK (.int 2)) aNil)))) aNil)) (gNm 3)
      (b__law_equal_system_1 call))
      (sRt (eVar 2)))) σ h := rfl
def b__law_small_round_1 (call : CallT) : SemS := (sSq (sAs (eCl call 30 [] (aCons (eVar 0) (aCons (eVar 3) aNil))) (gNm 6))
      (sSq (sAs (eCl call 10 [] (aCons (eCl call 27 [] (aCons (eVar 0) (aCons (eVar 6) aNil))) aNil)) (gNm 7))
      (sIf (tTru (eIsi (isiT isOk isBt 2) (eVar 4)))
      (sSq (sIf (tOr' (tNo (tTru (eIsi (isiT isOk isBt 2) (eVar 7)))) (tOr' (tNo (tBl (eBin (oEqO false eqTab call) (eVar 7) (eVar 4)))) (tBl (eBin oNe (eFd (ok_numbers) 0 (eVar 7)) (eFd (ok_numbers) 0 (eVar 4))))))
      (sRt (eK (.bl false)))
      sNil)
      (sIf (tBl (eBin oNe (eLc false [9] (iSeq (eVar 6)) (gNm 9) (tBl (eBin (oEqF true) (eCl call 18 [] (aCons (eVar 9) (aCons (eFd (ok_numbers) 0 (eVar 7)) aNil))) (eK (.int 0)))) (eK (.int 1))) (eLv aNil)))
      (sRt (eK (.bl false)))
      sNil))
      (sIf (tOr' (tNo (tTru (eIsi (isiT isOk isBt 3) (eVar 4)))) (tOr' (tNo (tTru (eIsi (isiT isOk isBt 3) (eVar 7)))) (tBl (eBin oNotN (eCl call 11 [] (aCons (eVar 6) (aCons (eVar 7) aNil))) (eK .non)))))
      (sRt (eK (.bl false)))
      sNil))))
@[simp] theorem ab__law_small_round_1 (call : CallT) (σ : Lo) (h : Hs) : b__law_small_round_1 call σ h = (sSq (sAs (eCl call 30 [] (aCons (eVar 0) (aCons (eVar 3) aNil))) (gNm 6))
      (sSq (sAs (eCl call 10 [] (aCons (eCl call 27 [] (aCons (eVar 0) (aCons (eVar 6) aNil))) aNil)) (gNm 7))
      (sIf (tTru (eIsi (isiT isOk isBt 2) (eVar 4)))
      (sSq (sIf (tOr' (tNo (tTru (eIsi (isiT isOk isBt 2) (eVar 7)))) (tOr' (tNo (tBl (eBin (oEqO false eqTab call) (eVar 7) (eVar 4)))) (tBl (eBin oNe (eFd (ok_numbers) 0 (eVar 7)) (eFd (ok_numbers) 0 (eVar 4))))))
      (sRt (eK (.bl false)))
      sNil)
      (sIf (tBl (eBin oNe (eLc false [9] (iSeq (eVar 6)) (gNm 9) (tBl (eBin (oEqF true) (eCl call 18 [] (aCons (eVar 9) (aCons (eFd (ok_numbers) 0 (eVar 7)) aNil))) (eK (.int 0)))) (eK (.int 1))) (eLv aNil)))
      (sRt (eK (.bl false)))
      sNil))
      (sIf (tOr' (tNo (tTru (eIsi (isiT isOk isBt 3) (eVar 4)))) (tOr' (tNo (tTru (eIsi (isiT isOk isBt 3) (eVar 7)))) (tBl (eBin oNotN (eCl call 11 [] (aCons (eVar 6) (aCons (eVar 7) aNil))) (eK .non)))))
      (sRt (eK (.bl false)))
      sNil)))) σ h := rfl
def m__law_small_round (call : CallT) : SemS := (sSq (sAs (eBin oAdd (eK (.int 1)) (eCl call 17 [] (aCons (eVar 0) (aCons (eK (.int 3)) aNil)))) (gNm 1))
      (sSq (sIf (tBl (eBin (oEqF false) (eCl call 17 [] (aCons (eVar 0) (aCons (eK (.int 2)) aNil))) (eK (.int 0))))
      (sSq (sAs (eLc false [8] (iA1 (aCons (eVar 1) aNil)) (gNm 8) tYs (eCl call 17 [] (aCons (eVar 0) (aCons (eK (.int 20)) aNil)))) (gNm 2))
      (sAs (eCl call 25 [] (aCons (eVar 0) (aCons (eBin oAdd (eK (.int 1)) (eCl call 17 [] (aCons (eVar 0) (aCons (eK (.int 2)) aNil)))) (aCons (eK (.int 2)) (aCons (eVar 2) aNil))))) (gNm 3)))
      (sAs (eCl call 24 [] (aCons (eVar 0) (aCons (eK (.int 2)) (aCons (eVar 1) (aCons (eK (.int 2)) (aCons (eK (.int 9)) aNil)))))) (gNm 3)))
      (sSq (sAs (eCl call 10 [] (aCons (eCl call 27 [] (aCons (eVar 0) (aCons (eVar 3) aNil))) aNil)) (gNm 4))
      (sSq (sFor (iA1 (aCons (eK (.int 2)) aNil)) (gNm 5)
      (b__law_small_round_1 call))
      (sRt (eK (.bl true)))))))
@[simp] theorem am__law_small_round (call : CallT) (σ : Lo) (h : Hs) : m__law_small_round call σ h = (sSq (sAs (eBin oAdd (eK (.int 1)) (eCl call 17 [] (aCons (eVar 0) (aCons (eK (.int 3)) aNil)))) (gNm 1))
      (sSq (sIf (tBl (eBin (oEqF false) (eCl call 17 [] (aCons (eVar 0) (aCons (eK (.int 2)) aNil))) (eK (.int 0))))
      (sSq (sAs (eLc false [8] (iA1 (aCons (eVar 1) aNil)) (gNm 8) tYs (eCl call 17 [] (aCons (eVar 0) (aCons (eK (.int 20)) aNil)))) (gNm 2))
      (sAs (eCl call 25 [] (aCons (eVar 0) (aCons (eBin oAdd (eK (.int 1)) (eCl call 17 [] (aCons (eVar 0) (aCons (eK (.int 2)) aNil)))) (aCons (eK (.int 2)) (aCons (eVar 2) aNil))))) (gNm 3)))
      (sAs (eCl call 24 [] (aCons (eVar 0) (aCons (eK (.int 2)) (aCons (eVar 1) (aCons (eK (.int 2)) (aCons (eK (.int 9)) aNil)))))) (gNm 3)))
      (sSq (sAs (eCl call 10 [] (aCons (eCl call 27 [] (aCons (eVar 0) (aCons (eVar 3) aNil))) aNil)) (gNm 4))
      (sSq (sFor (iA1 (aCons (eK (.int 2)) aNil)) (gNm 5)
      (b__law_small_round_1 call))
      (sRt (eK (.bl true))))))) σ h := rfl
def m__law_great_round (call : CallT) : SemS := (sSq (sAs (eBin oIx (eLv (aCons (eBin oPow (eK (.int 10)) (eK (.int 29))) (aCons (eBin oPow (eK (.int 10)) (eK (.int 12))) (aCons (eBin oPow (eK (.int 10)) (eK (.int 20))) aNil)))) (eCl call 17 [] (aCons (eVar 0) (aCons (eK (.int 3)) aNil)))) (gNm 1))
      (sSq (sAs (eLc false [5] (iA1 (aCons (eBin oAdd (eK (.int 1)) (eCl call 17 [] (aCons (eVar 0) (aCons (eK (.int 2)) aNil)))) aNil)) (gNm 5) tYs (eCl call 17 [] (aCons (eVar 0) (aCons (eVar 1) aNil)))) (gNm 2))
      (sSq (sAs (eCl call 25 [] (aCons (eVar 0) (aCons (eK (.int 1)) (aCons (eK (.int 4)) (aCons (eVar 2) aNil))))) (gNm 3))
      (sSq (sAs (eCl call 10 [] (aCons (eCl call 27 [] (aCons (eVar 0) (aCons (eVar 3) aNil))) aNil)) (gNm 4))
      (sSq (sIf (tOr' (tNo (tTru (eIsi (isiT isOk isBt 2) (eVar 4)))) (tNo (tTru (eCl call 29 [] (aCons (eFd (ok_numbers) 0 (eVar 4)) (aCons (eN nLen (aCons (eVar 2) aNil)) aNil))))))
      (sRt (eK (.bl false)))
      sNil)
      (sSq (sIf (tOr' (tBl (eBin oNe (eLc false [6] (iSeq (eFd (ok_numbers) 0 (eVar 4))) (gNm 6) (tBl (eBin oLt (eVar 6) (eK (.int 0)))) (eK (.int 1))) (eLv aNil))) (tBl (eBin (oEqF true) (eCl call 18 [] (aCons (eBin oIx (eVar 3) (eK (.int 0))) (aCons (eFd (ok_numbers) 0 (eVar 4)) aNil))) (eK (.int 0)))))
      (sRt (eK (.bl false)))
      sNil)
      (sRt (eBin oLe (eN nMaxL (aCons (eLc false [6] (iSeq (eFd (ok_numbers) 0 (eVar 4))) (gNm 6) tYs (eN nLen (aCons (eCl call 19 [] (aCons (eVar 6) aNil)) aNil))) aNil)) (eN nMaxL (aCons (eLc false [6] (iSeq (eVar 2)) (gNm 6) tYs (eN nLen (aCons (eCl call 19 [] (aCons (eVar 6) aNil)) aNil))) aNil))))))))))
@[simp] theorem am__law_great_round (call : CallT) (σ : Lo) (h : Hs) : m__law_great_round call σ h = (sSq (sAs (eBin oIx (eLv (aCons (eBin oPow (eK (.int 10)) (eK (.int 29))) (aCons (eBin oPow (eK (.int 10)) (eK (.int 12))) (aCons (eBin oPow (eK (.int 10)) (eK (.int 20))) aNil)))) (eCl call 17 [] (aCons (eVar 0) (aCons (eK (.int 3)) aNil)))) (gNm 1))
      (sSq (sAs (eLc false [5] (iA1 (aCons (eBin oAdd (eK (.int 1)) (eCl call 17 [] (aCons (eVar 0) (aCons (eK (.int 2)) aNil)))) aNil)) (gNm 5) tYs (eCl call 17 [] (aCons (eVar 0) (aCons (eVar 1) aNil)))) (gNm 2))
      (sSq (sAs (eCl call 25 [] (aCons (eVar 0) (aCons (eK (.int 1)) (aCons (eK (.int 4)) (aCons (eVar 2) aNil))))) (gNm 3))
      (sSq (sAs (eCl call 10 [] (aCons (eCl call 27 [] (aCons (eVar 0) (aCons (eVar 3) aNil))) aNil)) (gNm 4))
      (sSq (sIf (tOr' (tNo (tTru (eIsi (isiT isOk isBt 2) (eVar 4)))) (tNo (tTru (eCl call 29 [] (aCons (eFd (ok_numbers) 0 (eVar 4)) (aCons (eN nLen (aCons (eVar 2) aNil)) aNil))))))
      (sRt (eK (.bl false)))
      sNil)
      (sSq (sIf (tOr' (tBl (eBin oNe (eLc false [6] (iSeq (eFd (ok_numbers) 0 (eVar 4))) (gNm 6) (tBl (eBin oLt (eVar 6) (eK (.int 0)))) (eK (.int 1))) (eLv aNil))) (tBl (eBin (oEqF true) (eCl call 18 [] (aCons (eBin oIx (eVar 3) (eK (.int 0))) (aCons (eFd (ok_numbers) 0 (eVar 4)) aNil))) (eK (.int 0)))))
      (sRt (eK (.bl false)))
      sNil)
      (sRt (eBin oLe (eN nMaxL (aCons (eLc false [6] (iSeq (eFd (ok_numbers) 0 (eVar 4))) (gNm 6) tYs (eN nLen (aCons (eCl call 19 [] (aCons (eVar 6) aNil)) aNil))) aNil)) (eN nMaxL (aCons (eLc false [6] (iSeq (eVar 2)) (gNm 6) tYs (eN nLen (aCons (eCl call 19 [] (aCons (eVar 6) aNil)) aNil))) aNil)))))))))) σ h := rfl
def b__law_shut_round_1 (call : CallT) : SemS := (sSq (sDp (eVar 9) (eVar 10) (eK (.bl true)))
      (sIf (tBl (eBin oGt (eN nAbs (aCons (eBin oIx (eVar 10) (eK (.int 0))) aNil)) (eVar 8)))
      (sRt (eK (.bl false)))
      sNil))
@[simp] theorem ab__law_shut_round_1 (call : CallT) (σ : Lo) (h : Hs) : b__law_shut_round_1 call σ h = (sSq (sDp (eVar 9) (eVar 10) (eK (.bl true)))
      (sIf (tBl (eBin oGt (eN nAbs (aCons (eBin oIx (eVar 10) (eK (.int 0))) aNil)) (eVar 8)))
      (sRt (eK (.bl false)))
      sNil)) σ h := rfl
def b__law_shut_round_2 (call : CallT) : SemS := (sIf (tBl (eBin (oDIn true) (eVar 12) (eVar 9)))
      (sRt (eK (.bl false)))
      sNil)
@[simp] theorem ab__law_shut_round_2 (call : CallT) (σ : Lo) (h : Hs) : b__law_shut_round_2 call σ h = (sIf (tBl (eBin (oDIn true) (eVar 12) (eVar 9)))
      (sRt (eK (.bl false)))
      sNil) σ h := rfl
def b__law_shut_round_3 (call : CallT) : SemS := (sFor (iSeq (eCl call 23 [] (aCons (eVar 6) (aCons (eVar 10) aNil)))) (gTp 2 (gCo (gNm 11) (gCo (gNm 12) gNi)))
      (b__law_shut_round_2 call))
@[simp] theorem ab__law_shut_round_3 (call : CallT) (σ : Lo) (h : Hs) : b__law_shut_round_3 call σ h = (sFor (iSeq (eCl call 23 [] (aCons (eVar 6) (aCons (eVar 10) aNil)))) (gTp 2 (gCo (gNm 11) (gCo (gNm 12) gNi)))
      (b__law_shut_round_2 call)) σ h := rfl
def m__law_shut_round (call : CallT) : SemS := (sSq (sAs (eBin oIx (eLv (aCons (eK (.int 30)) (aCons (eBin oPow (eK (.int 10)) (eK (.int 6))) (aCons (eBin oPow (eK (.int 10)) (eK (.int 9))) (aCons (eBin oPow (eK (.int 10)) (eK (.int 29))) aNil))))) (eCl call 17 [] (aCons (eVar 0) (aCons (eK (.int 4)) aNil)))) (gNm 1))
      (sSq (sAs (eIf (tBl (eBin oGt (eVar 1) (eBin oPow (eK (.int 10)) (eK (.int 9))))) (eK (.int 1)) (eBin oAdd (eK (.int 1)) (eCl call 17 [] (aCons (eVar 0) (aCons (eK (.int 2)) aNil))))) (gNm 2))
      (sSq (sIf (tBl (eBin (oEqF false) (eCl call 17 [] (aCons (eVar 0) (aCons (eK (.int 2)) aNil))) (eK (.int 0))))
      (sSq (sAs (eBin oAdd (eK (.int 2)) (eCl call 17 [] (aCons (eVar 0) (aCons (eK (.int 3)) aNil)))) (gNm 3))
      (sSq (sAs (eN nTuple (aCons (eLc false [13] (iA1 (aCons (eVar 2) aNil)) (gNm 13) tYs (eBin oMulI (eVar 3) (eBin oSub (eCl call 17 [] (aCons (eVar 0) (aCons (eK (.int 3)) aNil))) (eK (.int 1))))) aNil)) (gNm 4))
      (sAs (eBin oAdd (eBin oAdd (eBin oMulI (eVar 3) (eBin oSub (eCl call 17 [] (aCons (eVar 0) (aCons (eBin oAdd (eBin oMulI (eK (.int 2)) (eVar 1)) (eK (.int 1))) aNil))) (eVar 1))) (eK (.int 1))) (eCl call 17 [] (aCons (eVar 0) (aCons (eBin oSub (eVar 3) (eK (.int 1))) aNil)))) (gNm 5))))
      (sSq (sAs (eN nTuple (aCons (eLc false [13] (iA1 (aCons (eVar 2) aNil)) (gNm 13) tYs (eCl call 17 [] (aCons (eVar 0) (aCons (eK (.int 5)) aNil)))) aNil)) (gNm 4))
      (sSq (sAs (eBin oAdd (eK (.int 1)) (eCl call 17 [] (aCons (eVar 0) (aCons (eVar 1) aNil)))) (gNm 5))
      (sIf (tBl (eBin (oEqF false) (eCl call 17 [] (aCons (eVar 0) (aCons (eK (.int 2)) aNil))) (eK (.int 0))))
      (sSq (sAs (eN nTuple (aCons (eLc false [14] (iSeq (eVar 4)) (gNm 14) tYs (eUn oNeg (eVar 14))) aNil)) (gNm 4))
      (sAs (eUn oNeg (eVar 5)) (gNm 5)))
      sNil))))
      (sSq (sAs (eLv (aCons (eTup (aCons (eVar 5) (aCons (eVar 4) aNil))) aNil)) (gNm 6))
      (sSq (sAs (eCl call 10 [] (aCons (eCl call 27 [] (aCons (eVar 0) (aCons (eVar 6) aNil))) aNil)) (gNm 7))
      (sSq (sIf (tOr' (tNo (tTru (eIsi (isiT isOk isBt 3) (eVar 7)))) (tOr' (tBl (eBin (oInU true) (eTup (aCons (eVar 5) aNil)) (eFd (ok_rows) 1 (eVar 7)))) (tBl (eBin (oInU false) (eTup (aCons (eK (.int 0)) aNil)) (eFd (ok_rows) 1 (eVar 7))))))
      (sRt (eK (.bl false)))
      sNil)
      (sSq (sAs (eBin oAdd (eN nAbs (aCons (eVar 5) aNil)) (eN nSum (aCons (eLc false [14] (iSeq (eVar 4)) (gNm 14) tYs (eN nAbs (aCons (eVar 14) aNil))) aNil))) (gNm 8))
      (sSq (sAs eDt0 (gNm 9))
      (sSq (sFor (iSeq (eFd (ok_rows) 1 (eVar 7))) (gNm 10)
      (b__law_shut_round_1 call))
      (sSq (sFor (iSeq (eSl (eFd (ok_rows) 1 (eVar 7)) oNone (oSome (eK (.int 300))))) (gNm 10)
      (b__law_shut_round_3 call))
      (sRt (eBin oIsN (eCl call 11 [] (aCons (eVar 6) (aCons (eVar 7) aNil))) (eK .non)))))))))))))
@[simp] theorem am__law_shut_round (call : CallT) (σ : Lo) (h : Hs) : m__law_shut_round call σ h = (sSq (sAs (eBin oIx (eLv (aCons (eK (.int 30)) (aCons (eBin oPow (eK (.int 10)) (eK (.int 6))) (aCons (eBin oPow (eK (.int 10)) (eK (.int 9))) (aCons (eBin oPow (eK (.int 10)) (eK (.int 29))) aNil))))) (eCl call 17 [] (aCons (eVar 0) (aCons (eK (.int 4)) aNil)))) (gNm 1))
      (sSq (sAs (eIf (tBl (eBin oGt (eVar 1) (eBin oPow (eK (.int 10)) (eK (.int 9))))) (eK (.int 1)) (eBin oAdd (eK (.int 1)) (eCl call 17 [] (aCons (eVar 0) (aCons (eK (.int 2)) aNil))))) (gNm 2))
      (sSq (sIf (tBl (eBin (oEqF false) (eCl call 17 [] (aCons (eVar 0) (aCons (eK (.int 2)) aNil))) (eK (.int 0))))
      (sSq (sAs (eBin oAdd (eK (.int 2)) (eCl call 17 [] (aCons (eVar 0) (aCons (eK (.int 3)) aNil)))) (gNm 3))
      (sSq (sAs (eN nTuple (aCons (eLc false [13] (iA1 (aCons (eVar 2) aNil)) (gNm 13) tYs (eBin oMulI (eVar 3) (eBin oSub (eCl call 17 [] (aCons (eVar 0) (aCons (eK (.int 3)) aNil))) (eK (.int 1))))) aNil)) (gNm 4))
      (sAs (eBin oAdd (eBin oAdd (eBin oMulI (eVar 3) (eBin oSub (eCl call 17 [] (aCons (eVar 0) (aCons (eBin oAdd (eBin oMulI (eK (.int 2)) (eVar 1)) (eK (.int 1))) aNil))) (eVar 1))) (eK (.int 1))) (eCl call 17 [] (aCons (eVar 0) (aCons (eBin oSub (eVar 3) (eK (.int 1))) aNil)))) (gNm 5))))
      (sSq (sAs (eN nTuple (aCons (eLc false [13] (iA1 (aCons (eVar 2) aNil)) (gNm 13) tYs (eCl call 17 [] (aCons (eVar 0) (aCons (eK (.int 5)) aNil)))) aNil)) (gNm 4))
      (sSq (sAs (eBin oAdd (eK (.int 1)) (eCl call 17 [] (aCons (eVar 0) (aCons (eVar 1) aNil)))) (gNm 5))
      (sIf (tBl (eBin (oEqF false) (eCl call 17 [] (aCons (eVar 0) (aCons (eK (.int 2)) aNil))) (eK (.int 0))))
      (sSq (sAs (eN nTuple (aCons (eLc false [14] (iSeq (eVar 4)) (gNm 14) tYs (eUn oNeg (eVar 14))) aNil)) (gNm 4))
      (sAs (eUn oNeg (eVar 5)) (gNm 5)))
      sNil))))
      (sSq (sAs (eLv (aCons (eTup (aCons (eVar 5) (aCons (eVar 4) aNil))) aNil)) (gNm 6))
      (sSq (sAs (eCl call 10 [] (aCons (eCl call 27 [] (aCons (eVar 0) (aCons (eVar 6) aNil))) aNil)) (gNm 7))
      (sSq (sIf (tOr' (tNo (tTru (eIsi (isiT isOk isBt 3) (eVar 7)))) (tOr' (tBl (eBin (oInU true) (eTup (aCons (eVar 5) aNil)) (eFd (ok_rows) 1 (eVar 7)))) (tBl (eBin (oInU false) (eTup (aCons (eK (.int 0)) aNil)) (eFd (ok_rows) 1 (eVar 7))))))
      (sRt (eK (.bl false)))
      sNil)
      (sSq (sAs (eBin oAdd (eN nAbs (aCons (eVar 5) aNil)) (eN nSum (aCons (eLc false [14] (iSeq (eVar 4)) (gNm 14) tYs (eN nAbs (aCons (eVar 14) aNil))) aNil))) (gNm 8))
      (sSq (sAs eDt0 (gNm 9))
      (sSq (sFor (iSeq (eFd (ok_rows) 1 (eVar 7))) (gNm 10)
      (b__law_shut_round_1 call))
      (sSq (sFor (iSeq (eSl (eFd (ok_rows) 1 (eVar 7)) oNone (oSome (eK (.int 300))))) (gNm 10)
      (b__law_shut_round_3 call))
      (sRt (eBin oIsN (eCl call 11 [] (aCons (eVar 6) (aCons (eVar 7) aNil))) (eK .non))))))))))))) σ h := rfl
def b_law_1 (call : CallT) : SemS := (sIf (tNo (tTru (eCl call 31 [] (aCons (eVar 1) aNil))))
      (sRt (eK (.bl false)))
      sNil)
@[simp] theorem ab_law_1 (call : CallT) (σ : Lo) (h : Hs) : b_law_1 call σ h = (sIf (tNo (tTru (eCl call 31 [] (aCons (eVar 1) aNil))))
      (sRt (eK (.bl false)))
      sNil) σ h := rfl
def m_law (call : CallT) : SemS := (sSq (sAs (eCl call 16 [] (aCons (eVar 0) aNil)) (gNm 1))
      (sSq (sFor (iA1 (aCons (eK (.int 2)) aNil)) (gNm 2)
      (b_law_1 call))
      (sRt (eAn (eCl call 32 [] (aCons (eVar 1) aNil)) (eCl call 33 [] (aCons (eVar 1) aNil))))))
@[simp] theorem am_law (call : CallT) (σ : Lo) (h : Hs) : m_law call σ h = (sSq (sAs (eCl call 16 [] (aCons (eVar 0) aNil)) (gNm 1))
      (sSq (sFor (iA1 (aCons (eK (.int 2)) aNil)) (gNm 2)
      (b_law_1 call))
      (sRt (eAn (eCl call 32 [] (aCons (eVar 1) aNil)) (eCl call 33 [] (aCons (eVar 1) aNil)))))) σ h := rfl
def defs : List MDef := [⟨1, 1, false, m_is_whole⟩, ⟨1, 1, false, m_is_sequence⟩, ⟨2, 5, false, m_form_value⟩, ⟨1, 5, false, m_check_system⟩, ⟨1, 1, false, m_variable_count⟩, ⟨1, 2, false, m_start_row_of⟩, ⟨1, 2, false, m_is_zero_row⟩, ⟨1, 8, false, m_figure_sums⟩, ⟨2, 7, false, m_turned_row⟩, ⟨3, 7, false, m_read_answer⟩, ⟨1, 11, false, m_whole⟩, ⟨2, 10, false, m_judge_carries⟩, ⟨2, 2, false, m_Answer__init_⟩, ⟨2, 2, false, m_Answer__eq_⟩, ⟨2, 2, false, m_Carries__init_⟩, ⟨2, 2, false, m_Carries__eq_⟩, ⟨1, 1, true, m__law_source⟩, ⟨2, 5, false, m__law_take⟩, ⟨2, 5, false, m__law_value⟩, ⟨1, 3, false, m__law_figures⟩, ⟨1, 3, false, m__law_used⟩, ⟨1, 6, false, m__law_figure_rows⟩, ⟨3, 7, false, m__law_next⟩, ⟨2, 5, false, m__law_turns⟩, ⟨5, 9, false, m__law_system⟩, ⟨4, 8, false, m__law_made_system⟩, ⟨2, 2, false, m__law_either⟩, ⟨2, 3, false, m__law_handed⟩, ⟨1, 1, false, m__law_is_whole⟩, ⟨2, 3, false, m__law_wholes⟩, ⟨2, 16, false, m__law_equal_system⟩, ⟨1, 10, false, m__law_small_round⟩, ⟨1, 7, false, m__law_great_round⟩, ⟨1, 15, false, m__law_shut_round⟩, ⟨1, 3, false, m_law⟩]
abbrev fns (K : PySem.W.Frag) (fd : Nat → FuncData) : List Fn := [⟨He.fAd K d_is_whole.at_, fd 0, ["thing"]⟩, ⟨He.fAd K d_is_sequence.at_, fd 1, ["thing"]⟩, ⟨He.fAd K d_form_value.at_, fd 2, ["form", "numbers"]⟩, ⟨He.fAd K d_check_system.at_, fd 3, ["system"]⟩, ⟨He.fAd K d_variable_count.at_, fd 4, ["system"]⟩, ⟨He.fAd K d_start_row_of.at_, fd 5, ["system"]⟩, ⟨He.fAd K d_is_zero_row.at_, fd 6, ["carry_row"]⟩, ⟨He.fAd K d_figure_sums.at_, fd 7, ["system"]⟩, ⟨He.fAd K d_turned_row.at_, fd 8, ["carry_row", "sums"]⟩, ⟨He.fAd K d_read_answer.at_, fd 9, ["came", "carry_row", "many"]⟩, ⟨He.fAd K d_whole.at_, fd 10, ["system"]⟩, ⟨He.fAd K d_judge_carries.at_, fd 11, ["system", "carries"]⟩, ⟨He.fAd K d_Answer__init_.at_, fd 12, ["self", "numbers"]⟩, ⟨He.fAd K d_Answer__eq_.at_, fd 13, ["self", "other"]⟩, ⟨He.fAd K d_Carries__init_.at_, fd 14, ["self", "rows"]⟩, ⟨He.fAd K d_Carries__eq_.at_, fd 15, ["self", "other"]⟩, ⟨He.fAd K d__law_source.at_, fd 16, ["_law_script"]⟩, ⟨He.fAd K d__law_take.at_, fd 17, ["_law_source_here", "_law_many"]⟩, ⟨He.fAd K d__law_value.at_, fd 18, ["_law_form", "_law_numbers"]⟩, ⟨He.fAd K d__law_figures.at_, fd 19, ["_law_number"]⟩, ⟨He.fAd K d__law_used.at_, fd 20, ["_law_system_here"]⟩, ⟨He.fAd K d__law_figure_rows.at_, fd 21, ["_law_system_here"]⟩, ⟨He.fAd K d__law_next.at_, fd 22, ["_law_system_here", "_law_carry", "_law_figures_here"]⟩, ⟨He.fAd K d__law_turns.at_, fd 23, ["_law_system_here", "_law_carry"]⟩, ⟨He.fAd K d__law_system.at_, fd 24, ["_law_source_here", "_law_most_equations", "_law_variables", "_law_factor", "_law_number"]⟩, ⟨He.fAd K d__law_made_system.at_, fd 25, ["_law_source_here", "_law_equations", "_law_factor", "_law_numbers"]⟩, ⟨He.fAd K d__law_either.at_, fd 26, ["_law_source_here", "_law_thing"]⟩, ⟨He.fAd K d__law_handed.at_, fd 27, ["_law_source_here", "_law_system_here"]⟩, ⟨He.fAd K d__law_is_whole.at_, fd 28, ["_law_thing"]⟩, ⟨He.fAd K d__law_wholes.at_, fd 29, ["_law_thing", "_law_many"]⟩, ⟨He.fAd K d__law_equal_system.at_, fd 30, ["_law_source_here", "_law_system_here"]⟩, ⟨He.fAd K d__law_small_round.at_, fd 31, ["_law_source_here"]⟩, ⟨He.fAd K d__law_great_round.at_, fd 32, ["_law_source_here"]⟩, ⟨He.fAd K d__law_shut_round.at_, fd 33, ["_law_source_here"]⟩, ⟨He.fAd K d_law.at_, fd 34, ["_law_script"]⟩]
structure Fx (K : PySem.W.Frag) (mg : Str → Option Value) (fd : Nat → FuncData) : Prop where
  D_is_whole : FunD K d_is_whole.name d_is_whole.qual d_is_whole.params d_is_whole.body d_is_whole.scope (d_is_whole.dvs K) (d_is_whole.kws K) (He.fAd K d_is_whole.at_) (fd 0)
  i_is_whole : FnI K ⟨He.fAd K d_is_whole.at_, fd 0, ["thing"]⟩
  D_is_sequence : FunD K d_is_sequence.name d_is_sequence.qual d_is_sequence.params d_is_sequence.body d_is_sequence.scope (d_is_sequence.dvs K) (d_is_sequence.kws K) (He.fAd K d_is_sequence.at_) (fd 1)
  i_is_sequence : FnI K ⟨He.fAd K d_is_sequence.at_, fd 1, ["thing"]⟩
  D_form_value : FunD K d_form_value.name d_form_value.qual d_form_value.params d_form_value.body d_form_value.scope (d_form_value.dvs K) (d_form_value.kws K) (He.fAd K d_form_value.at_) (fd 2)
  i_form_value : FnI K ⟨He.fAd K d_form_value.at_, fd 2, ["form", "numbers"]⟩
  D_check_system : FunD K d_check_system.name d_check_system.qual d_check_system.params d_check_system.body d_check_system.scope (d_check_system.dvs K) (d_check_system.kws K) (He.fAd K d_check_system.at_) (fd 3)
  i_check_system : FnI K ⟨He.fAd K d_check_system.at_, fd 3, ["system"]⟩
  D_variable_count : FunD K d_variable_count.name d_variable_count.qual d_variable_count.params d_variable_count.body d_variable_count.scope (d_variable_count.dvs K) (d_variable_count.kws K) (He.fAd K d_variable_count.at_) (fd 4)
  i_variable_count : FnI K ⟨He.fAd K d_variable_count.at_, fd 4, ["system"]⟩
  D_start_row_of : FunD K d_start_row_of.name d_start_row_of.qual d_start_row_of.params d_start_row_of.body d_start_row_of.scope (d_start_row_of.dvs K) (d_start_row_of.kws K) (He.fAd K d_start_row_of.at_) (fd 5)
  i_start_row_of : FnI K ⟨He.fAd K d_start_row_of.at_, fd 5, ["system"]⟩
  D_is_zero_row : FunD K d_is_zero_row.name d_is_zero_row.qual d_is_zero_row.params d_is_zero_row.body d_is_zero_row.scope (d_is_zero_row.dvs K) (d_is_zero_row.kws K) (He.fAd K d_is_zero_row.at_) (fd 6)
  i_is_zero_row : FnI K ⟨He.fAd K d_is_zero_row.at_, fd 6, ["carry_row"]⟩
  D_figure_sums : FunD K d_figure_sums.name d_figure_sums.qual d_figure_sums.params d_figure_sums.body d_figure_sums.scope (d_figure_sums.dvs K) (d_figure_sums.kws K) (He.fAd K d_figure_sums.at_) (fd 7)
  i_figure_sums : FnI K ⟨He.fAd K d_figure_sums.at_, fd 7, ["system"]⟩
  D_turned_row : FunD K d_turned_row.name d_turned_row.qual d_turned_row.params d_turned_row.body d_turned_row.scope (d_turned_row.dvs K) (d_turned_row.kws K) (He.fAd K d_turned_row.at_) (fd 8)
  i_turned_row : FnI K ⟨He.fAd K d_turned_row.at_, fd 8, ["carry_row", "sums"]⟩
  D_read_answer : FunD K d_read_answer.name d_read_answer.qual d_read_answer.params d_read_answer.body d_read_answer.scope (d_read_answer.dvs K) (d_read_answer.kws K) (He.fAd K d_read_answer.at_) (fd 9)
  i_read_answer : FnI K ⟨He.fAd K d_read_answer.at_, fd 9, ["came", "carry_row", "many"]⟩
  D_whole : FunD K d_whole.name d_whole.qual d_whole.params d_whole.body d_whole.scope (d_whole.dvs K) (d_whole.kws K) (He.fAd K d_whole.at_) (fd 10)
  i_whole : FnI K ⟨He.fAd K d_whole.at_, fd 10, ["system"]⟩
  D_judge_carries : FunD K d_judge_carries.name d_judge_carries.qual d_judge_carries.params d_judge_carries.body d_judge_carries.scope (d_judge_carries.dvs K) (d_judge_carries.kws K) (He.fAd K d_judge_carries.at_) (fd 11)
  i_judge_carries : FnI K ⟨He.fAd K d_judge_carries.at_, fd 11, ["system", "carries"]⟩
  D_Answer__init_ : FunD K d_Answer__init_.name d_Answer__init_.qual d_Answer__init_.params d_Answer__init_.body d_Answer__init_.scope (d_Answer__init_.dvs K) (d_Answer__init_.kws K) (He.fAd K d_Answer__init_.at_) (fd 12)
  i_Answer__init_ : FnI K ⟨He.fAd K d_Answer__init_.at_, fd 12, ["self", "numbers"]⟩
  D_Answer__eq_ : FunD K d_Answer__eq_.name d_Answer__eq_.qual d_Answer__eq_.params d_Answer__eq_.body d_Answer__eq_.scope (d_Answer__eq_.dvs K) (d_Answer__eq_.kws K) (He.fAd K d_Answer__eq_.at_) (fd 13)
  i_Answer__eq_ : FnI K ⟨He.fAd K d_Answer__eq_.at_, fd 13, ["self", "other"]⟩
  D_Carries__init_ : FunD K d_Carries__init_.name d_Carries__init_.qual d_Carries__init_.params d_Carries__init_.body d_Carries__init_.scope (d_Carries__init_.dvs K) (d_Carries__init_.kws K) (He.fAd K d_Carries__init_.at_) (fd 14)
  i_Carries__init_ : FnI K ⟨He.fAd K d_Carries__init_.at_, fd 14, ["self", "rows"]⟩
  D_Carries__eq_ : FunD K d_Carries__eq_.name d_Carries__eq_.qual d_Carries__eq_.params d_Carries__eq_.body d_Carries__eq_.scope (d_Carries__eq_.dvs K) (d_Carries__eq_.kws K) (He.fAd K d_Carries__eq_.at_) (fd 15)
  i_Carries__eq_ : FnI K ⟨He.fAd K d_Carries__eq_.at_, fd 15, ["self", "other"]⟩
  D__law_source : FunD K d__law_source.name d__law_source.qual d__law_source.params d__law_source.body d__law_source.scope (d__law_source.dvs K) (d__law_source.kws K) (He.fAd K d__law_source.at_) (fd 16)
  i__law_source : FnI K ⟨He.fAd K d__law_source.at_, fd 16, ["_law_script"]⟩
  D__law_take : FunD K d__law_take.name d__law_take.qual d__law_take.params d__law_take.body d__law_take.scope (d__law_take.dvs K) (d__law_take.kws K) (He.fAd K d__law_take.at_) (fd 17)
  i__law_take : FnI K ⟨He.fAd K d__law_take.at_, fd 17, ["_law_source_here", "_law_many"]⟩
  D__law_value : FunD K d__law_value.name d__law_value.qual d__law_value.params d__law_value.body d__law_value.scope (d__law_value.dvs K) (d__law_value.kws K) (He.fAd K d__law_value.at_) (fd 18)
  i__law_value : FnI K ⟨He.fAd K d__law_value.at_, fd 18, ["_law_form", "_law_numbers"]⟩
  D__law_figures : FunD K d__law_figures.name d__law_figures.qual d__law_figures.params d__law_figures.body d__law_figures.scope (d__law_figures.dvs K) (d__law_figures.kws K) (He.fAd K d__law_figures.at_) (fd 19)
  i__law_figures : FnI K ⟨He.fAd K d__law_figures.at_, fd 19, ["_law_number"]⟩
  D__law_used : FunD K d__law_used.name d__law_used.qual d__law_used.params d__law_used.body d__law_used.scope (d__law_used.dvs K) (d__law_used.kws K) (He.fAd K d__law_used.at_) (fd 20)
  i__law_used : FnI K ⟨He.fAd K d__law_used.at_, fd 20, ["_law_system_here"]⟩
  D__law_figure_rows : FunD K d__law_figure_rows.name d__law_figure_rows.qual d__law_figure_rows.params d__law_figure_rows.body d__law_figure_rows.scope (d__law_figure_rows.dvs K) (d__law_figure_rows.kws K) (He.fAd K d__law_figure_rows.at_) (fd 21)
  i__law_figure_rows : FnI K ⟨He.fAd K d__law_figure_rows.at_, fd 21, ["_law_system_here"]⟩
  D__law_next : FunD K d__law_next.name d__law_next.qual d__law_next.params d__law_next.body d__law_next.scope (d__law_next.dvs K) (d__law_next.kws K) (He.fAd K d__law_next.at_) (fd 22)
  i__law_next : FnI K ⟨He.fAd K d__law_next.at_, fd 22, ["_law_system_here", "_law_carry", "_law_figures_here"]⟩
  D__law_turns : FunD K d__law_turns.name d__law_turns.qual d__law_turns.params d__law_turns.body d__law_turns.scope (d__law_turns.dvs K) (d__law_turns.kws K) (He.fAd K d__law_turns.at_) (fd 23)
  i__law_turns : FnI K ⟨He.fAd K d__law_turns.at_, fd 23, ["_law_system_here", "_law_carry"]⟩
  D__law_system : FunD K d__law_system.name d__law_system.qual d__law_system.params d__law_system.body d__law_system.scope (d__law_system.dvs K) (d__law_system.kws K) (He.fAd K d__law_system.at_) (fd 24)
  i__law_system : FnI K ⟨He.fAd K d__law_system.at_, fd 24, ["_law_source_here", "_law_most_equations", "_law_variables", "_law_factor", "_law_number"]⟩
  D__law_made_system : FunD K d__law_made_system.name d__law_made_system.qual d__law_made_system.params d__law_made_system.body d__law_made_system.scope (d__law_made_system.dvs K) (d__law_made_system.kws K) (He.fAd K d__law_made_system.at_) (fd 25)
  i__law_made_system : FnI K ⟨He.fAd K d__law_made_system.at_, fd 25, ["_law_source_here", "_law_equations", "_law_factor", "_law_numbers"]⟩
  D__law_either : FunD K d__law_either.name d__law_either.qual d__law_either.params d__law_either.body d__law_either.scope (d__law_either.dvs K) (d__law_either.kws K) (He.fAd K d__law_either.at_) (fd 26)
  i__law_either : FnI K ⟨He.fAd K d__law_either.at_, fd 26, ["_law_source_here", "_law_thing"]⟩
  D__law_handed : FunD K d__law_handed.name d__law_handed.qual d__law_handed.params d__law_handed.body d__law_handed.scope (d__law_handed.dvs K) (d__law_handed.kws K) (He.fAd K d__law_handed.at_) (fd 27)
  i__law_handed : FnI K ⟨He.fAd K d__law_handed.at_, fd 27, ["_law_source_here", "_law_system_here"]⟩
  D__law_is_whole : FunD K d__law_is_whole.name d__law_is_whole.qual d__law_is_whole.params d__law_is_whole.body d__law_is_whole.scope (d__law_is_whole.dvs K) (d__law_is_whole.kws K) (He.fAd K d__law_is_whole.at_) (fd 28)
  i__law_is_whole : FnI K ⟨He.fAd K d__law_is_whole.at_, fd 28, ["_law_thing"]⟩
  D__law_wholes : FunD K d__law_wholes.name d__law_wholes.qual d__law_wholes.params d__law_wholes.body d__law_wholes.scope (d__law_wholes.dvs K) (d__law_wholes.kws K) (He.fAd K d__law_wholes.at_) (fd 29)
  i__law_wholes : FnI K ⟨He.fAd K d__law_wholes.at_, fd 29, ["_law_thing", "_law_many"]⟩
  D__law_equal_system : FunD K d__law_equal_system.name d__law_equal_system.qual d__law_equal_system.params d__law_equal_system.body d__law_equal_system.scope (d__law_equal_system.dvs K) (d__law_equal_system.kws K) (He.fAd K d__law_equal_system.at_) (fd 30)
  i__law_equal_system : FnI K ⟨He.fAd K d__law_equal_system.at_, fd 30, ["_law_source_here", "_law_system_here"]⟩
  D__law_small_round : FunD K d__law_small_round.name d__law_small_round.qual d__law_small_round.params d__law_small_round.body d__law_small_round.scope (d__law_small_round.dvs K) (d__law_small_round.kws K) (He.fAd K d__law_small_round.at_) (fd 31)
  i__law_small_round : FnI K ⟨He.fAd K d__law_small_round.at_, fd 31, ["_law_source_here"]⟩
  D__law_great_round : FunD K d__law_great_round.name d__law_great_round.qual d__law_great_round.params d__law_great_round.body d__law_great_round.scope (d__law_great_round.dvs K) (d__law_great_round.kws K) (He.fAd K d__law_great_round.at_) (fd 32)
  i__law_great_round : FnI K ⟨He.fAd K d__law_great_round.at_, fd 32, ["_law_source_here"]⟩
  D__law_shut_round : FunD K d__law_shut_round.name d__law_shut_round.qual d__law_shut_round.params d__law_shut_round.body d__law_shut_round.scope (d__law_shut_round.dvs K) (d__law_shut_round.kws K) (He.fAd K d__law_shut_round.at_) (fd 33)
  i__law_shut_round : FnI K ⟨He.fAd K d__law_shut_round.at_, fd 33, ["_law_source_here"]⟩
  D_law : FunD K d_law.name d_law.qual d_law.params d_law.body d_law.scope (d_law.dvs K) (d_law.kws K) (He.fAd K d_law.at_) (fd 34)
  i_law : FnI K ⟨He.fAd K d_law.at_, fd 34, ["_law_script"]⟩
  g_Answer : mg "Answer" = some (.ref (He.ga K "Answer"))
  g_BadEquation : mg "BadEquation" = some (.ref (He.ga K "BadEquation"))
  g_Carries : mg "Carries" = some (.ref (He.ga K "Carries"))
  g_PressError : mg "PressError" = some (.ref (He.ga K "PressError"))
  g__law_either : mg "_law_either" = some (.ref (He.ga K "_law_either"))
  g__law_equal_system : mg "_law_equal_system" = some (.ref (He.ga K "_law_equal_system"))
  g__law_figure_rows : mg "_law_figure_rows" = some (.ref (He.ga K "_law_figure_rows"))
  g__law_figures : mg "_law_figures" = some (.ref (He.ga K "_law_figures"))
  g__law_great_round : mg "_law_great_round" = some (.ref (He.ga K "_law_great_round"))
  g__law_handed : mg "_law_handed" = some (.ref (He.ga K "_law_handed"))
  g__law_is_whole : mg "_law_is_whole" = some (.ref (He.ga K "_law_is_whole"))
  g__law_made_system : mg "_law_made_system" = some (.ref (He.ga K "_law_made_system"))
  g__law_next : mg "_law_next" = some (.ref (He.ga K "_law_next"))
  g__law_shut_round : mg "_law_shut_round" = some (.ref (He.ga K "_law_shut_round"))
  g__law_small_round : mg "_law_small_round" = some (.ref (He.ga K "_law_small_round"))
  g__law_source : mg "_law_source" = some (.ref (He.ga K "_law_source"))
  g__law_system : mg "_law_system" = some (.ref (He.ga K "_law_system"))
  g__law_take : mg "_law_take" = some (.ref (He.ga K "_law_take"))
  g__law_turns : mg "_law_turns" = some (.ref (He.ga K "_law_turns"))
  g__law_used : mg "_law_used" = some (.ref (He.ga K "_law_used"))
  g__law_value : mg "_law_value" = some (.ref (He.ga K "_law_value"))
  g__law_wholes : mg "_law_wholes" = some (.ref (He.ga K "_law_wholes"))
  g_check_system : mg "check_system" = some (.ref (He.ga K "check_system"))
  g_figure_sums : mg "figure_sums" = some (.ref (He.ga K "figure_sums"))
  g_form_value : mg "form_value" = some (.ref (He.ga K "form_value"))
  g_is_sequence : mg "is_sequence" = some (.ref (He.ga K "is_sequence"))
  g_is_whole : mg "is_whole" = some (.ref (He.ga K "is_whole"))
  g_is_zero_row : mg "is_zero_row" = some (.ref (He.ga K "is_zero_row"))
  g_judge_carries : mg "judge_carries" = some (.ref (He.ga K "judge_carries"))
  g_law : mg "law" = some (.ref (He.ga K "law"))
  g_read_answer : mg "read_answer" = some (.ref (He.ga K "read_answer"))
  g_start_row_of : mg "start_row_of" = some (.ref (He.ga K "start_row_of"))
  g_turned_row : mg "turned_row" = some (.ref (He.ga K "turned_row"))
  g_variable_count : mg "variable_count" = some (.ref (He.ga K "variable_count"))
  g_whole : mg "whole" = some (.ref (He.ga K "whole"))
  f_abs : mg "abs" = none
  f_bool : mg "bool" = none
  f_divmod : mg "divmod" = none
  f_enumerate : mg "enumerate" = none
  f_int : mg "int" = none
  f_isinstance : mg "isinstance" = none
  f_len : mg "len" = none
  f_list : mg "list" = none
  f_max : mg "max" = none
  f_range : mg "range" = none
  f_sorted : mg "sorted" = none
  f_sum : mg "sum" = none
  f_tuple : mg "tuple" = none
  f_zip : mg "zip" = none
  c_Answer : Cls K (He.ga K "Answer")
  c_Carries : Cls K (He.ga K "Carries")
  n_Answer_numbers : NoAttr K (He.ga K "Answer") "numbers"
  n_Carries_rows : NoAttr K (He.ga K "Carries") "rows"
  m_Answer : Mk K (He.ga K "Answer") (He.fAd K d_Answer__init_.at_)
  m_Carries : Mk K (He.ga K "Carries") (He.fAd K d_Carries__init_.at_)
  e_Answer : Meth K (He.ga K "Answer") "__eq__" (He.fAd K d_Answer__eq_.at_)
  e_Carries : Meth K (He.ga K "Carries") "__eq__" (He.fAd K d_Carries__eq_.at_)
  w_isi : isiAllB K cn isOk = true
  w_kit : kitAllB K cn isOk isBt isCs = true
  w_nf : nfAllB K cn (eqTab.map (·.1)) = true
  w_x : xAllB K cn xS = true
  w_kx : kitXB K cn xPar xS xT = true
  w_ky : kitYB K cn xS xY = true
  w_b : bareAllB K cn xBare = true
section
variable {K : PySem.W.Frag} {mg : Str → Option Value} {fd : Nat → FuncData}
theorem fx_of {h : Heap} (X : K.In h) (G : h.Ns mainGlobals mg) (c : SaysM (fun K => (xf K).all id) fa fn K) (hd : ∀ i d, fn[i]? = some d → FunD K d.name d.qual d.params d.body d.scope (d.dvs K) (d.kws K) (He.fAd K d.at_) (fd i)) : Fx K mg fd where
  D_is_whole := hd 0 _ rfl
  i_is_whole := ⟨(hd 0 _ rfl).kp, (hd 0 _ rfl).bindsN fun _ _ _ _ _ _ us hl => match us, hl with | [_], _ => rfl⟩
  D_is_sequence := hd 1 _ rfl
  i_is_sequence := ⟨(hd 1 _ rfl).kp, (hd 1 _ rfl).bindsN fun _ _ _ _ _ _ us hl => match us, hl with | [_], _ => rfl⟩
  D_form_value := hd 2 _ rfl
  i_form_value := ⟨(hd 2 _ rfl).kp, (hd 2 _ rfl).bindsN fun _ _ _ _ _ _ us hl => match us, hl with | [_, _], _ => rfl⟩
  D_check_system := hd 3 _ rfl
  i_check_system := ⟨(hd 3 _ rfl).kp, (hd 3 _ rfl).bindsN fun _ _ _ _ _ _ us hl => match us, hl with | [_], _ => rfl⟩
  D_variable_count := hd 4 _ rfl
  i_variable_count := ⟨(hd 4 _ rfl).kp, (hd 4 _ rfl).bindsN fun _ _ _ _ _ _ us hl => match us, hl with | [_], _ => rfl⟩
  D_start_row_of := hd 5 _ rfl
  i_start_row_of := ⟨(hd 5 _ rfl).kp, (hd 5 _ rfl).bindsN fun _ _ _ _ _ _ us hl => match us, hl with | [_], _ => rfl⟩
  D_is_zero_row := hd 6 _ rfl
  i_is_zero_row := ⟨(hd 6 _ rfl).kp, (hd 6 _ rfl).bindsN fun _ _ _ _ _ _ us hl => match us, hl with | [_], _ => rfl⟩
  D_figure_sums := hd 7 _ rfl
  i_figure_sums := ⟨(hd 7 _ rfl).kp, (hd 7 _ rfl).bindsN fun _ _ _ _ _ _ us hl => match us, hl with | [_], _ => rfl⟩
  D_turned_row := hd 8 _ rfl
  i_turned_row := ⟨(hd 8 _ rfl).kp, (hd 8 _ rfl).bindsN fun _ _ _ _ _ _ us hl => match us, hl with | [_, _], _ => rfl⟩
  D_read_answer := hd 9 _ rfl
  i_read_answer := ⟨(hd 9 _ rfl).kp, (hd 9 _ rfl).bindsN fun _ _ _ _ _ _ us hl => match us, hl with | [_, _, _], _ => rfl⟩
  D_whole := hd 10 _ rfl
  i_whole := ⟨(hd 10 _ rfl).kp, (hd 10 _ rfl).bindsN fun _ _ _ _ _ _ us hl => match us, hl with | [_], _ => rfl⟩
  D_judge_carries := hd 11 _ rfl
  i_judge_carries := ⟨(hd 11 _ rfl).kp, (hd 11 _ rfl).bindsN fun _ _ _ _ _ _ us hl => match us, hl with | [_, _], _ => rfl⟩
  D_Answer__init_ := hd 12 _ rfl
  i_Answer__init_ := ⟨(hd 12 _ rfl).kp, (hd 12 _ rfl).bindsN fun _ _ _ _ _ _ us hl => match us, hl with | [_, _], _ => rfl⟩
  D_Answer__eq_ := hd 13 _ rfl
  i_Answer__eq_ := ⟨(hd 13 _ rfl).kp, (hd 13 _ rfl).bindsN fun _ _ _ _ _ _ us hl => match us, hl with | [_, _], _ => rfl⟩
  D_Carries__init_ := hd 14 _ rfl
  i_Carries__init_ := ⟨(hd 14 _ rfl).kp, (hd 14 _ rfl).bindsN fun _ _ _ _ _ _ us hl => match us, hl with | [_, _], _ => rfl⟩
  D_Carries__eq_ := hd 15 _ rfl
  i_Carries__eq_ := ⟨(hd 15 _ rfl).kp, (hd 15 _ rfl).bindsN fun _ _ _ _ _ _ us hl => match us, hl with | [_, _], _ => rfl⟩
  D__law_source := hd 16 _ rfl
  i__law_source := ⟨(hd 16 _ rfl).kp, (hd 16 _ rfl).bindsN fun _ _ _ _ _ _ us hl => match us, hl with | [_], _ => rfl⟩
  D__law_take := hd 17 _ rfl
  i__law_take := ⟨(hd 17 _ rfl).kp, (hd 17 _ rfl).bindsN fun _ _ _ _ _ _ us hl => match us, hl with | [_, _], _ => rfl⟩
  D__law_value := hd 18 _ rfl
  i__law_value := ⟨(hd 18 _ rfl).kp, (hd 18 _ rfl).bindsN fun _ _ _ _ _ _ us hl => match us, hl with | [_, _], _ => rfl⟩
  D__law_figures := hd 19 _ rfl
  i__law_figures := ⟨(hd 19 _ rfl).kp, (hd 19 _ rfl).bindsN fun _ _ _ _ _ _ us hl => match us, hl with | [_], _ => rfl⟩
  D__law_used := hd 20 _ rfl
  i__law_used := ⟨(hd 20 _ rfl).kp, (hd 20 _ rfl).bindsN fun _ _ _ _ _ _ us hl => match us, hl with | [_], _ => rfl⟩
  D__law_figure_rows := hd 21 _ rfl
  i__law_figure_rows := ⟨(hd 21 _ rfl).kp, (hd 21 _ rfl).bindsN fun _ _ _ _ _ _ us hl => match us, hl with | [_], _ => rfl⟩
  D__law_next := hd 22 _ rfl
  i__law_next := ⟨(hd 22 _ rfl).kp, (hd 22 _ rfl).bindsN fun _ _ _ _ _ _ us hl => match us, hl with | [_, _, _], _ => rfl⟩
  D__law_turns := hd 23 _ rfl
  i__law_turns := ⟨(hd 23 _ rfl).kp, (hd 23 _ rfl).bindsN fun _ _ _ _ _ _ us hl => match us, hl with | [_, _], _ => rfl⟩
  D__law_system := hd 24 _ rfl
  i__law_system := ⟨(hd 24 _ rfl).kp, (hd 24 _ rfl).bindsN fun _ _ _ _ _ _ us hl => match us, hl with | [_, _, _, _, _], _ => rfl⟩
  D__law_made_system := hd 25 _ rfl
  i__law_made_system := ⟨(hd 25 _ rfl).kp, (hd 25 _ rfl).bindsN fun _ _ _ _ _ _ us hl => match us, hl with | [_, _, _, _], _ => rfl⟩
  D__law_either := hd 26 _ rfl
  i__law_either := ⟨(hd 26 _ rfl).kp, (hd 26 _ rfl).bindsN fun _ _ _ _ _ _ us hl => match us, hl with | [_, _], _ => rfl⟩
  D__law_handed := hd 27 _ rfl
  i__law_handed := ⟨(hd 27 _ rfl).kp, (hd 27 _ rfl).bindsN fun _ _ _ _ _ _ us hl => match us, hl with | [_, _], _ => rfl⟩
  D__law_is_whole := hd 28 _ rfl
  i__law_is_whole := ⟨(hd 28 _ rfl).kp, (hd 28 _ rfl).bindsN fun _ _ _ _ _ _ us hl => match us, hl with | [_], _ => rfl⟩
  D__law_wholes := hd 29 _ rfl
  i__law_wholes := ⟨(hd 29 _ rfl).kp, (hd 29 _ rfl).bindsN fun _ _ _ _ _ _ us hl => match us, hl with | [_, _], _ => rfl⟩
  D__law_equal_system := hd 30 _ rfl
  i__law_equal_system := ⟨(hd 30 _ rfl).kp, (hd 30 _ rfl).bindsN fun _ _ _ _ _ _ us hl => match us, hl with | [_, _], _ => rfl⟩
  D__law_small_round := hd 31 _ rfl
  i__law_small_round := ⟨(hd 31 _ rfl).kp, (hd 31 _ rfl).bindsN fun _ _ _ _ _ _ us hl => match us, hl with | [_], _ => rfl⟩
  D__law_great_round := hd 32 _ rfl
  i__law_great_round := ⟨(hd 32 _ rfl).kp, (hd 32 _ rfl).bindsN fun _ _ _ _ _ _ us hl => match us, hl with | [_], _ => rfl⟩
  D__law_shut_round := hd 33 _ rfl
  i__law_shut_round := ⟨(hd 33 _ rfl).kp, (hd 33 _ rfl).bindsN fun _ _ _ _ _ _ us hl => match us, hl with | [_], _ => rfl⟩
  D_law := hd 34 _ rfl
  i_law := ⟨(hd 34 _ rfl).kp, (hd 34 _ rfl).bindsN fun _ _ _ _ _ _ us hl => match us, hl with | [_], _ => rfl⟩
  g_Answer := He.glo_ok X G (c.d.fact 0 rfl)
  g_BadEquation := He.glo_ok X G (c.d.fact 1 rfl)
  g_Carries := He.glo_ok X G (c.d.fact 2 rfl)
  g_PressError := He.glo_ok X G (c.d.fact 3 rfl)
  g__law_either := He.glo_ok X G (c.d.fact 4 rfl)
  g__law_equal_system := He.glo_ok X G (c.d.fact 5 rfl)
  g__law_figure_rows := He.glo_ok X G (c.d.fact 6 rfl)
  g__law_figures := He.glo_ok X G (c.d.fact 7 rfl)
  g__law_great_round := He.glo_ok X G (c.d.fact 8 rfl)
  g__law_handed := He.glo_ok X G (c.d.fact 9 rfl)
  g__law_is_whole := He.glo_ok X G (c.d.fact 10 rfl)
  g__law_made_system := He.glo_ok X G (c.d.fact 11 rfl)
  g__law_next := He.glo_ok X G (c.d.fact 12 rfl)
  g__law_shut_round := He.glo_ok X G (c.d.fact 13 rfl)
  g__law_small_round := He.glo_ok X G (c.d.fact 14 rfl)
  g__law_source := He.glo_ok X G (c.d.fact 15 rfl)
  g__law_system := He.glo_ok X G (c.d.fact 16 rfl)
  g__law_take := He.glo_ok X G (c.d.fact 17 rfl)
  g__law_turns := He.glo_ok X G (c.d.fact 18 rfl)
  g__law_used := He.glo_ok X G (c.d.fact 19 rfl)
  g__law_value := He.glo_ok X G (c.d.fact 20 rfl)
  g__law_wholes := He.glo_ok X G (c.d.fact 21 rfl)
  g_check_system := He.glo_ok X G (c.d.fact 22 rfl)
  g_figure_sums := He.glo_ok X G (c.d.fact 23 rfl)
  g_form_value := He.glo_ok X G (c.d.fact 24 rfl)
  g_is_sequence := He.glo_ok X G (c.d.fact 25 rfl)
  g_is_whole := He.glo_ok X G (c.d.fact 26 rfl)
  g_is_zero_row := He.glo_ok X G (c.d.fact 27 rfl)
  g_judge_carries := He.glo_ok X G (c.d.fact 28 rfl)
  g_law := He.glo_ok X G (c.d.fact 29 rfl)
  g_read_answer := He.glo_ok X G (c.d.fact 30 rfl)
  g_start_row_of := He.glo_ok X G (c.d.fact 31 rfl)
  g_turned_row := He.glo_ok X G (c.d.fact 32 rfl)
  g_variable_count := He.glo_ok X G (c.d.fact 33 rfl)
  g_whole := He.glo_ok X G (c.d.fact 34 rfl)
  f_abs := He.free_ok X G (c.d.fact 35 rfl)
  f_bool := He.free_ok X G (c.d.fact 36 rfl)
  f_divmod := He.free_ok X G (c.d.fact 37 rfl)
  f_enumerate := He.free_ok X G (c.d.fact 38 rfl)
  f_int := He.free_ok X G (c.d.fact 39 rfl)
  f_isinstance := He.free_ok X G (c.d.fact 40 rfl)
  f_len := He.free_ok X G (c.d.fact 41 rfl)
  f_list := He.free_ok X G (c.d.fact 42 rfl)
  f_max := He.free_ok X G (c.d.fact 43 rfl)
  f_range := He.free_ok X G (c.d.fact 44 rfl)
  f_sorted := He.free_ok X G (c.d.fact 45 rfl)
  f_sum := He.free_ok X G (c.d.fact 46 rfl)
  f_tuple := He.free_ok X G (c.d.fact 47 rfl)
  f_zip := He.free_ok X G (c.d.fact 48 rfl)
  c_Answer := He.cls_ok (c.d.fact 49 rfl)
  c_Carries := He.cls_ok (c.d.fact 50 rfl)
  n_Answer_numbers := He.noat_ok (c.d.fact 51 rfl)
  n_Carries_rows := He.noat_ok (c.d.fact 52 rfl)
  m_Answer := He.mkr_ok (c.d.fact 53 rfl)
  m_Carries := He.mkr_ok (c.d.fact 54 rfl)
  e_Answer := He.meth_ok (c.d.fact 55 rfl)
  e_Carries := He.meth_ok (c.d.fact 56 rfl)
  w_isi := List.all_eq_true.mp c.x _ (List.mem_of_getElem? (i := 0) rfl)
  w_kit := List.all_eq_true.mp c.x _ (List.mem_of_getElem? (i := 1) rfl)
  w_nf := List.all_eq_true.mp c.x _ (List.mem_of_getElem? (i := 2) rfl)
  w_x := List.all_eq_true.mp c.x _ (List.mem_of_getElem? (i := 3) rfl)
  w_kx := List.all_eq_true.mp c.x _ (List.mem_of_getElem? (i := 4) rfl)
  w_ky := List.all_eq_true.mp c.x _ (List.mem_of_getElem? (i := 5) rfl)
  w_b := List.all_eq_true.mp c.x _ (List.mem_of_getElem? (i := 6) rfl)
theorem hok_numbers (fx : Fx K mg fd) (C : Nat) (h : ok_numbers C = true) : Cls K ((ct K).ca C) ∧ NoAttr K ((ct K).ca C) "numbers" := by
  simp only [ok_numbers, Bool.or_eq_true, beq_iff_eq] at h
  subst h; exact ⟨fx.c_Answer, fx.n_Answer_numbers⟩
theorem hok_rows (fx : Fx K mg fd) (C : Nat) (h : ok_rows C = true) : Cls K ((ct K).ca C) ∧ NoAttr K ((ct K).ca C) "rows" := by
  simp only [ok_rows, Bool.or_eq_true, beq_iff_eq] at h
  subst h; exact ⟨fx.c_Carries, fx.n_Carries_rows⟩
theorem isiOk (fx : Fx K mg fd) {C : Nat} (h : C ∈ isCs) : IsiOk K (ct K) (.ref ((ct K).ca C)) (isiT isOk isBt C) := by
  refine isiT_ok (cn := cn) (cs := isCs) (fun _ => rfl) (fun E hE => ?_) fx.w_isi fx.w_kit h
  simp only [isOk, List.mem_cons, List.not_mem_nil, or_false] at hE
  rcases hE with rfl | rfl
  · exact fx.c_Answer
  · exact fx.c_Carries
end
section
variable {P : Program} {w : World} {K : PySem.W.Frag} {mg : Str → Option Value} {base : Heap} {fd : Nat → FuncData}
theorem eqcs {X : Cx} (fx : Fx X.K mg fd) : EqCs X (ct X.K) (fns X.K fd) eqTab :=
  (.cons (.mk' rfl fx.e_Answer fx.i_Answer__eq_) (.cons (.mk' rfl fx.e_Carries fx.i_Carries__eq_) .nil))
theorem eqt {X : Cx} (fx : Fx X.K mg fd) : EqT X (ct X.K) (fns X.K fd) eqTab := (eqcs fx).tab (fun _ => rfl) fx.w_nf
abbrev N_is_whole : List Str := ["thing"]
theorem sc_is_whole : FnScope N_is_whole ["thing"] (defScope s_is_whole) := ⟨by kernel_rfl, by kernel_rfl, by kernel_rfl, by decide +kernel, rfl, by decide +kernel, by decide +kernel⟩
theorem t_is_whole (fx : Fx K mg fd) (call : CallT) (n : Nat) (cdv : Value) (A : Around) (outer : List Env) (s : Shared) (H : Hp) (E : XK) (c : Cq (cxOf (L2.CX P w) P w K mg base N_is_whole "is_whole" (defScope s_is_whole) (He.fAd K d_is_whole.at_) cdv A outer s H E) (ct K) (fns K fd) call n) :
    SSs (cxOf (L2.CX P w) P w K mg base N_is_whole "is_whole" (defScope s_is_whole) (He.fAd K d_is_whole.at_) cdv A outer s H E) (ct K) (fun c d _ H' => E c d H') (defBody s_is_whole) (m_is_whole call) := by
  have tk : Takes (cxOf (L2.CX P w) P w K mg base N_is_whole "is_whole" (defScope s_is_whole) (He.fAd K d_is_whole.at_) cdv A outer s H E) (fun cls d _ H' => E cls d H') := takes_of rfl rfl rfl rfl
  have nd := sc_is_whole.nd
  have po : PassesOwn (model P w) (cxOf (L2.CX P w) P w K mg base N_is_whole "is_whole" (defScope s_is_whole) (He.fAd K d_is_whole.at_) cdv A outer s H E).A (cxOf (L2.CX P w) P w K mg base N_is_whole "is_whole" (defScope s_is_whole) (He.fAd K d_is_whole.at_) cdv A outer s H E).env (cxOf (L2.CX P w) P w K mg base N_is_whole "is_whole" (defScope s_is_whole) (He.fAd K d_is_whole.at_) cdv A outer s H E).xe := passes_of rfl
  exact (sss_one (ss_ret' (se_and (se_isiB rfl fx.f_int (by decide +kernel) Mi.isi_int rfl fx.f_isinstance (se_var 0)) (se_one (se_not (se_isiB rfl fx.f_bool (by decide +kernel) Mi.isi_bool rfl fx.f_isinstance (se_var 0)))))))
theorem b_is_whole (fx : Fx K mg fd) : BodyOk P w K mg base (ct K) (fns K fd) ⟨He.fAd K d_is_whole.at_, fd 0, ["thing"]⟩ ⟨1, 1, false, m_is_whole⟩ :=
  ⟨_, "is_whole", _, _, _, _, _, N_is_whole, fx.D_is_whole, sc_is_whole, rfl, rfl, by decide, fun call n co cdv A outer s H E hr => t_is_whole fx call n cdv A outer s H E ⟨co, hr⟩⟩
abbrev N_is_sequence : List Str := ["thing"]
theorem sc_is_sequence : FnScope N_is_sequence ["thing"] (defScope s_is_sequence) := ⟨by kernel_rfl, by kernel_rfl, by kernel_rfl, by decide +kernel, rfl, by decide +kernel, by decide +kernel⟩
theorem t_is_sequence (fx : Fx K mg fd) (call : CallT) (n : Nat) (cdv : Value) (A : Around) (outer : List Env) (s : Shared) (H : Hp) (E : XK) (c : Cq (cxOf (L2.CX P w) P w K mg base N_is_sequence "is_sequence" (defScope s_is_sequence) (He.fAd K d_is_sequence.at_) cdv A outer s H E) (ct K) (fns K fd) call n) :
    SSs (cxOf (L2.CX P w) P w K mg base N_is_sequence "is_sequence" (defScope s_is_sequence) (He.fAd K d_is_sequence.at_) cdv A outer s H E) (ct K) (fun c d _ H' => E c d H') (defBody s_is_sequence) (m_is_sequence call) := by
  have tk : Takes (cxOf (L2.CX P w) P w K mg base N_is_sequence "is_sequence" (defScope s_is_sequence) (He.fAd K d_is_sequence.at_) cdv A outer s H E) (fun cls d _ H' => E cls d H') := takes_of rfl rfl rfl rfl
  have nd := sc_is_sequence.nd
  have po : PassesOwn (model P w) (cxOf (L2.CX P w) P w K mg base N_is_sequence "is_sequence" (defScope s_is_sequence) (He.fAd K d_is_sequence.at_) cdv A outer s H E).A (cxOf (L2.CX P w) P w K mg base N_is_sequence "is_sequence" (defScope s_is_sequence) (He.fAd K d_is_sequence.at_) cdv A outer s H E).env (cxOf (L2.CX P w) P w K mg base N_is_sequence "is_sequence" (defScope s_is_sequence) (He.fAd K d_is_sequence.at_) cdv A outer s H E).xe := passes_of rfl
  exact (sss_one (ss_ret' (se_or (se_isiB rfl fx.f_list (by decide +kernel) Mi.isi_list rfl fx.f_isinstance (se_var 0)) (se_one (se_isiB rfl fx.f_tuple (by decide +kernel) Mi.isi_tuple rfl fx.f_isinstance (se_var 0))))))
theorem b_is_sequence (fx : Fx K mg fd) : BodyOk P w K mg base (ct K) (fns K fd) ⟨He.fAd K d_is_sequence.at_, fd 1, ["thing"]⟩ ⟨1, 1, false, m_is_sequence⟩ :=
  ⟨_, "is_sequence", _, _, _, _, _, N_is_sequence, fx.D_is_sequence, sc_is_sequence, rfl, rfl, by decide, fun call n co cdv A outer s H E hr => t_is_sequence fx call n cdv A outer s H E ⟨co, hr⟩⟩
abbrev N_form_value : List Str := ["form", "numbers", "total", "at", "factor"]
theorem sc_form_value : FnScope N_form_value ["form", "numbers"] (defScope s_form_value) := ⟨by kernel_rfl, by kernel_rfl, by kernel_rfl, by decide +kernel, rfl, by decide +kernel, by decide +kernel⟩
theorem t_form_value (fx : Fx K mg fd) (call : CallT) (n : Nat) (cdv : Value) (A : Around) (outer : List Env) (s : Shared) (H : Hp) (E : XK) (c : Cq (cxOf (L2.CX P w) P w K mg base N_form_value "form_value" (defScope s_form_value) (He.fAd K d_form_value.at_) cdv A outer s H E) (ct K) (fns K fd) call n) :
    SSs (cxOf (L2.CX P w) P w K mg base N_form_value "form_value" (defScope s_form_value) (He.fAd K d_form_value.at_) cdv A outer s H E) (ct K) (fun c d _ H' => E c d H') (defBody s_form_value) (m_form_value call) := by
  have tk : Takes (cxOf (L2.CX P w) P w K mg base N_form_value "form_value" (defScope s_form_value) (He.fAd K d_form_value.at_) cdv A outer s H E) (fun cls d _ H' => E cls d H') := takes_of rfl rfl rfl rfl
  have nd := sc_form_value.nd
  have po : PassesOwn (model P w) (cxOf (L2.CX P w) P w K mg base N_form_value "form_value" (defScope s_form_value) (He.fAd K d_form_value.at_) cdv A outer s H E).A (cxOf (L2.CX P w) P w K mg base N_form_value "form_value" (defScope s_form_value) (He.fAd K d_form_value.at_) cdv A outer s H E).env (cxOf (L2.CX P w) P w K mg base N_form_value "form_value" (defScope s_form_value) (He.fAd K d_form_value.at_) cdv A outer s H E).xe := passes_of rfl
  exact (sss_cons (ss_set nd (i := 2) rfl (by first | exact .inl rfl | exact .inr rfl) (se_ix ix_sound (se_var 0) se_int))
      (sss_cons (ss_for po rfl (si_enumB rfl fx.f_enumerate (sa_cons (se_ix ix_sound (se_var 0) se_int) sa_nil)) (sg_tup rfl (sgs_cons (sg_name nd (i := 3) rfl (by first | exact .inl rfl | exact .inr rfl)) (sgs_cons (sg_name nd (i := 4) rfl (by first | exact .inl rfl | exact .inr rfl)) sgs_nil)))
      (sss_one (ss_if (st_cmp lt_sound (se_var 3) (se_callB len_sound rfl fx.f_len (by decide +kernel) (sa_cons (se_var 1) sa_nil)))
      (sss_one (ss_set nd (i := 2) rfl (by first | exact .inl rfl | exact .inr rfl) (se_bin add_sound (se_var 2) (se_bin mulI_sound (se_var 4) (se_ix ix_sound (se_var 1) (se_var 3))))))
      sss_nil)))
      (sss_one (ss_ret' (se_var 2)))))
theorem b_form_value (fx : Fx K mg fd) : BodyOk P w K mg base (ct K) (fns K fd) ⟨He.fAd K d_form_value.at_, fd 2, ["form", "numbers"]⟩ ⟨2, 5, false, m_form_value⟩ :=
  ⟨_, "form_value", _, _, _, _, _, N_form_value, fx.D_form_value, sc_form_value, rfl, rfl, by decide, fun call n co cdv A outer s H E hr => t_form_value fx call n cdv A outer s H E ⟨co, hr⟩⟩
abbrev N_check_system : List Str := ["system", "checked", "at", "form", "factor"]
theorem sc_check_system : FnScope N_check_system ["system"] (defScope s_check_system) := ⟨by kernel_rfl, by kernel_rfl, by kernel_rfl, by decide +kernel, rfl, by decide +kernel, by decide +kernel⟩
theorem t_check_system (fx : Fx K mg fd) (call : CallT) (n : Nat) (cdv : Value) (A : Around) (outer : List Env) (s : Shared) (H : Hp) (E : XK) (c : Cq (cxOf (L2.CX P w) P w K mg base N_check_system "check_system" (defScope s_check_system) (He.fAd K d_check_system.at_) cdv A outer s H E) (ct K) (fns K fd) call n) :
    SSs (cxOf (L2.CX P w) P w K mg base N_check_system "check_system" (defScope s_check_system) (He.fAd K d_check_system.at_) cdv A outer s H E) (ct K) (fun c d _ H' => E c d H') (defBody s_check_system) (m_check_system call) := by
  have tk : Takes (cxOf (L2.CX P w) P w K mg base N_check_system "check_system" (defScope s_check_system) (He.fAd K d_check_system.at_) cdv A outer s H E) (fun cls d _ H' => E cls d H') := takes_of rfl rfl rfl rfl
  have nd := sc_check_system.nd
  have po : PassesOwn (model P w) (cxOf (L2.CX P w) P w K mg base N_check_system "check_system" (defScope s_check_system) (He.fAd K d_check_system.at_) cdv A outer s H E).A (cxOf (L2.CX P w) P w K mg base N_check_system "check_system" (defScope s_check_system) (He.fAd K d_check_system.at_) cdv A outer s H E).env (cxOf (L2.CX P w) P w K mg base N_check_system "check_system" (defScope s_check_system) (He.fAd K d_check_system.at_) cdv A outer s H E).xe := passes_of rfl
  exact (sss_cons (ss_if (st_not (st_truth (sc_call ⟨c.co, c.ro⟩ tk fx.i_is_sequence fx.g_is_sequence rfl rfl (sa_cons (se_var 0) sa_nil))))
      (sss_one ss_never)
      sss_nil)
      (sss_cons (ss_set nd (i := 1) rfl (by first | exact .inl rfl | exact .inr rfl) (se_lst sa_nil))
      (sss_cons (ss_for po rfl (si_enumB rfl fx.f_enumerate (sa_cons (se_var 0) sa_nil)) (sg_tup rfl (sgs_cons (sg_name nd (i := 2) rfl (by first | exact .inl rfl | exact .inr rfl)) (sgs_cons (sg_name nd (i := 3) rfl (by first | exact .inl rfl | exact .inr rfl)) sgs_nil)))
      (sss_cons (ss_if (st_bool (sw_or (st_not (st_truth (sc_call ⟨c.co, c.ro⟩ tk fx.i_is_sequence fx.g_is_sequence rfl rfl (sa_cons (se_var 3) sa_nil)))) (sw_or (st_cmp neF_sound (se_callB len_sound rfl fx.f_len (by decide +kernel) (sa_cons (se_var 3) sa_nil)) se_int) (sw_or (st_not (st_truth (sc_call ⟨c.co, c.ro⟩ tk fx.i_is_whole fx.g_is_whole rfl rfl (sa_cons (se_ix ix_sound (se_var 3) se_int) sa_nil)))) (sw_or1 (st_not (st_truth (sc_call ⟨c.co, c.ro⟩ tk fx.i_is_sequence fx.g_is_sequence rfl rfl (sa_cons (se_ix ix_sound (se_var 3) se_int) sa_nil)))))))))
      (sss_one ss_never)
      sss_nil)
      (sss_cons (ss_if (st_truth (se_lc false rfl nd (si_seq (se_ix ix_sound (se_var 3) se_int)) (own := [("factor", 4)]) (blkOk_by (by first | decide +kernel | kernel_rfl)) rfl (fun _ _ _ _ _ => (sgc_name nd (i := 4) rfl (by first | exact .inl rfl | exact .inr rfl) (by decide))) (fun _ _ _ _ _ => (spt_one (st_not (st_truth (sc_call ⟨c.co, c.ro⟩ takesW fx.i_is_whole fx.g_is_whole rfl rfl (sa_cons (se_var 4) sa_nil)))))) (fun _ _ _ _ _ => (se_var 4))))
      (sss_one ss_never)
      sss_nil)
      (sss_cons (ss_if (st_bool (sw_and (st_truth (se_var 1)) (sw_and1 (st_cmp (ne_sound (unR c.ro)) (se_callB len_sound rfl fx.f_len (by decide +kernel) (sa_cons (se_ix ix_sound (se_var 3) se_int) sa_nil)) (se_callB len_sound rfl fx.f_len (by decide +kernel) (sa_cons (se_ix ix_sound (se_ix ix_sound (se_var 1) se_int) se_int) sa_nil))))))
      (sss_one ss_never)
      sss_nil)
      (sss_one (ss_expr (se_append (se_var 1) (sa_cons (se_tup (sa_cons (se_ix ix_sound (se_var 3) se_int) (sa_cons (se_callTy tuple_sound rfl fx.f_tuple (by decide +kernel) (sa_cons (se_ix ix_sound (se_var 3) se_int) sa_nil)) sa_nil))) sa_nil))))))))
      (sss_one (ss_ret' (se_callTy tuple_sound rfl fx.f_tuple (by decide +kernel) (sa_cons (se_var 1) sa_nil)))))))
theorem b_check_system (fx : Fx K mg fd) : BodyOk P w K mg base (ct K) (fns K fd) ⟨He.fAd K d_check_system.at_, fd 3, ["system"]⟩ ⟨1, 5, false, m_check_system⟩ :=
  ⟨_, "check_system", _, _, _, _, _, N_check_system, fx.D_check_system, sc_check_system, rfl, rfl, by decide, fun call n co cdv A outer s H E hr => t_check_system fx call n cdv A outer s H E ⟨co, hr⟩⟩
abbrev N_variable_count : List Str := ["system"]
theorem sc_variable_count : FnScope N_variable_count ["system"] (defScope s_variable_count) := ⟨by kernel_rfl, by kernel_rfl, by kernel_rfl, by decide +kernel, rfl, by decide +kernel, by decide +kernel⟩
theorem t_variable_count (fx : Fx K mg fd) (call : CallT) (n : Nat) (cdv : Value) (A : Around) (outer : List Env) (s : Shared) (H : Hp) (E : XK) (c : Cq (cxOf (L2.CX P w) P w K mg base N_variable_count "variable_count" (defScope s_variable_count) (He.fAd K d_variable_count.at_) cdv A outer s H E) (ct K) (fns K fd) call n) :
    SSs (cxOf (L2.CX P w) P w K mg base N_variable_count "variable_count" (defScope s_variable_count) (He.fAd K d_variable_count.at_) cdv A outer s H E) (ct K) (fun c d _ H' => E c d H') (defBody s_variable_count) (m_variable_count call) := by
  have tk : Takes (cxOf (L2.CX P w) P w K mg base N_variable_count "variable_count" (defScope s_variable_count) (He.fAd K d_variable_count.at_) cdv A outer s H E) (fun cls d _ H' => E cls d H') := takes_of rfl rfl rfl rfl
  have nd := sc_variable_count.nd
  have po : PassesOwn (model P w) (cxOf (L2.CX P w) P w K mg base N_variable_count "variable_count" (defScope s_variable_count) (He.fAd K d_variable_count.at_) cdv A outer s H E).A (cxOf (L2.CX P w) P w K mg base N_variable_count "variable_count" (defScope s_variable_count) (He.fAd K d_variable_count.at_) cdv A outer s H E).env (cxOf (L2.CX P w) P w K mg base N_variable_count "variable_count" (defScope s_variable_count) (He.fAd K d_variable_count.at_) cdv A outer s H E).xe := passes_of rfl
  exact (sss_one (ss_ret' (se_if (st_truth (se_var 0)) (se_callB len_sound rfl fx.f_len (by decide +kernel) (sa_cons (se_ix ix_sound (se_ix ix_sound (se_var 0) se_int) se_int) sa_nil)) se_int)))
theorem b_variable_count (fx : Fx K mg fd) : BodyOk P w K mg base (ct K) (fns K fd) ⟨He.fAd K d_variable_count.at_, fd 4, ["system"]⟩ ⟨1, 1, false, m_variable_count⟩ :=
  ⟨_, "variable_count", _, _, _, _, _, N_variable_count, fx.D_variable_count, sc_variable_count, rfl, rfl, by decide, fun call n co cdv A outer s H E hr => t_variable_count fx call n cdv A outer s H E ⟨co, hr⟩⟩
abbrev N_start_row_of : List Str := ["system", "form"]
theorem sc_start_row_of : FnScope N_start_row_of ["system"] (defScope s_start_row_of) := ⟨by kernel_rfl, by kernel_rfl, by kernel_rfl, by decide +kernel, rfl, by decide +kernel, by decide +kernel⟩
theorem t_start_row_of (fx : Fx K mg fd) (call : CallT) (n : Nat) (cdv : Value) (A : Around) (outer : List Env) (s : Shared) (H : Hp) (E : XK) (c : Cq (cxOf (L2.CX P w) P w K mg base N_start_row_of "start_row_of" (defScope s_start_row_of) (He.fAd K d_start_row_of.at_) cdv A outer s H E) (ct K) (fns K fd) call n) :
    SSs (cxOf (L2.CX P w) P w K mg base N_start_row_of "start_row_of" (defScope s_start_row_of) (He.fAd K d_start_row_of.at_) cdv A outer s H E) (ct K) (fun c d _ H' => E c d H') (defBody s_start_row_of) (m_start_row_of call) := by
  have tk : Takes (cxOf (L2.CX P w) P w K mg base N_start_row_of "start_row_of" (defScope s_start_row_of) (He.fAd K d_start_row_of.at_) cdv A outer s H E) (fun cls d _ H' => E cls d H') := takes_of rfl rfl rfl rfl
  have nd := sc_start_row_of.nd
  have po : PassesOwn (model P w) (cxOf (L2.CX P w) P w K mg base N_start_row_of "start_row_of" (defScope s_start_row_of) (He.fAd K d_start_row_of.at_) cdv A outer s H E).A (cxOf (L2.CX P w) P w K mg base N_start_row_of "start_row_of" (defScope s_start_row_of) (He.fAd K d_start_row_of.at_) cdv A outer s H E).env (cxOf (L2.CX P w) P w K mg base N_start_row_of "start_row_of" (defScope s_start_row_of) (He.fAd K d_start_row_of.at_) cdv A outer s H E).xe := passes_of rfl
  exact (sss_one (ss_ret' (se_callTy tuple_sound rfl fx.f_tuple (by decide +kernel) (sa_cons (se_lc false rfl nd (si_seq (se_var 0)) (own := [("form", 1)]) (blkOk_by (by first | decide +kernel | kernel_rfl)) rfl (fun _ _ _ _ _ => (sgc_name nd (i := 1) rfl (by first | exact .inl rfl | exact .inr rfl) (by decide))) (fun _ _ _ _ _ => spt_nil) (fun _ _ _ _ _ => (se_ix ix_sound (se_var 1) se_int))) sa_nil))))
theorem b_start_row_of (fx : Fx K mg fd) : BodyOk P w K mg base (ct K) (fns K fd) ⟨He.fAd K d_start_row_of.at_, fd 5, ["system"]⟩ ⟨1, 2, false, m_start_row_of⟩ :=
  ⟨_, "start_row_of", _, _, _, _, _, N_start_row_of, fx.D_start_row_of, sc_start_row_of, rfl, rfl, by decide, fun call n co cdv A outer s H E hr => t_start_row_of fx call n cdv A outer s H E ⟨co, hr⟩⟩
abbrev N_is_zero_row : List Str := ["carry_row", "carry"]
theorem sc_is_zero_row : FnScope N_is_zero_row ["carry_row"] (defScope s_is_zero_row) := ⟨by kernel_rfl, by kernel_rfl, by kernel_rfl, by decide +kernel, rfl, by decide +kernel, by decide +kernel⟩
theorem t_is_zero_row (fx : Fx K mg fd) (call : CallT) (n : Nat) (cdv : Value) (A : Around) (outer : List Env) (s : Shared) (H : Hp) (E : XK) (c : Cq (cxOf (L2.CX P w) P w K mg base N_is_zero_row "is_zero_row" (defScope s_is_zero_row) (He.fAd K d_is_zero_row.at_) cdv A outer s H E) (ct K) (fns K fd) call n) :
    SSs (cxOf (L2.CX P w) P w K mg base N_is_zero_row "is_zero_row" (defScope s_is_zero_row) (He.fAd K d_is_zero_row.at_) cdv A outer s H E) (ct K) (fun c d _ H' => E c d H') (defBody s_is_zero_row) (m_is_zero_row call) := by
  have tk : Takes (cxOf (L2.CX P w) P w K mg base N_is_zero_row "is_zero_row" (defScope s_is_zero_row) (He.fAd K d_is_zero_row.at_) cdv A outer s H E) (fun cls d _ H' => E cls d H') := takes_of rfl rfl rfl rfl
  have nd := sc_is_zero_row.nd
  have po : PassesOwn (model P w) (cxOf (L2.CX P w) P w K mg base N_is_zero_row "is_zero_row" (defScope s_is_zero_row) (He.fAd K d_is_zero_row.at_) cdv A outer s H E).A (cxOf (L2.CX P w) P w K mg base N_is_zero_row "is_zero_row" (defScope s_is_zero_row) (He.fAd K d_is_zero_row.at_) cdv A outer s H E).env (cxOf (L2.CX P w) P w K mg base N_is_zero_row "is_zero_row" (defScope s_is_zero_row) (He.fAd K d_is_zero_row.at_) cdv A outer s H E).xe := passes_of rfl
  exact (sss_one (ss_ret' (se_cmp (eq_sound (unR c.ro)) (se_lc false rfl nd (si_seq (se_var 0)) (own := [("carry", 1)]) (blkOk_by (by first | decide +kernel | kernel_rfl)) rfl (fun _ _ _ _ _ => (sgc_name nd (i := 1) rfl (by first | exact .inl rfl | exact .inr rfl) (by decide))) (fun _ _ _ _ _ => (spt_one (st_cmp neF_sound (se_var 1) se_int))) (fun _ _ _ _ _ => (se_var 1))) (se_lv sa_nil))))
theorem b_is_zero_row (fx : Fx K mg fd) : BodyOk P w K mg base (ct K) (fns K fd) ⟨He.fAd K d_is_zero_row.at_, fd 6, ["carry_row"]⟩ ⟨1, 2, false, m_is_zero_row⟩ :=
  ⟨_, "is_zero_row", _, _, _, _, _, N_is_zero_row, fx.D_is_zero_row, sc_is_zero_row, rfl, rfl, by decide, fun call n co cdv A outer s H E hr => t_is_zero_row fx call n cdv A outer s H E ⟨co, hr⟩⟩
abbrev N_figure_sums : List Str := ["system", "figure_rows", "at", "used", "form", "done", "figure", "figures"]
theorem sc_figure_sums : FnScope N_figure_sums ["system"] (defScope s_figure_sums) := ⟨by kernel_rfl, by kernel_rfl, by kernel_rfl, by decide +kernel, rfl, by decide +kernel, by decide +kernel⟩
theorem t_figure_sums (fx : Fx K mg fd) (call : CallT) (n : Nat) (cdv : Value) (A : Around) (outer : List Env) (s : Shared) (H : Hp) (E : XK) (c : Cq (cxOf (L2.CX P w) P w K mg base N_figure_sums "figure_sums" (defScope s_figure_sums) (He.fAd K d_figure_sums.at_) cdv A outer s H E) (ct K) (fns K fd) call n) :
    SSs (cxOf (L2.CX P w) P w K mg base N_figure_sums "figure_sums" (defScope s_figure_sums) (He.fAd K d_figure_sums.at_) cdv A outer s H E) (ct K) (fun c d _ H' => E c d H') (defBody s_figure_sums) (m_figure_sums call) := by
  have tk : Takes (cxOf (L2.CX P w) P w K mg base N_figure_sums "figure_sums" (defScope s_figure_sums) (He.fAd K d_figure_sums.at_) cdv A outer s H E) (fun cls d _ H' => E cls d H') := takes_of rfl rfl rfl rfl
  have nd := sc_figure_sums.nd
  have po : PassesOwn (model P w) (cxOf (L2.CX P w) P w K mg base N_figure_sums "figure_sums" (defScope s_figure_sums) (He.fAd K d_figure_sums.at_) cdv A outer s H E).A (cxOf (L2.CX P w) P w K mg base N_figure_sums "figure_sums" (defScope s_figure_sums) (He.fAd K d_figure_sums.at_) cdv A outer s H E).env (cxOf (L2.CX P w) P w K mg base N_figure_sums "figure_sums" (defScope s_figure_sums) (He.fAd K d_figure_sums.at_) cdv A outer s H E).xe := passes_of rfl
  exact (sss_cons (ss_set nd (i := 1) rfl (by first | exact .inl rfl | exact .inr rfl) (se_lv (sa_cons (se_tup sa_nil) sa_nil)))
      (sss_cons (ss_for po rfl (si_rng1 rfl fx.f_range (sa_cons (sc_call ⟨c.co, c.ro⟩ tk fx.i_variable_count fx.g_variable_count rfl rfl (sa_cons (se_var 0) sa_nil)) sa_nil)) (sg_name nd (i := 2) rfl (by first | exact .inl rfl | exact .inr rfl))
      (sss_cons (ss_setLc false rfl nd (i := 3) rfl rfl (sw_true rfl rfl rfl (by decide +kernel)) (si_seq (se_var 0)) (own := [("form", 4)]) (blkOk_by (by first | decide +kernel | kernel_rfl)) rfl (fun _ _ _ _ _ => (sgc_name nd (i := 4) rfl (by first | exact .inl rfl | exact .inr rfl) (by decide))) (fun _ _ _ _ _ => (spt_one (st_cmp neF_sound (se_ix ix_sound (se_ix ix_sound (se_var 4) se_int) (se_var 2)) se_int))) (fun _ _ _ _ _ => (se_var 4)))
      (sss_one (ss_if (st_truth (se_var 3))
      (sss_one (ss_setLc2 false rfl nd (i := 1) rfl rfl (sw_true rfl rfl rfl (by decide +kernel)) (si_seq (se_var 1)) (own := [("done", 5), ("figure", 6)]) (blkOk_by (by first | decide +kernel | kernel_rfl)) rfl (by decide) (fun _ _ _ _ _ => (sgc_name nd (i := 5) rfl (by first | exact .inl rfl | exact .inr rfl) (by decide))) (fun _ _ _ _ _ => spt_nil) (fun _ _ _ _ _ => (si_seq (se_tup (sa_cons se_int (sa_cons se_int sa_nil))))) (fun _ _ _ _ _ => (sgc_name nd (i := 6) rfl (by first | exact .inl rfl | exact .inr rfl) (by decide))) (fun _ _ _ _ _ => spt_nil) (fun _ _ _ _ _ => (se_bin add_sound (se_var 5) (se_tup (sa_cons (se_var 6) sa_nil))))))
      (sss_one (ss_setLc false rfl nd (i := 1) rfl rfl (sw_true rfl rfl rfl (by decide +kernel)) (si_seq (se_var 1)) (own := [("done", 5)]) (blkOk_by (by first | decide +kernel | kernel_rfl)) rfl (fun _ _ _ _ _ => (sgc_name nd (i := 5) rfl (by first | exact .inl rfl | exact .inr rfl) (by decide))) (fun _ _ _ _ _ => spt_nil) (fun _ _ _ _ _ => (se_bin add_sound (se_var 5) (se_tup (sa_cons se_int sa_nil))))))))))
      (sss_one (ss_ret' (se_lc false rfl nd (si_seq (se_var 1)) (own := [("figures", 7)]) (blkOk_by (by first | decide +kernel | kernel_rfl)) rfl (fun _ _ _ _ _ => (sgc_name nd (i := 7) rfl (by first | exact .inl rfl | exact .inr rfl) (by decide))) (fun _ _ _ _ _ => spt_nil) (fun _ _ _ _ _ => (se_tup (sa_cons (se_var 7) (sa_cons (se_callTy tuple_sound rfl fx.f_tuple (by decide +kernel) (sa_cons (se_lc false rfl nd (si_seq (se_var 0)) (own := [("form", 4)]) (blkOk_by (by first | decide +kernel | kernel_rfl)) rfl (fun _ _ _ _ _ => (sgc_name nd (i := 4) rfl (by first | exact .inl rfl | exact .inr rfl) (by decide))) (fun _ _ _ _ _ => spt_nil) (fun _ _ _ _ _ => (sc_call ⟨c.co, c.ro⟩ takesW fx.i_form_value fx.g_form_value rfl rfl (sa_cons (se_tup (sa_cons se_int (sa_cons (se_ix ix_sound (se_var 4) se_int) sa_nil))) (sa_cons (se_var 7) sa_nil))))) sa_nil)) sa_nil)))))))))
theorem b_figure_sums (fx : Fx K mg fd) : BodyOk P w K mg base (ct K) (fns K fd) ⟨He.fAd K d_figure_sums.at_, fd 7, ["system"]⟩ ⟨1, 8, false, m_figure_sums⟩ :=
  ⟨_, "figure_sums", _, _, _, _, _, N_figure_sums, fx.D_figure_sums, sc_figure_sums, rfl, rfl, by decide, fun call n co cdv A outer s H E hr => t_figure_sums fx call n cdv A outer s H E ⟨co, hr⟩⟩
abbrev N_turned_row : List Str := ["carry_row", "sums", "halves", "carry", "more", "half", "figure"]
theorem sc_turned_row : FnScope N_turned_row ["carry_row", "sums"] (defScope s_turned_row) := ⟨by kernel_rfl, by kernel_rfl, by kernel_rfl, by decide +kernel, rfl, by decide +kernel, by decide +kernel⟩
theorem t_turned_row (fx : Fx K mg fd) (call : CallT) (n : Nat) (cdv : Value) (A : Around) (outer : List Env) (s : Shared) (H : Hp) (E : XK) (c : Cq (cxOf (L2.CX P w) P w K mg base N_turned_row "turned_row" (defScope s_turned_row) (He.fAd K d_turned_row.at_) cdv A outer s H E) (ct K) (fns K fd) call n) :
    SSs (cxOf (L2.CX P w) P w K mg base N_turned_row "turned_row" (defScope s_turned_row) (He.fAd K d_turned_row.at_) cdv A outer s H E) (ct K) (fun c d _ H' => E c d H') (defBody s_turned_row) (m_turned_row call) := by
  have tk : Takes (cxOf (L2.CX P w) P w K mg base N_turned_row "turned_row" (defScope s_turned_row) (He.fAd K d_turned_row.at_) cdv A outer s H E) (fun cls d _ H' => E cls d H') := takes_of rfl rfl rfl rfl
  have nd := sc_turned_row.nd
  have po : PassesOwn (model P w) (cxOf (L2.CX P w) P w K mg base N_turned_row "turned_row" (defScope s_turned_row) (He.fAd K d_turned_row.at_) cdv A outer s H E).A (cxOf (L2.CX P w) P w K mg base N_turned_row "turned_row" (defScope s_turned_row) (He.fAd K d_turned_row.at_) cdv A outer s H E).env (cxOf (L2.CX P w) P w K mg base N_turned_row "turned_row" (defScope s_turned_row) (He.fAd K d_turned_row.at_) cdv A outer s H E).xe := passes_of rfl
  exact (sss_cons (ss_set nd (i := 2) rfl (by first | exact .inl rfl | exact .inr rfl) (se_lst sa_nil))
      (sss_cons (ss_for po rfl (si_zipB rfl fx.f_zip (sa_cons (se_var 0) (sa_cons (se_var 1) sa_nil))) (sg_tup rfl (sgs_cons (sg_name nd (i := 3) rfl (by first | exact .inl rfl | exact .inr rfl)) (sgs_cons (sg_name nd (i := 4) rfl (by first | exact .inl rfl | exact .inr rfl)) sgs_nil)))
      (sss_cons (ss_asg (se_callB divmod_sound rfl fx.f_divmod (by decide +kernel) (sa_cons (se_bin add_sound (se_var 3) (se_var 4)) (sa_cons se_int sa_nil))) (sg_tup rfl (sgs_cons (sg_name nd (i := 5) rfl (by first | exact .inl rfl | exact .inr rfl)) (sgs_cons (sg_name nd (i := 6) rfl (by first | exact .inl rfl | exact .inr rfl)) sgs_nil))))
      (sss_cons (ss_if (st_cmp eqF_sound (se_var 6) se_int)
      (sss_one (ss_ret' se_non))
      sss_nil)
      (sss_one (ss_expr (se_append (se_var 2) (sa_cons (se_var 5) sa_nil)))))))
      (sss_one (ss_ret' (se_callTy tuple_sound rfl fx.f_tuple (by decide +kernel) (sa_cons (se_var 2) sa_nil))))))
theorem b_turned_row (fx : Fx K mg fd) : BodyOk P w K mg base (ct K) (fns K fd) ⟨He.fAd K d_turned_row.at_, fd 8, ["carry_row", "sums"]⟩ ⟨2, 7, false, m_turned_row⟩ :=
  ⟨_, "turned_row", _, _, _, _, _, N_turned_row, fx.D_turned_row, sc_turned_row, rfl, rfl, by decide, fun call n co cdv A outer s H E hr => t_turned_row fx call n cdv A outer s H E ⟨co, hr⟩⟩
abbrev N_read_answer : List Str := ["came", "carry_row", "many", "numbers", "figures", "number", "figure"]
theorem sc_read_answer : FnScope N_read_answer ["came", "carry_row", "many"] (defScope s_read_answer) := ⟨by kernel_rfl, by kernel_rfl, by kernel_rfl, by decide +kernel, rfl, by decide +kernel, by decide +kernel⟩
theorem t_read_answer (fx : Fx K mg fd) (call : CallT) (n : Nat) (cdv : Value) (A : Around) (outer : List Env) (s : Shared) (H : Hp) (E : XK) (c : Cq (cxOf (L2.CX P w) P w K mg base N_read_answer "read_answer" (defScope s_read_answer) (He.fAd K d_read_answer.at_) cdv A outer s H E) (ct K) (fns K fd) call n) :
    SSs (cxOf (L2.CX P w) P w K mg base N_read_answer "read_answer" (defScope s_read_answer) (He.fAd K d_read_answer.at_) cdv A outer s H E) (ct K) (fun c d _ H' => E c d H') (defBody s_read_answer) (m_read_answer call) := by
  have tk : Takes (cxOf (L2.CX P w) P w K mg base N_read_answer "read_answer" (defScope s_read_answer) (He.fAd K d_read_answer.at_) cdv A outer s H E) (fun cls d _ H' => E cls d H') := takes_of rfl rfl rfl rfl
  have nd := sc_read_answer.nd
  have po : PassesOwn (model P w) (cxOf (L2.CX P w) P w K mg base N_read_answer "read_answer" (defScope s_read_answer) (He.fAd K d_read_answer.at_) cdv A outer s H E).A (cxOf (L2.CX P w) P w K mg base N_read_answer "read_answer" (defScope s_read_answer) (He.fAd K d_read_answer.at_) cdv A outer s H E).env (cxOf (L2.CX P w) P w K mg base N_read_answer "read_answer" (defScope s_read_answer) (He.fAd K d_read_answer.at_) cdv A outer s H E).xe := passes_of rfl
  exact (sss_cons (ss_set nd (i := 3) rfl (by first | exact .inl rfl | exact .inr rfl) (se_bin mul_sound (se_lv (sa_cons se_int sa_nil)) (se_var 2)))
      (sss_cons (ss_while po (st_cmp notN_sound (se_dget (unR5 c.ro) (se_var 0) (se_var 1)) se_non)
      (sss_cons (ss_asg (se_dget (unR5 c.ro) (se_var 0) (se_var 1)) (sg_tup rfl (sgs_cons (sg_name nd (i := 1) rfl (by first | exact .inl rfl | exact .inr rfl)) (sgs_cons (sg_name nd (i := 4) rfl (by first | exact .inl rfl | exact .inr rfl)) sgs_nil))))
      (sss_one (ss_setLc false rfl nd (i := 3) rfl rfl (sw_true rfl rfl rfl (by decide +kernel)) (si_zipB rfl fx.f_zip (sa_cons (se_var 3) (sa_cons (se_var 4) sa_nil))) (own := [("number", 5), ("figure", 6)]) (blkOk_by (by first | decide +kernel | kernel_rfl)) rfl (fun _ _ _ _ _ => (sgc_tup rfl (sgsc_cons (sgc_name nd (i := 5) rfl (by first | exact .inl rfl | exact .inr rfl) (by decide)) (sgsc_cons (sgc_name nd (i := 6) rfl (by first | exact .inl rfl | exact .inr rfl) (by decide)) sgsc_nil)))) (fun _ _ _ _ _ => spt_nil) (fun _ _ _ _ _ => (se_bin add_sound (se_bin mulI_sound se_int (se_var 5)) (se_var 6)))))))
      (sss_one (ss_ret' (se_callTy tuple_sound rfl fx.f_tuple (by decide +kernel) (sa_cons (se_var 3) sa_nil))))))
theorem b_read_answer (fx : Fx K mg fd) : BodyOk P w K mg base (ct K) (fns K fd) ⟨He.fAd K d_read_answer.at_, fd 9, ["came", "carry_row", "many"]⟩ ⟨3, 7, false, m_read_answer⟩ :=
  ⟨_, "read_answer", _, _, _, _, _, N_read_answer, fx.D_read_answer, sc_read_answer, rfl, rfl, by decide, fun call n co cdv A outer s H E hr => t_read_answer fx call n cdv A outer s H E ⟨co, hr⟩⟩
abbrev N_whole : List Str := ["system", "checked", "sums_of_figures", "start_row", "came", "queue", "at", "carry_row", "figures", "sums", "next_row"]
theorem sc_whole : FnScope N_whole ["system"] (defScope s_whole) := ⟨by kernel_rfl, by kernel_rfl, by kernel_rfl, by decide +kernel, rfl, by decide +kernel, by decide +kernel⟩
theorem t_whole (fx : Fx K mg fd) (call : CallT) (n : Nat) (cdv : Value) (A : Around) (outer : List Env) (s : Shared) (H : Hp) (E : XK) (c : Cq (cxOf (L2.CX P w) P w K mg base N_whole "whole" (defScope s_whole) (He.fAd K d_whole.at_) cdv A outer s H E) (ct K) (fns K fd) call n) :
    SSs (cxOf (L2.CX P w) P w K mg base N_whole "whole" (defScope s_whole) (He.fAd K d_whole.at_) cdv A outer s H E) (ct K) (fun c d _ H' => E c d H') (defBody s_whole) (m_whole call) := by
  have tk : Takes (cxOf (L2.CX P w) P w K mg base N_whole "whole" (defScope s_whole) (He.fAd K d_whole.at_) cdv A outer s H E) (fun cls d _ H' => E cls d H') := takes_of rfl rfl rfl rfl
  have nd := sc_whole.nd
  have po : PassesOwn (model P w) (cxOf (L2.CX P w) P w K mg base N_whole "whole" (defScope s_whole) (He.fAd K d_whole.at_) cdv A outer s H E).A (cxOf (L2.CX P w) P w K mg base N_whole "whole" (defScope s_whole) (He.fAd K d_whole.at_) cdv A outer s H E).env (cxOf (L2.CX P w) P w K mg base N_whole "whole" (defScope s_whole) (He.fAd K d_whole.at_) cdv A outer s H E).xe := passes_of rfl
  exact (sss_cons (ss_set nd (i := 1) rfl (by first | exact .inl rfl | exact .inr rfl) (sc_call ⟨c.co, c.ro⟩ tk fx.i_check_system fx.g_check_system rfl rfl (sa_cons (se_var 0) sa_nil)))
      (sss_cons (ss_set nd (i := 2) rfl (by first | exact .inl rfl | exact .inr rfl) (sc_call ⟨c.co, c.ro⟩ tk fx.i_figure_sums fx.g_figure_sums rfl rfl (sa_cons (se_var 1) sa_nil)))
      (sss_cons (ss_set nd (i := 3) rfl (by first | exact .inl rfl | exact .inr rfl) (sc_call ⟨c.co, c.ro⟩ tk fx.i_start_row_of fx.g_start_row_of rfl rfl (sa_cons (se_var 1) sa_nil)))
      (sss_cons (ss_set nd (i := 4) rfl (by first | exact .inl rfl | exact .inr rfl) (se_dt1 (unR5 c.ro) (se_var 3) se_non))
      (sss_cons (ss_set nd (i := 5) rfl (by first | exact .inl rfl | exact .inr rfl) (se_lst (sa_cons (se_var 3) sa_nil)))
      (sss_cons (ss_set nd (i := 6) rfl (by first | exact .inl rfl | exact .inr rfl) se_int)
      (sss_cons (ss_while po (st_cmp lt_sound (se_var 6) (se_callB len_sound rfl fx.f_len (by decide +kernel) (sa_cons (se_var 5) sa_nil)))
      (sss_cons (ss_set nd (i := 7) rfl (by first | exact .inl rfl | exact .inr rfl) (se_ix ix_sound (se_var 5) (se_var 6)))
      (sss_cons (ss_if (st_truth (sc_call ⟨c.co, c.ro⟩ tk fx.i_is_zero_row fx.g_is_zero_row rfl rfl (sa_cons (se_var 7) sa_nil)))
      (sss_one (ss_ret' (sc_make ⟨c.co, c.ro⟩ tk fx.i_Answer__init_ fx.m_Answer fx.g_Answer rfl rfl (sa_cons (sc_call ⟨c.co, c.ro⟩ tk fx.i_read_answer fx.g_read_answer rfl rfl (sa_cons (se_var 4) (sa_cons (se_var 7) (sa_cons (sc_call ⟨c.co, c.ro⟩ tk fx.i_variable_count fx.g_variable_count rfl rfl (sa_cons (se_var 1) sa_nil)) sa_nil)))) sa_nil))))
      sss_nil)
      (sss_cons (ss_for po rfl (si_seq (se_var 2)) (sg_tup rfl (sgs_cons (sg_name nd (i := 8) rfl (by first | exact .inl rfl | exact .inr rfl)) (sgs_cons (sg_name nd (i := 9) rfl (by first | exact .inl rfl | exact .inr rfl)) sgs_nil)))
      (sss_cons (ss_set nd (i := 10) rfl (by first | exact .inl rfl | exact .inr rfl) (sc_call ⟨c.co, c.ro⟩ tk fx.i_turned_row fx.g_turned_row rfl rfl (sa_cons (se_var 7) (sa_cons (se_var 9) sa_nil))))
      (sss_one (ss_if (st_bool (sw_and (st_cmp notN_sound (se_var 10) se_non) (sw_and1 (st_cmp (dnotin_sound (unR5 c.ro)) (se_var 10) (se_var 4)))))
      (sss_cons (ss_dput (unR5 c.ro) (se_var 4) (se_var 10) (se_tup (sa_cons (se_var 7) (sa_cons (se_var 8) sa_nil))))
      (sss_one (ss_expr (se_append (se_var 5) (sa_cons (se_var 10) sa_nil)))))
      sss_nil))))
      (sss_one (ss_set nd (i := 6) rfl (by first | exact .inl rfl | exact .inr rfl) (se_bin add_sound (se_var 6) se_int)))))))
      (sss_one (ss_ret' (sc_make ⟨c.co, c.ro⟩ tk fx.i_Carries__init_ fx.m_Carries fx.g_Carries rfl rfl (sa_cons (se_callTy tuple_sound rfl fx.f_tuple (by decide +kernel) (sa_cons (se_callB (sorted_sound c.ro) rfl fx.f_sorted (by decide +kernel) (sa_cons (se_var 5) sa_nil)) sa_nil)) sa_nil)))))))))))
theorem b_whole (fx : Fx K mg fd) : BodyOk P w K mg base (ct K) (fns K fd) ⟨He.fAd K d_whole.at_, fd 10, ["system"]⟩ ⟨1, 11, false, m_whole⟩ :=
  ⟨_, "whole", _, _, _, _, _, N_whole, fx.D_whole, sc_whole, rfl, rfl, by decide, fun call n co cdv A outer s H E hr => t_whole fx call n cdv A outer s H E ⟨co, hr⟩⟩
abbrev N_judge_carries : List Str := ["system", "carries", "listed", "at", "carry_row", "sums_of_figures", "figures", "sums", "next_row", "carry"]
theorem sc_judge_carries : FnScope N_judge_carries ["system", "carries"] (defScope s_judge_carries) := ⟨by kernel_rfl, by kernel_rfl, by kernel_rfl, by decide +kernel, rfl, by decide +kernel, by decide +kernel⟩
theorem t_judge_carries (fx : Fx K mg fd) (call : CallT) (n : Nat) (cdv : Value) (A : Around) (outer : List Env) (s : Shared) (H : Hp) (E : XK) (c : Cq (cxOf (L2.CX P w) P w K mg base N_judge_carries "judge_carries" (defScope s_judge_carries) (He.fAd K d_judge_carries.at_) cdv A outer s H E) (ct K) (fns K fd) call n) :
    SSs (cxOf (L2.CX P w) P w K mg base N_judge_carries "judge_carries" (defScope s_judge_carries) (He.fAd K d_judge_carries.at_) cdv A outer s H E) (ct K) (fun c d _ H' => E c d H') (defBody s_judge_carries) (m_judge_carries call) := by
  have tk : Takes (cxOf (L2.CX P w) P w K mg base N_judge_carries "judge_carries" (defScope s_judge_carries) (He.fAd K d_judge_carries.at_) cdv A outer s H E) (fun cls d _ H' => E cls d H') := takes_of rfl rfl rfl rfl
  have nd := sc_judge_carries.nd
  have po : PassesOwn (model P w) (cxOf (L2.CX P w) P w K mg base N_judge_carries "judge_carries" (defScope s_judge_carries) (He.fAd K d_judge_carries.at_) cdv A outer s H E).A (cxOf (L2.CX P w) P w K mg base N_judge_carries "judge_carries" (defScope s_judge_carries) (He.fAd K d_judge_carries.at_) cdv A outer s H E).env (cxOf (L2.CX P w) P w K mg base N_judge_carries "judge_carries" (defScope s_judge_carries) (He.fAd K d_judge_carries.at_) cdv A outer s H E).xe := passes_of rfl
  exact (sss_cons (ss_if (st_not (st_truth (sc_call ⟨c.co, c.ro⟩ tk fx.i_is_sequence fx.g_is_sequence rfl rfl (sa_cons (se_fld (ok := ok_rows) (k := 1) (se_var 1) rfl (hok_rows fx)) sa_nil))))
      (sss_one (ss_ret' (se_tup (sa_cons se_str sa_nil))))
      sss_nil)
      (sss_cons (ss_set nd (i := 2) rfl (by first | exact .inl rfl | exact .inr rfl) se_dt0)
      (sss_cons (ss_for po rfl (si_enumB rfl fx.f_enumerate (sa_cons (se_fld (ok := ok_rows) (k := 1) (se_var 1) rfl (hok_rows fx)) sa_nil)) (sg_tup rfl (sgs_cons (sg_name nd (i := 3) rfl (by first | exact .inl rfl | exact .inr rfl)) (sgs_cons (sg_name nd (i := 4) rfl (by first | exact .inl rfl | exact .inr rfl)) sgs_nil)))
      (sss_cons (ss_if (st_bool (sw_or (st_not (st_truth (sc_call ⟨c.co, c.ro⟩ tk fx.i_is_sequence fx.g_is_sequence rfl rfl (sa_cons (se_var 4) sa_nil)))) (sw_or1 (st_cmp (ne_sound (unR c.ro)) (se_callB len_sound rfl fx.f_len (by decide +kernel) (sa_cons (se_var 4) sa_nil)) (se_callB len_sound rfl fx.f_len (by decide +kernel) (sa_cons (se_var 0) sa_nil))))))
      (sss_one (ss_ret' (se_tup (sa_cons se_str (sa_cons (se_var 3) sa_nil)))))
      sss_nil)
      (sss_cons (ss_if (st_truth (se_lc false rfl nd (si_seq (se_var 4)) (own := [("carry", 9)]) (blkOk_by (by first | decide +kernel | kernel_rfl)) rfl (fun _ _ _ _ _ => (sgc_name nd (i := 9) rfl (by first | exact .inl rfl | exact .inr rfl) (by decide))) (fun _ _ _ _ _ => (spt_one (st_not (st_truth (sc_call ⟨c.co, c.ro⟩ takesW fx.i_is_whole fx.g_is_whole rfl rfl (sa_cons (se_var 9) sa_nil)))))) (fun _ _ _ _ _ => (se_var 9))))
      (sss_one (ss_ret' (se_tup (sa_cons se_str (sa_cons (se_var 3) sa_nil)))))
      sss_nil)
      (sss_one (ss_dput (unR5 c.ro) (se_var 2) (se_callTy tuple_sound rfl fx.f_tuple (by decide +kernel) (sa_cons (se_var 4) sa_nil)) se_bl)))))
      (sss_cons (ss_if (st_cmp (dnotin_sound (unR5 c.ro)) (sc_call ⟨c.co, c.ro⟩ tk fx.i_start_row_of fx.g_start_row_of rfl rfl (sa_cons (se_var 0) sa_nil)) (se_var 2))
      (sss_one (ss_ret' (se_tup (sa_cons se_str sa_nil))))
      sss_nil)
      (sss_cons (ss_for po rfl (si_enumB rfl fx.f_enumerate (sa_cons (se_fld (ok := ok_rows) (k := 1) (se_var 1) rfl (hok_rows fx)) sa_nil)) (sg_tup rfl (sgs_cons (sg_name nd (i := 3) rfl (by first | exact .inl rfl | exact .inr rfl)) (sgs_cons (sg_name nd (i := 4) rfl (by first | exact .inl rfl | exact .inr rfl)) sgs_nil)))
      (sss_one (ss_if (st_truth (sc_call ⟨c.co, c.ro⟩ tk fx.i_is_zero_row fx.g_is_zero_row rfl rfl (sa_cons (se_var 4) sa_nil)))
      (sss_one (ss_ret' (se_tup (sa_cons se_str (sa_cons (se_var 3) sa_nil)))))
      sss_nil)))
      (sss_cons (ss_set nd (i := 5) rfl (by first | exact .inl rfl | exact .inr rfl) (sc_call ⟨c.co, c.ro⟩ tk fx.i_figure_sums fx.g_figure_sums rfl rfl (sa_cons (se_var 0) sa_nil)))
      (sss_cons (ss_for po rfl (si_enumB rfl fx.f_enumerate (sa_cons (se_fld (ok := ok_rows) (k := 1) (se_var 1) rfl (hok_rows fx)) sa_nil)) (sg_tup rfl (sgs_cons (sg_name nd (i := 3) rfl (by first | exact .inl rfl | exact .inr rfl)) (sgs_cons (sg_name nd (i := 4) rfl (by first | exact .inl rfl | exact .inr rfl)) sgs_nil)))
      (sss_one (ss_for po rfl (si_seq (se_var 5)) (sg_tup rfl (sgs_cons (sg_name nd (i := 6) rfl (by first | exact .inl rfl | exact .inr rfl)) (sgs_cons (sg_name nd (i := 7) rfl (by first | exact .inl rfl | exact .inr rfl)) sgs_nil)))
      (sss_cons (ss_set nd (i := 8) rfl (by first | exact .inl rfl | exact .inr rfl) (sc_call ⟨c.co, c.ro⟩ tk fx.i_turned_row fx.g_turned_row rfl rfl (sa_cons (se_var 4) (sa_cons (se_var 7) sa_nil))))
      (sss_one (ss_if (st_bool (sw_and (st_cmp notN_sound (se_var 8) se_non) (sw_and1 (st_cmp (dnotin_sound (unR5 c.ro)) (se_var 8) (se_var 2)))))
      (sss_one (ss_ret' (se_tup (sa_cons se_str (sa_cons (se_var 3) (sa_cons (se_var 6) sa_nil))))))
      sss_nil))))))
      (sss_one (ss_ret' se_non)))))))))
theorem b_judge_carries (fx : Fx K mg fd) : BodyOk P w K mg base (ct K) (fns K fd) ⟨He.fAd K d_judge_carries.at_, fd 11, ["system", "carries"]⟩ ⟨2, 10, false, m_judge_carries⟩ :=
  ⟨_, "judge_carries", _, _, _, _, _, N_judge_carries, fx.D_judge_carries, sc_judge_carries, rfl, rfl, by decide, fun call n co cdv A outer s H E hr => t_judge_carries fx call n cdv A outer s H E ⟨co, hr⟩⟩
abbrev N_Answer__init_ : List Str := ["self", "numbers"]
theorem sc_Answer__init_ : FnScope N_Answer__init_ ["self", "numbers"] (defScope s_Answer__init_) := ⟨by kernel_rfl, by kernel_rfl, by kernel_rfl, by decide +kernel, rfl, by decide +kernel, by decide +kernel⟩
theorem t_Answer__init_ (fx : Fx K mg fd) (call : CallT) (n : Nat) (cdv : Value) (A : Around) (outer : List Env) (s : Shared) (H : Hp) (E : XK) (c : Cq (cxOf (L2.CX P w) P w K mg base N_Answer__init_ "Answer.__init__" (defScope s_Answer__init_) (He.fAd K d_Answer__init_.at_) cdv A outer s H E) (ct K) (fns K fd) call n) :
    SSs (cxOf (L2.CX P w) P w K mg base N_Answer__init_ "Answer.__init__" (defScope s_Answer__init_) (He.fAd K d_Answer__init_.at_) cdv A outer s H E) (ct K) (fun c d _ H' => E c d H') (defBody s_Answer__init_) (m_Answer__init_ call) := by
  have tk : Takes (cxOf (L2.CX P w) P w K mg base N_Answer__init_ "Answer.__init__" (defScope s_Answer__init_) (He.fAd K d_Answer__init_.at_) cdv A outer s H E) (fun cls d _ H' => E cls d H') := takes_of rfl rfl rfl rfl
  have nd := sc_Answer__init_.nd
  have po : PassesOwn (model P w) (cxOf (L2.CX P w) P w K mg base N_Answer__init_ "Answer.__init__" (defScope s_Answer__init_) (He.fAd K d_Answer__init_.at_) cdv A outer s H E).A (cxOf (L2.CX P w) P w K mg base N_Answer__init_ "Answer.__init__" (defScope s_Answer__init_) (He.fAd K d_Answer__init_.at_) cdv A outer s H E).env (cxOf (L2.CX P w) P w K mg base N_Answer__init_ "Answer.__init__" (defScope s_Answer__init_) (He.fAd K d_Answer__init_.at_) cdv A outer s H E).xe := passes_of rfl
  exact (sss_one (ss_fld (ok := ok_numbers) (k := 0) (se_var 0) (se_var 1) rfl (hok_numbers fx)))
theorem b_Answer__init_ (fx : Fx K mg fd) : BodyOk P w K mg base (ct K) (fns K fd) ⟨He.fAd K d_Answer__init_.at_, fd 12, ["self", "numbers"]⟩ ⟨2, 2, false, m_Answer__init_⟩ :=
  ⟨_, "Answer.__init__", _, _, _, _, _, N_Answer__init_, fx.D_Answer__init_, sc_Answer__init_, rfl, rfl, by decide, fun call n co cdv A outer s H E hr => t_Answer__init_ fx call n cdv A outer s H E ⟨co, hr⟩⟩
abbrev N_Answer__eq_ : List Str := ["self", "other"]
theorem sc_Answer__eq_ : FnScope N_Answer__eq_ ["self", "other"] (defScope s_Answer__eq_) := ⟨by kernel_rfl, by kernel_rfl, by kernel_rfl, by decide +kernel, rfl, by decide +kernel, by decide +kernel⟩
theorem t_Answer__eq_ (fx : Fx K mg fd) (call : CallT) (n : Nat) (cdv : Value) (A : Around) (outer : List Env) (s : Shared) (H : Hp) (E : XK) (c : Cq (cxOf (L2.CX P w) P w K mg base N_Answer__eq_ "Answer.__eq__" (defScope s_Answer__eq_) (He.fAd K d_Answer__eq_.at_) cdv A outer s H E) (ct K) (fns K fd) call n) :
    SSs (cxOf (L2.CX P w) P w K mg base N_Answer__eq_ "Answer.__eq__" (defScope s_Answer__eq_) (He.fAd K d_Answer__eq_.at_) cdv A outer s H E) (ct K) (fun c d _ H' => E c d H') (defBody s_Answer__eq_) (m_Answer__eq_ call) := by
  have tk : Takes (cxOf (L2.CX P w) P w K mg base N_Answer__eq_ "Answer.__eq__" (defScope s_Answer__eq_) (He.fAd K d_Answer__eq_.at_) cdv A outer s H E) (fun cls d _ H' => E cls d H') := takes_of rfl rfl rfl rfl
  have nd := sc_Answer__eq_.nd
  have po : PassesOwn (model P w) (cxOf (L2.CX P w) P w K mg base N_Answer__eq_ "Answer.__eq__" (defScope s_Answer__eq_) (He.fAd K d_Answer__eq_.at_) cdv A outer s H E).A (cxOf (L2.CX P w) P w K mg base N_Answer__eq_ "Answer.__eq__" (defScope s_Answer__eq_) (He.fAd K d_Answer__eq_.at_) cdv A outer s H E).env (cxOf (L2.CX P w) P w K mg base N_Answer__eq_ "Answer.__eq__" (defScope s_Answer__eq_) (He.fAd K d_Answer__eq_.at_) cdv A outer s H E).xe := passes_of rfl
  exact (sss_one (ss_ret' (se_and (se_isiC rfl fx.g_Answer (isiOk fx (C := 2) (by decide)) rfl fx.f_isinstance (se_var 1)) (se_one (se_cmp (eq_sound (unR c.ro)) (se_fld (ok := ok_numbers) (k := 0) (se_var 0) rfl (hok_numbers fx)) (se_fld (ok := ok_numbers) (k := 0) (se_var 1) rfl (hok_numbers fx)))))))
theorem b_Answer__eq_ (fx : Fx K mg fd) : BodyOk P w K mg base (ct K) (fns K fd) ⟨He.fAd K d_Answer__eq_.at_, fd 13, ["self", "other"]⟩ ⟨2, 2, false, m_Answer__eq_⟩ :=
  ⟨_, "Answer.__eq__", _, _, _, _, _, N_Answer__eq_, fx.D_Answer__eq_, sc_Answer__eq_, rfl, rfl, by decide, fun call n co cdv A outer s H E hr => t_Answer__eq_ fx call n cdv A outer s H E ⟨co, hr⟩⟩
abbrev N_Carries__init_ : List Str := ["self", "rows"]
theorem sc_Carries__init_ : FnScope N_Carries__init_ ["self", "rows"] (defScope s_Carries__init_) := ⟨by kernel_rfl, by kernel_rfl, by kernel_rfl, by decide +kernel, rfl, by decide +kernel, by decide +kernel⟩
theorem t_Carries__init_ (fx : Fx K mg fd) (call : CallT) (n : Nat) (cdv : Value) (A : Around) (outer : List Env) (s : Shared) (H : Hp) (E : XK) (c : Cq (cxOf (L2.CX P w) P w K mg base N_Carries__init_ "Carries.__init__" (defScope s_Carries__init_) (He.fAd K d_Carries__init_.at_) cdv A outer s H E) (ct K) (fns K fd) call n) :
    SSs (cxOf (L2.CX P w) P w K mg base N_Carries__init_ "Carries.__init__" (defScope s_Carries__init_) (He.fAd K d_Carries__init_.at_) cdv A outer s H E) (ct K) (fun c d _ H' => E c d H') (defBody s_Carries__init_) (m_Carries__init_ call) := by
  have tk : Takes (cxOf (L2.CX P w) P w K mg base N_Carries__init_ "Carries.__init__" (defScope s_Carries__init_) (He.fAd K d_Carries__init_.at_) cdv A outer s H E) (fun cls d _ H' => E cls d H') := takes_of rfl rfl rfl rfl
  have nd := sc_Carries__init_.nd
  have po : PassesOwn (model P w) (cxOf (L2.CX P w) P w K mg base N_Carries__init_ "Carries.__init__" (defScope s_Carries__init_) (He.fAd K d_Carries__init_.at_) cdv A outer s H E).A (cxOf (L2.CX P w) P w K mg base N_Carries__init_ "Carries.__init__" (defScope s_Carries__init_) (He.fAd K d_Carries__init_.at_) cdv A outer s H E).env (cxOf (L2.CX P w) P w K mg base N_Carries__init_ "Carries.__init__" (defScope s_Carries__init_) (He.fAd K d_Carries__init_.at_) cdv A outer s H E).xe := passes_of rfl
  exact (sss_one (ss_fld (ok := ok_rows) (k := 1) (se_var 0) (se_var 1) rfl (hok_rows fx)))
theorem b_Carries__init_ (fx : Fx K mg fd) : BodyOk P w K mg base (ct K) (fns K fd) ⟨He.fAd K d_Carries__init_.at_, fd 14, ["self", "rows"]⟩ ⟨2, 2, false, m_Carries__init_⟩ :=
  ⟨_, "Carries.__init__", _, _, _, _, _, N_Carries__init_, fx.D_Carries__init_, sc_Carries__init_, rfl, rfl, by decide, fun call n co cdv A outer s H E hr => t_Carries__init_ fx call n cdv A outer s H E ⟨co, hr⟩⟩
abbrev N_Carries__eq_ : List Str := ["self", "other"]
theorem sc_Carries__eq_ : FnScope N_Carries__eq_ ["self", "other"] (defScope s_Carries__eq_) := ⟨by kernel_rfl, by kernel_rfl, by kernel_rfl, by decide +kernel, rfl, by decide +kernel, by decide +kernel⟩
theorem t_Carries__eq_ (fx : Fx K mg fd) (call : CallT) (n : Nat) (cdv : Value) (A : Around) (outer : List Env) (s : Shared) (H : Hp) (E : XK) (c : Cq (cxOf (L2.CX P w) P w K mg base N_Carries__eq_ "Carries.__eq__" (defScope s_Carries__eq_) (He.fAd K d_Carries__eq_.at_) cdv A outer s H E) (ct K) (fns K fd) call n) :
    SSs (cxOf (L2.CX P w) P w K mg base N_Carries__eq_ "Carries.__eq__" (defScope s_Carries__eq_) (He.fAd K d_Carries__eq_.at_) cdv A outer s H E) (ct K) (fun c d _ H' => E c d H') (defBody s_Carries__eq_) (m_Carries__eq_ call) := by
  have tk : Takes (cxOf (L2.CX P w) P w K mg base N_Carries__eq_ "Carries.__eq__" (defScope s_Carries__eq_) (He.fAd K d_Carries__eq_.at_) cdv A outer s H E) (fun cls d _ H' => E cls d H') := takes_of rfl rfl rfl rfl
  have nd := sc_Carries__eq_.nd
  have po : PassesOwn (model P w) (cxOf (L2.CX P w) P w K mg base N_Carries__eq_ "Carries.__eq__" (defScope s_Carries__eq_) (He.fAd K d_Carries__eq_.at_) cdv A outer s H E).A (cxOf (L2.CX P w) P w K mg base N_Carries__eq_ "Carries.__eq__" (defScope s_Carries__eq_) (He.fAd K d_Carries__eq_.at_) cdv A outer s H E).env (cxOf (L2.CX P w) P w K mg base N_Carries__eq_ "Carries.__eq__" (defScope s_Carries__eq_) (He.fAd K d_Carries__eq_.at_) cdv A outer s H E).xe := passes_of rfl
  exact (sss_one (ss_ret' (se_and (se_isiC rfl fx.g_Carries (isiOk fx (C := 3) (by decide)) rfl fx.f_isinstance (se_var 1)) (se_one (se_cmp (eq_sound (unR c.ro)) (se_fld (ok := ok_rows) (k := 1) (se_var 0) rfl (hok_rows fx)) (se_fld (ok := ok_rows) (k := 1) (se_var 1) rfl (hok_rows fx)))))))
theorem b_Carries__eq_ (fx : Fx K mg fd) : BodyOk P w K mg base (ct K) (fns K fd) ⟨He.fAd K d_Carries__eq_.at_, fd 15, ["self", "other"]⟩ ⟨2, 2, false, m_Carries__eq_⟩ :=
  ⟨_, "Carries.__eq__", _, _, _, _, _, N_Carries__eq_, fx.D_Carries__eq_, sc_Carries__eq_, rfl, rfl, by decide, fun call n co cdv A outer s H E hr => t_Carries__eq_ fx call n cdv A outer s H E ⟨co, hr⟩⟩
abbrev N__law_source : List Str := ["_law_script"]
theorem sc__law_source : FnScope N__law_source ["_law_script"] (defScope s__law_source) := ⟨by kernel_rfl, by kernel_rfl, by kernel_rfl, by decide +kernel, rfl, by decide +kernel, by decide +kernel⟩
theorem t__law_source (fx : Fx K mg fd) (call : CallT) (n : Nat) (cdv : Value) (A : Around) (outer : List Env) (s : Shared) (H : Hp) (E : XK) (c : Cq (cxOf (L2.CX P w) P w K mg base N__law_source "_law_source" (defScope s__law_source) (He.fAd K d__law_source.at_) cdv A outer s H E) (ct K) (fns K fd) call n) :
    SSs (cxOf (L2.CX P w) P w K mg base N__law_source "_law_source" (defScope s__law_source) (He.fAd K d__law_source.at_) cdv A outer s H E) (ct K) (fun c d _ H' => E c d H') (defBody s__law_source) (m__law_source call) := by
  have tk : Takes (cxOf (L2.CX P w) P w K mg base N__law_source "_law_source" (defScope s__law_source) (He.fAd K d__law_source.at_) cdv A outer s H E) (fun cls d _ H' => E cls d H') := takes_of rfl rfl rfl rfl
  have nd := sc__law_source.nd
  have po : PassesOwn (model P w) (cxOf (L2.CX P w) P w K mg base N__law_source "_law_source" (defScope s__law_source) (He.fAd K d__law_source.at_) cdv A outer s H E).A (cxOf (L2.CX P w) P w K mg base N__law_source "_law_source" (defScope s__law_source) (He.fAd K d__law_source.at_) cdv A outer s H E).env (cxOf (L2.CX P w) P w K mg base N__law_source "_law_source" (defScope s__law_source) (He.fAd K d__law_source.at_) cdv A outer s H E).xe := passes_of rfl
  exact (sss_one (ss_ret' (se_lst (sa_cons (se_callTy listV_sound rfl fx.f_list (by decide +kernel) (sa_cons (se_var 0) sa_nil)) (sa_cons se_int (sa_cons se_int (sa_cons se_int sa_nil)))))))
theorem b__law_source (fx : Fx K mg fd) : BodyOk P w K mg base (ct K) (fns K fd) ⟨He.fAd K d__law_source.at_, fd 16, ["_law_script"]⟩ ⟨1, 1, true, m__law_source⟩ :=
  ⟨_, "_law_source", _, _, _, _, _, N__law_source, fx.D__law_source, sc__law_source, rfl, rfl, by decide, fun call n co cdv A outer s H E hr => t__law_source fx call n cdv A outer s H E ⟨co, hr⟩⟩
abbrev N__law_take : List Str := ["_law_source_here", "_law_many", "_law_cell", "_law_mixed", "_law_told"]
theorem sc__law_take : FnScope N__law_take ["_law_source_here", "_law_many"] (defScope s__law_take) := ⟨by kernel_rfl, by kernel_rfl, by kernel_rfl, by decide +kernel, rfl, by decide +kernel, by decide +kernel⟩
theorem t__law_take (fx : Fx K mg fd) (call : CallT) (n : Nat) (cdv : Value) (A : Around) (outer : List Env) (s : Shared) (H : Hp) (E : XK) (c : Cq (cxOf (L2.CX P w) P w K mg base N__law_take "_law_take" (defScope s__law_take) (He.fAd K d__law_take.at_) cdv A outer s H E) (ct K) (fns K fd) call n) :
    SSs (cxOf (L2.CX P w) P w K mg base N__law_take "_law_take" (defScope s__law_take) (He.fAd K d__law_take.at_) cdv A outer s H E) (ct K) (fun c d _ H' => E c d H') (defBody s__law_take) (m__law_take call) := by
  have tk : Takes (cxOf (L2.CX P w) P w K mg base N__law_take "_law_take" (defScope s__law_take) (He.fAd K d__law_take.at_) cdv A outer s H E) (fun cls d _ H' => E cls d H') := takes_of rfl rfl rfl rfl
  have nd := sc__law_take.nd
  have po : PassesOwn (model P w) (cxOf (L2.CX P w) P w K mg base N__law_take "_law_take" (defScope s__law_take) (He.fAd K d__law_take.at_) cdv A outer s H E).A (cxOf (L2.CX P w) P w K mg base N__law_take "_law_take" (defScope s__law_take) (He.fAd K d__law_take.at_) cdv A outer s H E).env (cxOf (L2.CX P w) P w K mg base N__law_take "_law_take" (defScope s__law_take) (He.fAd K d__law_take.at_) cdv A outer s H E).xe := passes_of rfl
  exact (sss_cons (ss_if (st_cmp eqF_sound (se_ix ix_sound (se_var 0) se_int) se_int)
      (sss_cons (ss_set nd (i := 2) rfl (by first | exact .inl rfl | exact .inr rfl) se_int)
      (sss_cons (ss_if (st_cmp lt_sound (se_ix ix_sound (se_var 0) se_int) (se_callB len_sound rfl fx.f_len (by decide +kernel) (sa_cons (se_ix ix_sound (se_var 0) se_int) sa_nil)))
      (sss_one (ss_set nd (i := 2) rfl (by first | exact .inl rfl | exact .inr rfl) (se_ix ix_sound (se_ix ix_sound (se_var 0) se_int) (se_ix ix_sound (se_var 0) se_int))))
      sss_nil)
      (sss_cons (ss_asg (se_bin add_sound (se_ix ix_sound (se_var 0) se_int) se_int) (sg_store (se_var 0) se_int))
      (sss_one (ss_if (st_cmp ge_sound (se_var 2) (se_bin pow_sound se_int se_int))
      (sss_one (ss_asg (se_var 2) (sg_store (se_var 0) se_int)))
      (sss_cons (ss_set nd (i := 3) rfl (by first | exact .inl rfl | exact .inr rfl) (se_bin mod_sound (se_callTy int_sound rfl fx.f_int (by decide +kernel) (sa_cons (se_bin add_sound (se_bin add_sound (se_bin add_sound (se_bin mulI_sound (se_ix ix_sound (se_var 0) se_int) se_int) (se_bin mulI_sound (se_bin mod_sound (se_callTy int_sound rfl fx.f_int (by decide +kernel) (sa_cons (se_var 2) sa_nil)) se_int) se_int)) (se_bin mulI_sound (se_ix ix_sound (se_var 0) se_int) se_int)) se_int) sa_nil)) se_int))
      (sss_cons (ss_set nd (i := 3) rfl (by first | exact .inl rfl | exact .inr rfl) (se_bin mod_sound (se_callTy int_sound rfl fx.f_int (by decide +kernel) (sa_cons (se_bin add_sound (se_bin add_sound (se_bin mulI_sound (se_var 3) (se_var 3)) (se_bin mulI_sound (se_ix ix_sound (se_var 0) se_int) se_int)) se_int) sa_nil)) se_int))
      (sss_cons (ss_asg (se_var 3) (sg_store (se_var 0) se_int))
      (sss_one (ss_ret' (se_bin mod_sound (se_bin div_sound (se_var 3) se_int) (se_var 1))))))))))))
      sss_nil)
      (sss_cons (ss_set nd (i := 4) rfl (by first | exact .inl rfl | exact .inr rfl) (se_bin mod_sound (se_callTy int_sound rfl fx.f_int (by decide +kernel) (sa_cons (se_ix ix_sound (se_var 0) se_int) sa_nil)) (se_var 1)))
      (sss_cons (ss_asg (se_bin div_sound (se_ix ix_sound (se_var 0) se_int) (se_var 1)) (sg_store (se_var 0) se_int))
      (sss_one (ss_ret' (se_var 4))))))
theorem b__law_take (fx : Fx K mg fd) : BodyOk P w K mg base (ct K) (fns K fd) ⟨He.fAd K d__law_take.at_, fd 17, ["_law_source_here", "_law_many"]⟩ ⟨2, 5, false, m__law_take⟩ :=
  ⟨_, "_law_take", _, _, _, _, _, N__law_take, fx.D__law_take, sc__law_take, rfl, rfl, by decide, fun call n co cdv A outer s H E hr => t__law_take fx call n cdv A outer s H E ⟨co, hr⟩⟩
abbrev N__law_value : List Str := ["_law_form", "_law_numbers", "_law_total", "_law_factor", "_law_number"]
theorem sc__law_value : FnScope N__law_value ["_law_form", "_law_numbers"] (defScope s__law_value) := ⟨by kernel_rfl, by kernel_rfl, by kernel_rfl, by decide +kernel, rfl, by decide +kernel, by decide +kernel⟩
theorem t__law_value (fx : Fx K mg fd) (call : CallT) (n : Nat) (cdv : Value) (A : Around) (outer : List Env) (s : Shared) (H : Hp) (E : XK) (c : Cq (cxOf (L2.CX P w) P w K mg base N__law_value "_law_value" (defScope s__law_value) (He.fAd K d__law_value.at_) cdv A outer s H E) (ct K) (fns K fd) call n) :
    SSs (cxOf (L2.CX P w) P w K mg base N__law_value "_law_value" (defScope s__law_value) (He.fAd K d__law_value.at_) cdv A outer s H E) (ct K) (fun c d _ H' => E c d H') (defBody s__law_value) (m__law_value call) := by
  have tk : Takes (cxOf (L2.CX P w) P w K mg base N__law_value "_law_value" (defScope s__law_value) (He.fAd K d__law_value.at_) cdv A outer s H E) (fun cls d _ H' => E cls d H') := takes_of rfl rfl rfl rfl
  have nd := sc__law_value.nd
  have po : PassesOwn (model P w) (cxOf (L2.CX P w) P w K mg base N__law_value "_law_value" (defScope s__law_value) (He.fAd K d__law_value.at_) cdv A outer s H E).A (cxOf (L2.CX P w) P w K mg base N__law_value "_law_value" (defScope s__law_value) (He.fAd K d__law_value.at_) cdv A outer s H E).env (cxOf (L2.CX P w) P w K mg base N__law_value "_law_value" (defScope s__law_value) (He.fAd K d__law_value.at_) cdv A outer s H E).xe := passes_of rfl
  exact (sss_cons (ss_set nd (i := 2) rfl (by first | exact .inl rfl | exact .inr rfl) (se_ix ix_sound (se_var 0) se_int))
      (sss_cons (ss_for po rfl (si_zipB rfl fx.f_zip (sa_cons (se_ix ix_sound (se_var 0) se_int) (sa_cons (se_var 1) sa_nil))) (sg_tup rfl (sgs_cons (sg_name nd (i := 3) rfl (by first | exact .inl rfl | exact .inr rfl)) (sgs_cons (sg_name nd (i := 4) rfl (by first | exact .inl rfl | exact .inr rfl)) sgs_nil)))
      (sss_one (ss_set nd (i := 2) rfl (by first | exact .inl rfl | exact .inr rfl) (se_bin add_sound (se_var 2) (se_bin mulI_sound (se_var 3) (se_var 4))))))
      (sss_one (ss_ret' (se_var 2)))))
theorem b__law_value (fx : Fx K mg fd) : BodyOk P w K mg base (ct K) (fns K fd) ⟨He.fAd K d__law_value.at_, fd 18, ["_law_form", "_law_numbers"]⟩ ⟨2, 5, false, m__law_value⟩ :=
  ⟨_, "_law_value", _, _, _, _, _, N__law_value, fx.D__law_value, sc__law_value, rfl, rfl, by decide, fun call n co cdv A outer s H E hr => t__law_value fx call n cdv A outer s H E ⟨co, hr⟩⟩
abbrev N__law_figures : List Str := ["_law_number", "_law_told", "_law_turn"]
theorem sc__law_figures : FnScope N__law_figures ["_law_number"] (defScope s__law_figures) := ⟨by kernel_rfl, by kernel_rfl, by kernel_rfl, by decide +kernel, rfl, by decide +kernel, by decide +kernel⟩
theorem t__law_figures (fx : Fx K mg fd) (call : CallT) (n : Nat) (cdv : Value) (A : Around) (outer : List Env) (s : Shared) (H : Hp) (E : XK) (c : Cq (cxOf (L2.CX P w) P w K mg base N__law_figures "_law_figures" (defScope s__law_figures) (He.fAd K d__law_figures.at_) cdv A outer s H E) (ct K) (fns K fd) call n) :
    SSs (cxOf (L2.CX P w) P w K mg base N__law_figures "_law_figures" (defScope s__law_figures) (He.fAd K d__law_figures.at_) cdv A outer s H E) (ct K) (fun c d _ H' => E c d H') (defBody s__law_figures) (m__law_figures call) := by
  have tk : Takes (cxOf (L2.CX P w) P w K mg base N__law_figures "_law_figures" (defScope s__law_figures) (He.fAd K d__law_figures.at_) cdv A outer s H E) (fun cls d _ H' => E cls d H') := takes_of rfl rfl rfl rfl
  have nd := sc__law_figures.nd
  have po : PassesOwn (model P w) (cxOf (L2.CX P w) P w K mg base N__law_figures "_law_figures" (defScope s__law_figures) (He.fAd K d__law_figures.at_) cdv A outer s H E).A (cxOf (L2.CX P w) P w K mg base N__law_figures "_law_figures" (defScope s__law_figures) (He.fAd K d__law_figures.at_) cdv A outer s H E).env (cxOf (L2.CX P w) P w K mg base N__law_figures "_law_figures" (defScope s__law_figures) (He.fAd K d__law_figures.at_) cdv A outer s H E).xe := passes_of rfl
  exact (sss_cons (ss_set nd (i := 1) rfl (by first | exact .inl rfl | exact .inr rfl) (se_lst sa_nil))
      (sss_cons (ss_for po rfl (si_rng1 rfl fx.f_range (sa_cons se_int sa_nil)) (sg_name nd (i := 2) rfl (by first | exact .inl rfl | exact .inr rfl))
      (sss_cons (ss_if (st_cmp eqF_sound (se_var 0) se_int)
      (sss_one ss_break)
      sss_nil)
      (sss_cons (ss_expr (se_append (se_var 1) (sa_cons (se_bin mod_sound (se_callTy int_sound rfl fx.f_int (by decide +kernel) (sa_cons (se_var 0) sa_nil)) se_int) sa_nil)))
      (sss_one (ss_set nd (i := 0) rfl (by first | exact .inl rfl | exact .inr rfl) (se_bin div_sound (se_var 0) se_int))))))
      (sss_one (ss_ret' (se_var 1)))))
theorem b__law_figures (fx : Fx K mg fd) : BodyOk P w K mg base (ct K) (fns K fd) ⟨He.fAd K d__law_figures.at_, fd 19, ["_law_number"]⟩ ⟨1, 3, false, m__law_figures⟩ :=
  ⟨_, "_law_figures", _, _, _, _, _, N__law_figures, fx.D__law_figures, sc__law_figures, rfl, rfl, by decide, fun call n co cdv A outer s H E hr => t__law_figures fx call n cdv A outer s H E ⟨co, hr⟩⟩
abbrev N__law_used : List Str := ["_law_system_here", "_law_i", "_law_form"]
theorem sc__law_used : FnScope N__law_used ["_law_system_here"] (defScope s__law_used) := ⟨by kernel_rfl, by kernel_rfl, by kernel_rfl, by decide +kernel, rfl, by decide +kernel, by decide +kernel⟩
theorem t__law_used (fx : Fx K mg fd) (call : CallT) (n : Nat) (cdv : Value) (A : Around) (outer : List Env) (s : Shared) (H : Hp) (E : XK) (c : Cq (cxOf (L2.CX P w) P w K mg base N__law_used "_law_used" (defScope s__law_used) (He.fAd K d__law_used.at_) cdv A outer s H E) (ct K) (fns K fd) call n) :
    SSs (cxOf (L2.CX P w) P w K mg base N__law_used "_law_used" (defScope s__law_used) (He.fAd K d__law_used.at_) cdv A outer s H E) (ct K) (fun c d _ H' => E c d H') (defBody s__law_used) (m__law_used call) := by
  have tk : Takes (cxOf (L2.CX P w) P w K mg base N__law_used "_law_used" (defScope s__law_used) (He.fAd K d__law_used.at_) cdv A outer s H E) (fun cls d _ H' => E cls d H') := takes_of rfl rfl rfl rfl
  have nd := sc__law_used.nd
  have po : PassesOwn (model P w) (cxOf (L2.CX P w) P w K mg base N__law_used "_law_used" (defScope s__law_used) (He.fAd K d__law_used.at_) cdv A outer s H E).A (cxOf (L2.CX P w) P w K mg base N__law_used "_law_used" (defScope s__law_used) (He.fAd K d__law_used.at_) cdv A outer s H E).env (cxOf (L2.CX P w) P w K mg base N__law_used "_law_used" (defScope s__law_used) (He.fAd K d__law_used.at_) cdv A outer s H E).xe := passes_of rfl
  exact (sss_cons (ss_if (st_cmp (eq_sound (unR c.ro)) (se_var 0) (se_lv sa_nil))
      (sss_one (ss_ret' (se_lv sa_nil)))
      sss_nil)
      (sss_one (ss_ret' (se_lc false rfl nd (si_rng1 rfl fx.f_range (sa_cons (se_callB len_sound rfl fx.f_len (by decide +kernel) (sa_cons (se_ix ix_sound (se_ix ix_sound (se_var 0) se_int) se_int) sa_nil)) sa_nil)) (own := [("_law_i", 1)]) (blkOk_by (by first | decide +kernel | kernel_rfl)) rfl (fun _ _ _ _ _ => (sgc_name nd (i := 1) rfl (by first | exact .inl rfl | exact .inr rfl) (by decide))) (fun _ _ _ _ _ => spt_nil) (fun _ _ _ _ _ => (se_cmp (ne_sound (unR c.ro)) (se_lc false rfl nd (si_seq (se_var 0)) (own := [("_law_form", 2)]) (blkOk_by (by first | decide +kernel | kernel_rfl)) rfl (fun _ _ _ _ _ => (sgc_name nd (i := 2) rfl (by first | exact .inl rfl | exact .inr rfl) (by decide))) (fun _ _ _ _ _ => (spt_one (st_cmp neF_sound (se_ix ix_sound (se_ix ix_sound (se_var 2) se_int) (se_var 1)) se_int))) (fun _ _ _ _ _ => se_int)) (se_lv sa_nil)))))))
theorem b__law_used (fx : Fx K mg fd) : BodyOk P w K mg base (ct K) (fns K fd) ⟨He.fAd K d__law_used.at_, fd 20, ["_law_system_here"]⟩ ⟨1, 3, false, m__law_used⟩ :=
  ⟨_, "_law_used", _, _, _, _, _, N__law_used, fx.D__law_used, sc__law_used, rfl, rfl, by decide, fun call n co cdv A outer s H E hr => t__law_used fx call n cdv A outer s H E ⟨co, hr⟩⟩
abbrev N__law_figure_rows : List Str := ["_law_system_here", "_law_told", "_law_used_here", "_law_more", "_law_had", "_law_figure"]
theorem sc__law_figure_rows : FnScope N__law_figure_rows ["_law_system_here"] (defScope s__law_figure_rows) := ⟨by kernel_rfl, by kernel_rfl, by kernel_rfl, by decide +kernel, rfl, by decide +kernel, by decide +kernel⟩
theorem t__law_figure_rows (fx : Fx K mg fd) (call : CallT) (n : Nat) (cdv : Value) (A : Around) (outer : List Env) (s : Shared) (H : Hp) (E : XK) (c : Cq (cxOf (L2.CX P w) P w K mg base N__law_figure_rows "_law_figure_rows" (defScope s__law_figure_rows) (He.fAd K d__law_figure_rows.at_) cdv A outer s H E) (ct K) (fns K fd) call n) :
    SSs (cxOf (L2.CX P w) P w K mg base N__law_figure_rows "_law_figure_rows" (defScope s__law_figure_rows) (He.fAd K d__law_figure_rows.at_) cdv A outer s H E) (ct K) (fun c d _ H' => E c d H') (defBody s__law_figure_rows) (m__law_figure_rows call) := by
  have tk : Takes (cxOf (L2.CX P w) P w K mg base N__law_figure_rows "_law_figure_rows" (defScope s__law_figure_rows) (He.fAd K d__law_figure_rows.at_) cdv A outer s H E) (fun cls d _ H' => E cls d H') := takes_of rfl rfl rfl rfl
  have nd := sc__law_figure_rows.nd
  have po : PassesOwn (model P w) (cxOf (L2.CX P w) P w K mg base N__law_figure_rows "_law_figure_rows" (defScope s__law_figure_rows) (He.fAd K d__law_figure_rows.at_) cdv A outer s H E).A (cxOf (L2.CX P w) P w K mg base N__law_figure_rows "_law_figure_rows" (defScope s__law_figure_rows) (He.fAd K d__law_figure_rows.at_) cdv A outer s H E).env (cxOf (L2.CX P w) P w K mg base N__law_figure_rows "_law_figure_rows" (defScope s__law_figure_rows) (He.fAd K d__law_figure_rows.at_) cdv A outer s H E).xe := passes_of rfl
  exact (sss_cons (ss_set nd (i := 1) rfl (by first | exact .inl rfl | exact .inr rfl) (se_lv (sa_cons (se_tup sa_nil) sa_nil)))
      (sss_cons (ss_for po rfl (si_seq (sc_call ⟨c.co, c.ro⟩ tk fx.i__law_used fx.g__law_used rfl rfl (sa_cons (se_var 0) sa_nil))) (sg_name nd (i := 2) rfl (by first | exact .inl rfl | exact .inr rfl))
      (sss_cons (ss_set nd (i := 3) rfl (by first | exact .inl rfl | exact .inr rfl) (se_lv sa_nil))
      (sss_cons (ss_for po rfl (si_seq (se_var 1)) (sg_name nd (i := 4) rfl (by first | exact .inl rfl | exact .inr rfl))
      (sss_one (ss_set nd (i := 3) rfl (by first | exact .inl rfl | exact .inr rfl) (se_bin add_sound (se_var 3) (se_lc false rfl nd (si_seq (se_if (st_truth (se_var 2)) (se_tup (sa_cons se_int (sa_cons se_int sa_nil))) (se_tup (sa_cons se_int sa_nil)))) (own := [("_law_figure", 5)]) (blkOk_by (by first | decide +kernel | kernel_rfl)) rfl (fun _ _ _ _ _ => (sgc_name nd (i := 5) rfl (by first | exact .inl rfl | exact .inr rfl) (by decide))) (fun _ _ _ _ _ => spt_nil) (fun _ _ _ _ _ => (se_bin add_sound (se_var 4) (se_tup (sa_cons (se_var 5) sa_nil)))))))))
      (sss_one (ss_set nd (i := 1) rfl (by first | exact .inl rfl | exact .inr rfl) (se_var 3))))))
      (sss_one (ss_ret' (se_var 1)))))
theorem b__law_figure_rows (fx : Fx K mg fd) : BodyOk P w K mg base (ct K) (fns K fd) ⟨He.fAd K d__law_figure_rows.at_, fd 21, ["_law_system_here"]⟩ ⟨1, 6, false, m__law_figure_rows⟩ :=
  ⟨_, "_law_figure_rows", _, _, _, _, _, N__law_figure_rows, fx.D__law_figure_rows, sc__law_figure_rows, rfl, rfl, by decide, fun call n co cdv A outer s H E hr => t__law_figure_rows fx call n cdv A outer s H E ⟨co, hr⟩⟩
abbrev N__law_next : List Str := ["_law_system_here", "_law_carry", "_law_figures_here", "_law_told", "_law_number", "_law_form", "_law_total"]
theorem sc__law_next : FnScope N__law_next ["_law_system_here", "_law_carry", "_law_figures_here"] (defScope s__law_next) := ⟨by kernel_rfl, by kernel_rfl, by kernel_rfl, by decide +kernel, rfl, by decide +kernel, by decide +kernel⟩
theorem t__law_next (fx : Fx K mg fd) (call : CallT) (n : Nat) (cdv : Value) (A : Around) (outer : List Env) (s : Shared) (H : Hp) (E : XK) (c : Cq (cxOf (L2.CX P w) P w K mg base N__law_next "_law_next" (defScope s__law_next) (He.fAd K d__law_next.at_) cdv A outer s H E) (ct K) (fns K fd) call n) :
    SSs (cxOf (L2.CX P w) P w K mg base N__law_next "_law_next" (defScope s__law_next) (He.fAd K d__law_next.at_) cdv A outer s H E) (ct K) (fun c d _ H' => E c d H') (defBody s__law_next) (m__law_next call) := by
  have tk : Takes (cxOf (L2.CX P w) P w K mg base N__law_next "_law_next" (defScope s__law_next) (He.fAd K d__law_next.at_) cdv A outer s H E) (fun cls d _ H' => E cls d H') := takes_of rfl rfl rfl rfl
  have nd := sc__law_next.nd
  have po : PassesOwn (model P w) (cxOf (L2.CX P w) P w K mg base N__law_next "_law_next" (defScope s__law_next) (He.fAd K d__law_next.at_) cdv A outer s H E).A (cxOf (L2.CX P w) P w K mg base N__law_next "_law_next" (defScope s__law_next) (He.fAd K d__law_next.at_) cdv A outer s H E).env (cxOf (L2.CX P w) P w K mg base N__law_next "_law_next" (defScope s__law_next) (He.fAd K d__law_next.at_) cdv A outer s H E).xe := passes_of rfl
  exact (sss_cons (ss_set nd (i := 3) rfl (by first | exact .inl rfl | exact .inr rfl) (se_lst sa_nil))
      (sss_cons (ss_for po rfl (si_zipB rfl fx.f_zip (sa_cons (se_var 1) (sa_cons (se_var 0) sa_nil))) (sg_tup rfl (sgs_cons (sg_name nd (i := 4) rfl (by first | exact .inl rfl | exact .inr rfl)) (sgs_cons (sg_name nd (i := 5) rfl (by first | exact .inl rfl | exact .inr rfl)) sgs_nil)))
      (sss_cons (ss_set nd (i := 6) rfl (by first | exact .inl rfl | exact .inr rfl) (sc_call ⟨c.co, c.ro⟩ tk fx.i__law_value fx.g__law_value rfl rfl (sa_cons (se_tup (sa_cons (se_var 4) (sa_cons (se_ix ix_sound (se_var 5) se_int) sa_nil))) (sa_cons (se_var 2) sa_nil))))
      (sss_cons (ss_if (st_cmp neF_sound (se_bin mod_sound (se_callTy int_sound rfl fx.f_int (by decide +kernel) (sa_cons (se_var 6) sa_nil)) se_int) se_int)
      (sss_one (ss_ret' se_non))
      sss_nil)
      (sss_one (ss_expr (se_append (se_var 3) (sa_cons (se_bin div_sound (se_var 6) se_int) sa_nil)))))))
      (sss_one (ss_ret' (se_callTy tuple_sound rfl fx.f_tuple (by decide +kernel) (sa_cons (se_var 3) sa_nil))))))
theorem b__law_next (fx : Fx K mg fd) : BodyOk P w K mg base (ct K) (fns K fd) ⟨He.fAd K d__law_next.at_, fd 22, ["_law_system_here", "_law_carry", "_law_figures_here"]⟩ ⟨3, 7, false, m__law_next⟩ :=
  ⟨_, "_law_next", _, _, _, _, _, N__law_next, fx.D__law_next, sc__law_next, rfl, rfl, by decide, fun call n co cdv A outer s H E hr => t__law_next fx call n cdv A outer s H E ⟨co, hr⟩⟩
abbrev N__law_turns : List Str := ["_law_system_here", "_law_carry", "_law_told", "_law_figures_here", "_law_turn"]
theorem sc__law_turns : FnScope N__law_turns ["_law_system_here", "_law_carry"] (defScope s__law_turns) := ⟨by kernel_rfl, by kernel_rfl, by kernel_rfl, by decide +kernel, rfl, by decide +kernel, by decide +kernel⟩
theorem t__law_turns (fx : Fx K mg fd) (call : CallT) (n : Nat) (cdv : Value) (A : Around) (outer : List Env) (s : Shared) (H : Hp) (E : XK) (c : Cq (cxOf (L2.CX P w) P w K mg base N__law_turns "_law_turns" (defScope s__law_turns) (He.fAd K d__law_turns.at_) cdv A outer s H E) (ct K) (fns K fd) call n) :
    SSs (cxOf (L2.CX P w) P w K mg base N__law_turns "_law_turns" (defScope s__law_turns) (He.fAd K d__law_turns.at_) cdv A outer s H E) (ct K) (fun c d _ H' => E c d H') (defBody s__law_turns) (m__law_turns call) := by
  have tk : Takes (cxOf (L2.CX P w) P w K mg base N__law_turns "_law_turns" (defScope s__law_turns) (He.fAd K d__law_turns.at_) cdv A outer s H E) (fun cls d _ H' => E cls d H') := takes_of rfl rfl rfl rfl
  have nd := sc__law_turns.nd
  have po : PassesOwn (model P w) (cxOf (L2.CX P w) P w K mg base N__law_turns "_law_turns" (defScope s__law_turns) (He.fAd K d__law_turns.at_) cdv A outer s H E).A (cxOf (L2.CX P w) P w K mg base N__law_turns "_law_turns" (defScope s__law_turns) (He.fAd K d__law_turns.at_) cdv A outer s H E).env (cxOf (L2.CX P w) P w K mg base N__law_turns "_law_turns" (defScope s__law_turns) (He.fAd K d__law_turns.at_) cdv A outer s H E).xe := passes_of rfl
  exact (sss_cons (ss_setLc false rfl nd (i := 2) rfl rfl (sw_true rfl rfl rfl (by decide +kernel)) (si_seq (sc_call ⟨c.co, c.ro⟩ tk fx.i__law_figure_rows fx.g__law_figure_rows rfl rfl (sa_cons (se_var 0) sa_nil))) (own := [("_law_figures_here", 3)]) (blkOk_by (by first | decide +kernel | kernel_rfl)) rfl (fun _ _ _ _ _ => (sgc_name nd (i := 3) rfl (by first | exact .inl rfl | exact .inr rfl) (by decide))) (fun _ _ _ _ _ => spt_nil) (fun _ _ _ _ _ => (se_tup (sa_cons (se_var 3) (sa_cons (sc_call ⟨c.co, c.ro⟩ takesW fx.i__law_next fx.g__law_next rfl rfl (sa_cons (se_var 0) (sa_cons (se_var 1) (sa_cons (se_var 3) sa_nil)))) sa_nil)))))
      (sss_one (ss_ret' (se_lc false rfl nd (si_seq (se_var 2)) (own := [("_law_turn", 4)]) (blkOk_by (by first | decide +kernel | kernel_rfl)) rfl (fun _ _ _ _ _ => (sgc_name nd (i := 4) rfl (by first | exact .inl rfl | exact .inr rfl) (by decide))) (fun _ _ _ _ _ => (spt_one (st_cmp notN_sound (se_ix ix_sound (se_var 4) se_int) se_non))) (fun _ _ _ _ _ => (se_var 4))))))
theorem b__law_turns (fx : Fx K mg fd) : BodyOk P w K mg base (ct K) (fns K fd) ⟨He.fAd K d__law_turns.at_, fd 23, ["_law_system_here", "_law_carry"]⟩ ⟨2, 5, false, m__law_turns⟩ :=
  ⟨_, "_law_turns", _, _, _, _, _, N__law_turns, fx.D__law_turns, sc__law_turns, rfl, rfl, by decide, fun call n co cdv A outer s H E hr => t__law_turns fx call n cdv A outer s H E ⟨co, hr⟩⟩
abbrev N__law_system : List Str := ["_law_source_here", "_law_most_equations", "_law_variables", "_law_factor", "_law_number", "_law_told", "_law_k", "_law_factors", "_law_i"]
theorem sc__law_system : FnScope N__law_system ["_law_source_here", "_law_most_equations", "_law_variables", "_law_factor", "_law_number"] (defScope s__law_system) := ⟨by kernel_rfl, by kernel_rfl, by kernel_rfl, by decide +kernel, rfl, by decide +kernel, by decide +kernel⟩
theorem t__law_system (fx : Fx K mg fd) (call : CallT) (n : Nat) (cdv : Value) (A : Around) (outer : List Env) (s : Shared) (H : Hp) (E : XK) (c : Cq (cxOf (L2.CX P w) P w K mg base N__law_system "_law_system" (defScope s__law_system) (He.fAd K d__law_system.at_) cdv A outer s H E) (ct K) (fns K fd) call n) :
    SSs (cxOf (L2.CX P w) P w K mg base N__law_system "_law_system" (defScope s__law_system) (He.fAd K d__law_system.at_) cdv A outer s H E) (ct K) (fun c d _ H' => E c d H') (defBody s__law_system) (m__law_system call) := by
  have tk : Takes (cxOf (L2.CX P w) P w K mg base N__law_system "_law_system" (defScope s__law_system) (He.fAd K d__law_system.at_) cdv A outer s H E) (fun cls d _ H' => E cls d H') := takes_of rfl rfl rfl rfl
  have nd := sc__law_system.nd
  have po : PassesOwn (model P w) (cxOf (L2.CX P w) P w K mg base N__law_system "_law_system" (defScope s__law_system) (He.fAd K d__law_system.at_) cdv A outer s H E).A (cxOf (L2.CX P w) P w K mg base N__law_system "_law_system" (defScope s__law_system) (He.fAd K d__law_system.at_) cdv A outer s H E).env (cxOf (L2.CX P w) P w K mg base N__law_system "_law_system" (defScope s__law_system) (He.fAd K d__law_system.at_) cdv A outer s H E).xe := passes_of rfl
  exact (sss_cons (ss_set nd (i := 5) rfl (by first | exact .inl rfl | exact .inr rfl) (se_lst sa_nil))
      (sss_cons (ss_for po rfl (si_rng1 rfl fx.f_range (sa_cons (se_bin add_sound se_int (sc_call ⟨c.co, c.ro⟩ tk fx.i__law_take fx.g__law_take rfl rfl (sa_cons (se_var 0) (sa_cons (se_var 1) sa_nil)))) sa_nil)) (sg_name nd (i := 6) rfl (by first | exact .inl rfl | exact .inr rfl))
      (sss_cons (ss_set nd (i := 7) rfl (by first | exact .inl rfl | exact .inr rfl) (se_callTy tuple_sound rfl fx.f_tuple (by decide +kernel) (sa_cons (se_lc false rfl nd (si_rng1 rfl fx.f_range (sa_cons (se_var 2) sa_nil)) (own := [("_law_i", 8)]) (blkOk_by (by first | decide +kernel | kernel_rfl)) rfl (fun _ _ _ _ _ => (sgc_name nd (i := 8) rfl (by first | exact .inl rfl | exact .inr rfl) (by decide))) (fun _ _ _ _ _ => spt_nil) (fun _ _ _ _ _ => (se_bin sub_sound (sc_call ⟨c.co, c.ro⟩ takesW fx.i__law_take fx.g__law_take rfl rfl (sa_cons (se_var 0) (sa_cons (se_bin add_sound (se_bin mulI_sound se_int (se_var 3)) se_int) sa_nil))) (se_var 3)))) sa_nil)))
      (sss_one (ss_expr (se_append (se_var 5) (sa_cons (se_tup (sa_cons (se_bin sub_sound (sc_call ⟨c.co, c.ro⟩ tk fx.i__law_take fx.g__law_take rfl rfl (sa_cons (se_var 0) (sa_cons (se_bin add_sound (se_bin mulI_sound se_int (se_var 4)) se_int) sa_nil))) (se_var 4)) (sa_cons (se_var 7) sa_nil))) sa_nil))))))
      (sss_one (ss_ret' (se_var 5)))))
theorem b__law_system (fx : Fx K mg fd) : BodyOk P w K mg base (ct K) (fns K fd) ⟨He.fAd K d__law_system.at_, fd 24, ["_law_source_here", "_law_most_equations", "_law_variables", "_law_factor", "_law_number"]⟩ ⟨5, 9, false, m__law_system⟩ :=
  ⟨_, "_law_system", _, _, _, _, _, N__law_system, fx.D__law_system, sc__law_system, rfl, rfl, by decide, fun call n co cdv A outer s H E hr => t__law_system fx call n cdv A outer s H E ⟨co, hr⟩⟩
abbrev N__law_made_system : List Str := ["_law_source_here", "_law_equations", "_law_factor", "_law_numbers", "_law_told", "_law_k", "_law_factors", "_law_number"]
theorem sc__law_made_system : FnScope N__law_made_system ["_law_source_here", "_law_equations", "_law_factor", "_law_numbers"] (defScope s__law_made_system) := ⟨by kernel_rfl, by kernel_rfl, by kernel_rfl, by decide +kernel, rfl, by decide +kernel, by decide +kernel⟩
theorem t__law_made_system (fx : Fx K mg fd) (call : CallT) (n : Nat) (cdv : Value) (A : Around) (outer : List Env) (s : Shared) (H : Hp) (E : XK) (c : Cq (cxOf (L2.CX P w) P w K mg base N__law_made_system "_law_made_system" (defScope s__law_made_system) (He.fAd K d__law_made_system.at_) cdv A outer s H E) (ct K) (fns K fd) call n) :
    SSs (cxOf (L2.CX P w) P w K mg base N__law_made_system "_law_made_system" (defScope s__law_made_system) (He.fAd K d__law_made_system.at_) cdv A outer s H E) (ct K) (fun c d _ H' => E c d H') (defBody s__law_made_system) (m__law_made_system call) := by
  have tk : Takes (cxOf (L2.CX P w) P w K mg base N__law_made_system "_law_made_system" (defScope s__law_made_system) (He.fAd K d__law_made_system.at_) cdv A outer s H E) (fun cls d _ H' => E cls d H') := takes_of rfl rfl rfl rfl
  have nd := sc__law_made_system.nd
  have po : PassesOwn (model P w) (cxOf (L2.CX P w) P w K mg base N__law_made_system "_law_made_system" (defScope s__law_made_system) (He.fAd K d__law_made_system.at_) cdv A outer s H E).A (cxOf (L2.CX P w) P w K mg base N__law_made_system "_law_made_system" (defScope s__law_made_system) (He.fAd K d__law_made_system.at_) cdv A outer s H E).env (cxOf (L2.CX P w) P w K mg base N__law_made_system "_law_made_system" (defScope s__law_made_system) (He.fAd K d__law_made_system.at_) cdv A outer s H E).xe := passes_of rfl
  exact (sss_cons (ss_set nd (i := 4) rfl (by first | exact .inl rfl | exact .inr rfl) (se_lst sa_nil))
      (sss_cons (ss_for po rfl (si_rng1 rfl fx.f_range (sa_cons (se_var 1) sa_nil)) (sg_name nd (i := 5) rfl (by first | exact .inl rfl | exact .inr rfl))
      (sss_cons (ss_set nd (i := 6) rfl (by first | exact .inl rfl | exact .inr rfl) (se_callTy tuple_sound rfl fx.f_tuple (by decide +kernel) (sa_cons (se_lc false rfl nd (si_seq (se_var 3)) (own := [("_law_number", 7)]) (blkOk_by (by first | decide +kernel | kernel_rfl)) rfl (fun _ _ _ _ _ => (sgc_name nd (i := 7) rfl (by first | exact .inl rfl | exact .inr rfl) (by decide))) (fun _ _ _ _ _ => spt_nil) (fun _ _ _ _ _ => (se_bin sub_sound (sc_call ⟨c.co, c.ro⟩ takesW fx.i__law_take fx.g__law_take rfl rfl (sa_cons (se_var 0) (sa_cons (se_bin add_sound (se_bin mulI_sound se_int (se_var 2)) se_int) sa_nil))) (se_var 2)))) sa_nil)))
      (sss_one (ss_expr (se_append (se_var 4) (sa_cons (se_tup (sa_cons (se_un neg_sound (sc_call ⟨c.co, c.ro⟩ tk fx.i__law_value fx.g__law_value rfl rfl (sa_cons (se_tup (sa_cons se_int (sa_cons (se_var 6) sa_nil))) (sa_cons (se_var 3) sa_nil)))) (sa_cons (se_var 6) sa_nil))) sa_nil))))))
      (sss_one (ss_ret' (se_var 4)))))
theorem b__law_made_system (fx : Fx K mg fd) : BodyOk P w K mg base (ct K) (fns K fd) ⟨He.fAd K d__law_made_system.at_, fd 25, ["_law_source_here", "_law_equations", "_law_factor", "_law_numbers"]⟩ ⟨4, 8, false, m__law_made_system⟩ :=
  ⟨_, "_law_made_system", _, _, _, _, _, N__law_made_system, fx.D__law_made_system, sc__law_made_system, rfl, rfl, by decide, fun call n co cdv A outer s H E hr => t__law_made_system fx call n cdv A outer s H E ⟨co, hr⟩⟩
abbrev N__law_either : List Str := ["_law_source_here", "_law_thing"]
theorem sc__law_either : FnScope N__law_either ["_law_source_here", "_law_thing"] (defScope s__law_either) := ⟨by kernel_rfl, by kernel_rfl, by kernel_rfl, by decide +kernel, rfl, by decide +kernel, by decide +kernel⟩
theorem t__law_either (fx : Fx K mg fd) (call : CallT) (n : Nat) (cdv : Value) (A : Around) (outer : List Env) (s : Shared) (H : Hp) (E : XK) (c : Cq (cxOf (L2.CX P w) P w K mg base N__law_either "_law_either" (defScope s__law_either) (He.fAd K d__law_either.at_) cdv A outer s H E) (ct K) (fns K fd) call n) :
    SSs (cxOf (L2.CX P w) P w K mg base N__law_either "_law_either" (defScope s__law_either) (He.fAd K d__law_either.at_) cdv A outer s H E) (ct K) (fun c d _ H' => E c d H') (defBody s__law_either) (m__law_either call) := by
  have tk : Takes (cxOf (L2.CX P w) P w K mg base N__law_either "_law_either" (defScope s__law_either) (He.fAd K d__law_either.at_) cdv A outer s H E) (fun cls d _ H' => E cls d H') := takes_of rfl rfl rfl rfl
  have nd := sc__law_either.nd
  have po : PassesOwn (model P w) (cxOf (L2.CX P w) P w K mg base N__law_either "_law_either" (defScope s__law_either) (He.fAd K d__law_either.at_) cdv A outer s H E).A (cxOf (L2.CX P w) P w K mg base N__law_either "_law_either" (defScope s__law_either) (He.fAd K d__law_either.at_) cdv A outer s H E).env (cxOf (L2.CX P w) P w K mg base N__law_either "_law_either" (defScope s__law_either) (He.fAd K d__law_either.at_) cdv A outer s H E).xe := passes_of rfl
  exact (sss_one (ss_ret' (se_if (st_cmp eqF_sound (sc_call ⟨c.co, c.ro⟩ tk fx.i__law_take fx.g__law_take rfl rfl (sa_cons (se_var 0) (sa_cons se_int sa_nil))) se_int) (se_callTy tuple_sound rfl fx.f_tuple (by decide +kernel) (sa_cons (se_var 1) sa_nil)) (se_callTy listV_sound rfl fx.f_list (by decide +kernel) (sa_cons (se_var 1) sa_nil)))))
theorem b__law_either (fx : Fx K mg fd) : BodyOk P w K mg base (ct K) (fns K fd) ⟨He.fAd K d__law_either.at_, fd 26, ["_law_source_here", "_law_thing"]⟩ ⟨2, 2, false, m__law_either⟩ :=
  ⟨_, "_law_either", _, _, _, _, _, N__law_either, fx.D__law_either, sc__law_either, rfl, rfl, by decide, fun call n co cdv A outer s H E hr => t__law_either fx call n cdv A outer s H E ⟨co, hr⟩⟩
abbrev N__law_handed : List Str := ["_law_source_here", "_law_system_here", "_law_form"]
theorem sc__law_handed : FnScope N__law_handed ["_law_source_here", "_law_system_here"] (defScope s__law_handed) := ⟨by kernel_rfl, by kernel_rfl, by kernel_rfl, by decide +kernel, rfl, by decide +kernel, by decide +kernel⟩
theorem t__law_handed (fx : Fx K mg fd) (call : CallT) (n : Nat) (cdv : Value) (A : Around) (outer : List Env) (s : Shared) (H : Hp) (E : XK) (c : Cq (cxOf (L2.CX P w) P w K mg base N__law_handed "_law_handed" (defScope s__law_handed) (He.fAd K d__law_handed.at_) cdv A outer s H E) (ct K) (fns K fd) call n) :
    SSs (cxOf (L2.CX P w) P w K mg base N__law_handed "_law_handed" (defScope s__law_handed) (He.fAd K d__law_handed.at_) cdv A outer s H E) (ct K) (fun c d _ H' => E c d H') (defBody s__law_handed) (m__law_handed call) := by
  have tk : Takes (cxOf (L2.CX P w) P w K mg base N__law_handed "_law_handed" (defScope s__law_handed) (He.fAd K d__law_handed.at_) cdv A outer s H E) (fun cls d _ H' => E cls d H') := takes_of rfl rfl rfl rfl
  have nd := sc__law_handed.nd
  have po : PassesOwn (model P w) (cxOf (L2.CX P w) P w K mg base N__law_handed "_law_handed" (defScope s__law_handed) (He.fAd K d__law_handed.at_) cdv A outer s H E).A (cxOf (L2.CX P w) P w K mg base N__law_handed "_law_handed" (defScope s__law_handed) (He.fAd K d__law_handed.at_) cdv A outer s H E).env (cxOf (L2.CX P w) P w K mg base N__law_handed "_law_handed" (defScope s__law_handed) (He.fAd K d__law_handed.at_) cdv A outer s H E).xe := passes_of rfl
  exact (sss_one (ss_ret' (sc_call ⟨c.co, c.ro⟩ tk fx.i__law_either fx.g__law_either rfl rfl (sa_cons (se_var 0) (sa_cons (se_lc false rfl nd (si_seq (se_var 1)) (own := [("_law_form", 2)]) (blkOk_by (by first | decide +kernel | kernel_rfl)) rfl (fun _ _ _ _ _ => (sgc_name nd (i := 2) rfl (by first | exact .inl rfl | exact .inr rfl) (by decide))) (fun _ _ _ _ _ => spt_nil) (fun _ _ _ _ _ => (sc_call ⟨c.co, c.ro⟩ takesW fx.i__law_either fx.g__law_either rfl rfl (sa_cons (se_var 0) (sa_cons (se_lv (sa_cons (se_ix ix_sound (se_var 2) se_int) (sa_cons (sc_call ⟨c.co, c.ro⟩ takesW fx.i__law_either fx.g__law_either rfl rfl (sa_cons (se_var 0) (sa_cons (se_ix ix_sound (se_var 2) se_int) sa_nil))) sa_nil))) sa_nil))))) sa_nil)))))
theorem b__law_handed (fx : Fx K mg fd) : BodyOk P w K mg base (ct K) (fns K fd) ⟨He.fAd K d__law_handed.at_, fd 27, ["_law_source_here", "_law_system_here"]⟩ ⟨2, 3, false, m__law_handed⟩ :=
  ⟨_, "_law_handed", _, _, _, _, _, N__law_handed, fx.D__law_handed, sc__law_handed, rfl, rfl, by decide, fun call n co cdv A outer s H E hr => t__law_handed fx call n cdv A outer s H E ⟨co, hr⟩⟩
abbrev N__law_is_whole : List Str := ["_law_thing"]
theorem sc__law_is_whole : FnScope N__law_is_whole ["_law_thing"] (defScope s__law_is_whole) := ⟨by kernel_rfl, by kernel_rfl, by kernel_rfl, by decide +kernel, rfl, by decide +kernel, by decide +kernel⟩
theorem t__law_is_whole (fx : Fx K mg fd) (call : CallT) (n : Nat) (cdv : Value) (A : Around) (outer : List Env) (s : Shared) (H : Hp) (E : XK) (c : Cq (cxOf (L2.CX P w) P w K mg base N__law_is_whole "_law_is_whole" (defScope s__law_is_whole) (He.fAd K d__law_is_whole.at_) cdv A outer s H E) (ct K) (fns K fd) call n) :
    SSs (cxOf (L2.CX P w) P w K mg base N__law_is_whole "_law_is_whole" (defScope s__law_is_whole) (He.fAd K d__law_is_whole.at_) cdv A outer s H E) (ct K) (fun c d _ H' => E c d H') (defBody s__law_is_whole) (m__law_is_whole call) := by
  have tk : Takes (cxOf (L2.CX P w) P w K mg base N__law_is_whole "_law_is_whole" (defScope s__law_is_whole) (He.fAd K d__law_is_whole.at_) cdv A outer s H E) (fun cls d _ H' => E cls d H') := takes_of rfl rfl rfl rfl
  have nd := sc__law_is_whole.nd
  have po : PassesOwn (model P w) (cxOf (L2.CX P w) P w K mg base N__law_is_whole "_law_is_whole" (defScope s__law_is_whole) (He.fAd K d__law_is_whole.at_) cdv A outer s H E).A (cxOf (L2.CX P w) P w K mg base N__law_is_whole "_law_is_whole" (defScope s__law_is_whole) (He.fAd K d__law_is_whole.at_) cdv A outer s H E).env (cxOf (L2.CX P w) P w K mg base N__law_is_whole "_law_is_whole" (defScope s__law_is_whole) (He.fAd K d__law_is_whole.at_) cdv A outer s H E).xe := passes_of rfl
  exact (sss_one (ss_ret' (se_and (se_isiB rfl fx.f_int (by decide +kernel) Mi.isi_int rfl fx.f_isinstance (se_var 0)) (se_one (se_not (se_isiB rfl fx.f_bool (by decide +kernel) Mi.isi_bool rfl fx.f_isinstance (se_var 0)))))))
theorem b__law_is_whole (fx : Fx K mg fd) : BodyOk P w K mg base (ct K) (fns K fd) ⟨He.fAd K d__law_is_whole.at_, fd 28, ["_law_thing"]⟩ ⟨1, 1, false, m__law_is_whole⟩ :=
  ⟨_, "_law_is_whole", _, _, _, _, _, N__law_is_whole, fx.D__law_is_whole, sc__law_is_whole, rfl, rfl, by decide, fun call n co cdv A outer s H E hr => t__law_is_whole fx call n cdv A outer s H E ⟨co, hr⟩⟩
abbrev N__law_wholes : List Str := ["_law_thing", "_law_many", "_law_one"]
theorem sc__law_wholes : FnScope N__law_wholes ["_law_thing", "_law_many"] (defScope s__law_wholes) := ⟨by kernel_rfl, by kernel_rfl, by kernel_rfl, by decide +kernel, rfl, by decide +kernel, by decide +kernel⟩
theorem t__law_wholes (fx : Fx K mg fd) (call : CallT) (n : Nat) (cdv : Value) (A : Around) (outer : List Env) (s : Shared) (H : Hp) (E : XK) (c : Cq (cxOf (L2.CX P w) P w K mg base N__law_wholes "_law_wholes" (defScope s__law_wholes) (He.fAd K d__law_wholes.at_) cdv A outer s H E) (ct K) (fns K fd) call n) :
    SSs (cxOf (L2.CX P w) P w K mg base N__law_wholes "_law_wholes" (defScope s__law_wholes) (He.fAd K d__law_wholes.at_) cdv A outer s H E) (ct K) (fun c d _ H' => E c d H') (defBody s__law_wholes) (m__law_wholes call) := by
  have tk : Takes (cxOf (L2.CX P w) P w K mg base N__law_wholes "_law_wholes" (defScope s__law_wholes) (He.fAd K d__law_wholes.at_) cdv A outer s H E) (fun cls d _ H' => E cls d H') := takes_of rfl rfl rfl rfl
  have nd := sc__law_wholes.nd
  have po : PassesOwn (model P w) (cxOf (L2.CX P w) P w K mg base N__law_wholes "_law_wholes" (defScope s__law_wholes) (He.fAd K d__law_wholes.at_) cdv A outer s H E).A (cxOf (L2.CX P w) P w K mg base N__law_wholes "_law_wholes" (defScope s__law_wholes) (He.fAd K d__law_wholes.at_) cdv A outer s H E).env (cxOf (L2.CX P w) P w K mg base N__law_wholes "_law_wholes" (defScope s__law_wholes) (He.fAd K d__law_wholes.at_) cdv A outer s H E).xe := passes_of rfl
  exact (sss_cons (ss_if (st_bool (sw_or (st_not (st_truth (se_isiB rfl fx.f_tuple (by decide +kernel) Mi.isi_tuple rfl fx.f_isinstance (se_var 0)))) (sw_or1 (st_cmp (ne_sound (unR c.ro)) (se_callB len_sound rfl fx.f_len (by decide +kernel) (sa_cons (se_var 0) sa_nil)) (se_var 1)))))
      (sss_one (ss_ret' se_bl))
      sss_nil)
      (sss_one (ss_ret' (se_cmp (eq_sound (unR c.ro)) (se_lc false rfl nd (si_seq (se_var 0)) (own := [("_law_one", 2)]) (blkOk_by (by first | decide +kernel | kernel_rfl)) rfl (fun _ _ _ _ _ => (sgc_name nd (i := 2) rfl (by first | exact .inl rfl | exact .inr rfl) (by decide))) (fun _ _ _ _ _ => (spt_one (st_not (st_truth (sc_call ⟨c.co, c.ro⟩ takesW fx.i__law_is_whole fx.g__law_is_whole rfl rfl (sa_cons (se_var 2) sa_nil)))))) (fun _ _ _ _ _ => se_int)) (se_lv sa_nil)))))
theorem b__law_wholes (fx : Fx K mg fd) : BodyOk P w K mg base (ct K) (fns K fd) ⟨He.fAd K d__law_wholes.at_, fd 29, ["_law_thing", "_law_many"]⟩ ⟨2, 3, false, m__law_wholes⟩ :=
  ⟨_, "_law_wholes", _, _, _, _, _, N__law_wholes, fx.D__law_wholes, sc__law_wholes, rfl, rfl, by decide, fun call n co cdv A outer s H E hr => t__law_wholes fx call n cdv A outer s H E ⟨co, hr⟩⟩
abbrev N__law_equal_system : List Str := ["_law_source_here", "_law_system_here", "_law_told", "_law_turn", "_law_at", "_law_number", "_law_factors", "_law_kind", "_law_new", "_law_many", "_law_other", "_law_gap", "_law_more", "_law_factor", "_law_x", "_law_y"]
theorem sc__law_equal_system : FnScope N__law_equal_system ["_law_source_here", "_law_system_here"] (defScope s__law_equal_system) := ⟨by kernel_rfl, by kernel_rfl, by kernel_rfl, by decide +kernel, rfl, by decide +kernel, by decide +kernel⟩
theorem t__law_equal_system (fx : Fx K mg fd) (call : CallT) (n : Nat) (cdv : Value) (A : Around) (outer : List Env) (s : Shared) (H : Hp) (E : XK) (c : Cq (cxOf (L2.CX P w) P w K mg base N__law_equal_system "_law_equal_system" (defScope s__law_equal_system) (He.fAd K d__law_equal_system.at_) cdv A outer s H E) (ct K) (fns K fd) call n) :
    SSs (cxOf (L2.CX P w) P w K mg base N__law_equal_system "_law_equal_system" (defScope s__law_equal_system) (He.fAd K d__law_equal_system.at_) cdv A outer s H E) (ct K) (fun c d _ H' => E c d H') (defBody s__law_equal_system) (m__law_equal_system call) := by
  have tk : Takes (cxOf (L2.CX P w) P w K mg base N__law_equal_system "_law_equal_system" (defScope s__law_equal_system) (He.fAd K d__law_equal_system.at_) cdv A outer s H E) (fun cls d _ H' => E cls d H') := takes_of rfl rfl rfl rfl
  have nd := sc__law_equal_system.nd
  have po : PassesOwn (model P w) (cxOf (L2.CX P w) P w K mg base N__law_equal_system "_law_equal_system" (defScope s__law_equal_system) (He.fAd K d__law_equal_system.at_) cdv A outer s H E).A (cxOf (L2.CX P w) P w K mg base N__law_equal_system "_law_equal_system" (defScope s__law_equal_system) (He.fAd K d__law_equal_system.at_) cdv A outer s H E).env (cxOf (L2.CX P w) P w K mg base N__law_equal_system "_law_equal_system" (defScope s__law_equal_system) (He.fAd K d__law_equal_system.at_) cdv A outer s H E).xe := passes_of rfl
  exact (sss_cons (ss_set nd (i := 2) rfl (by first | exact .inl rfl | exact .inr rfl) (se_callTy listM_sound rfl fx.f_list (by decide +kernel) (sa_cons (se_var 1) sa_nil)))
      (sss_cons (ss_forN po rfl (si_rng1 rfl fx.f_range (sa_cons (se_bin add_sound se_int (sc_call ⟨c.co, c.ro⟩ tk fx.i__law_take fx.g__law_take rfl rfl (sa_cons (se_var 0) (sa_cons se_int sa_nil)))) sa_nil)) (sg_name nd (i := 3) rfl (by first | exact .inl rfl | exact .inr rfl))
      (sss_cons (ss_set nd (i := 4) rfl (by first | exact .inl rfl | exact .inr rfl) (sc_call ⟨c.co, c.ro⟩ tk fx.i__law_take fx.g__law_take rfl rfl (sa_cons (se_var 0) (sa_cons (se_callB len_sound rfl fx.f_len (by decide +kernel) (sa_cons (se_var 2) sa_nil)) sa_nil))))
      (sss_cons (ss_asg (se_ix ix_sound (se_var 2) (se_var 4)) (sg_tup rfl (sgs_cons (sg_name nd (i := 5) rfl (by first | exact .inl rfl | exact .inr rfl)) (sgs_cons (sg_name nd (i := 6) rfl (by first | exact .inl rfl | exact .inr rfl)) sgs_nil))))
      (sss_cons (ss_set nd (i := 7) rfl (by first | exact .inl rfl | exact .inr rfl) (sc_call ⟨c.co, c.ro⟩ tk fx.i__law_take fx.g__law_take rfl rfl (sa_cons (se_var 0) (sa_cons se_int sa_nil))))
      (sss_cons (ss_set nd (i := 8) rfl (by first | exact .inl rfl | exact .inr rfl) (se_tup (sa_cons (se_var 5) (sa_cons (se_var 6) sa_nil))))
      (sss_cons (ss_if (st_cmp eqF_sound (se_var 7) se_int)
      (sss_cons (ss_set nd (i := 9) rfl (by first | exact .inl rfl | exact .inr rfl) (se_ix ix_sound (se_lv (sa_cons (se_un neg_sound se_int) (sa_cons se_int (sa_cons (se_un neg_sound se_int) (sa_cons se_int sa_nil))))) (sc_call ⟨c.co, c.ro⟩ tk fx.i__law_take fx.g__law_take rfl rfl (sa_cons (se_var 0) (sa_cons se_int sa_nil)))))
      (sss_one (ss_set nd (i := 8) rfl (by first | exact .inl rfl | exact .inr rfl) (se_tup (sa_cons (se_bin mulI_sound (se_var 5) (se_var 9)) (sa_cons (se_callTy tuple_sound rfl fx.f_tuple (by decide +kernel) (sa_cons (se_lc false rfl nd (si_seq (se_var 6)) (own := [("_law_factor", 13)]) (blkOk_by (by first | decide +kernel | kernel_rfl)) rfl (fun _ _ _ _ _ => (sgc_name nd (i := 13) rfl (by first | exact .inl rfl | exact .inr rfl) (by decide))) (fun _ _ _ _ _ => spt_nil) (fun _ _ _ _ _ => (se_bin mulI_sound (se_var 13) (se_var 9)))) sa_nil)) sa_nil))))))
      (sss_one (ss_if (st_bool (sw_and (st_cmp eqF_sound (se_var 7) se_int) (sw_and1 (st_cmp lt_sound (se_callB len_sound rfl fx.f_len (by decide +kernel) (sa_cons (se_var 2) sa_nil)) se_int))))
      (sss_one (ss_set nd (i := 2) rfl (by first | exact .inl rfl | exact .inr rfl) (se_bin addM_sound (se_var 2) (se_lv (sa_cons (se_ix ix_sound (se_var 2) (se_var 4)) sa_nil)))))
      (sss_one (ss_if (st_cmp eqF_sound (se_var 7) se_int)
      (sss_cons (ss_set nd (i := 2) rfl (by first | exact .inl rfl | exact .inr rfl) (se_bin addM_sound (se_slice (se_var 2) (so_some (se_var 4)) so_none) (se_slice (se_var 2) so_none (so_some (se_var 4)))))
      (sss_one (ss_set nd (i := 8) rfl (by first | exact .inl rfl | exact .inr rfl) (se_ix ix_sound (se_var 2) (se_var 4)))))
      (sss_cons (ss_set nd (i := 10) rfl (by first | exact .inl rfl | exact .inr rfl) (sc_call ⟨c.co, c.ro⟩ tk fx.i__law_take fx.g__law_take rfl rfl (sa_cons (se_var 0) (sa_cons (se_callB len_sound rfl fx.f_len (by decide +kernel) (sa_cons (se_var 2) sa_nil)) sa_nil))))
      (sss_one (ss_if (st_cmp (ne_sound (unR c.ro)) (se_var 10) (se_var 4))
      (sss_cons (ss_asg (se_ix ix_sound (se_var 2) (se_var 10)) (sg_tup rfl (sgs_cons (sg_name nd (i := 11) rfl (by first | exact .inl rfl | exact .inr rfl)) (sgs_cons (sg_name nd (i := 12) rfl (by first | exact .inl rfl | exact .inr rfl)) sgs_nil))))
      (sss_one (ss_set nd (i := 8) rfl (by first | exact .inl rfl | exact .inr rfl) (se_tup (sa_cons (se_bin add_sound (se_var 5) (se_var 11)) (sa_cons (se_callTy tuple_sound rfl fx.f_tuple (by decide +kernel) (sa_cons (se_lc false rfl nd (si_zipB rfl fx.f_zip (sa_cons (se_var 6) (sa_cons (se_var 12) sa_nil))) (own := [("_law_x", 14), ("_law_y", 15)]) (blkOk_by (by first | decide +kernel | kernel_rfl)) rfl (fun _ _ _ _ _ => (sgc_tup rfl (sgsc_cons (sgc_name nd (i := 14) rfl (by first | exact .inl rfl | exact .inr rfl) (by decide)) (sgsc_cons (sgc_name nd (i := 15) rfl (by first | exact .inl rfl | exact .inr rfl) (by decide)) sgsc_nil)))) (fun _ _ _ _ _ => spt_nil) (fun _ _ _ _ _ => (se_bin add_sound (se_var 14) (se_var 15)))) sa_nil)) sa_nil))))))
      sss_nil))))))))
      (sss_one (ss_if (st_cmp le_sound (se_callB (sum_sound rfl) rfl fx.f_sum (by decide +kernel) (sa_cons (se_lc false rfl nd (si_seq (se_ix ix_sound (se_var 8) se_int)) (own := [("_law_factor", 13)]) (blkOk_by (by first | decide +kernel | kernel_rfl)) rfl (fun _ _ _ _ _ => (sgc_name nd (i := 13) rfl (by first | exact .inl rfl | exact .inr rfl) (by decide))) (fun _ _ _ _ _ => spt_nil) (fun _ _ _ _ _ => (se_callB abs_sound rfl fx.f_abs (by decide +kernel) (sa_cons (se_var 13) sa_nil)))) sa_nil)) se_int)
      (sss_one (ss_asg (se_var 8) (sg_store (se_var 2) (se_var 4))))
      sss_nil))))))))
      (sss_one (ss_ret' (se_var 2)))))
theorem b__law_equal_system (fx : Fx K mg fd) : BodyOk P w K mg base (ct K) (fns K fd) ⟨He.fAd K d__law_equal_system.at_, fd 30, ["_law_source_here", "_law_system_here"]⟩ ⟨2, 16, false, m__law_equal_system⟩ :=
  ⟨_, "_law_equal_system", _, _, _, _, _, N__law_equal_system, fx.D__law_equal_system, sc__law_equal_system, rfl, rfl, by decide, fun call n co cdv A outer s H E hr => t__law_equal_system fx call n cdv A outer s H E ⟨co, hr⟩⟩
abbrev N__law_small_round : List Str := ["_law_source_here", "_law_variables", "_law_numbers", "_law_system_here", "_law_first", "_law_turn", "_law_other", "_law_told", "_law_i", "_law_form"]
theorem sc__law_small_round : FnScope N__law_small_round ["_law_source_here"] (defScope s__law_small_round) := ⟨by kernel_rfl, by kernel_rfl, by kernel_rfl, by decide +kernel, rfl, by decide +kernel, by decide +kernel⟩
theorem t__law_small_round (fx : Fx K mg fd) (call : CallT) (n : Nat) (cdv : Value) (A : Around) (outer : List Env) (s : Shared) (H : Hp) (E : XK) (c : Cq (cxOf (L2.CX P w) P w K mg base N__law_small_round "_law_small_round" (defScope s__law_small_round) (He.fAd K d__law_small_round.at_) cdv A outer s H E) (ct K) (fns K fd) call n) :
    SSs (cxOf (L2.CX P w) P w K mg base N__law_small_round "_law_small_round" (defScope s__law_small_round) (He.fAd K d__law_small_round.at_) cdv A outer s H E) (ct K) (fun c d _ H' => E c d H') (defBody s__law_small_round) (m__law_small_round call) := by
  have tk : Takes (cxOf (L2.CX P w) P w K mg base N__law_small_round "_law_small_round" (defScope s__law_small_round) (He.fAd K d__law_small_round.at_) cdv A outer s H E) (fun cls d _ H' => E cls d H') := takes_of rfl rfl rfl rfl
  have nd := sc__law_small_round.nd
  have po : PassesOwn (model P w) (cxOf (L2.CX P w) P w K mg base N__law_small_round "_law_small_round" (defScope s__law_small_round) (He.fAd K d__law_small_round.at_) cdv A outer s H E).A (cxOf (L2.CX P w) P w K mg base N__law_small_round "_law_small_round" (defScope s__law_small_round) (He.fAd K d__law_small_round.at_) cdv A outer s H E).env (cxOf (L2.CX P w) P w K mg base N__law_small_round "_law_small_round" (defScope s__law_small_round) (He.fAd K d__law_small_round.at_) cdv A outer s H E).xe := passes_of rfl
  exact (sss_cons (ss_set nd (i := 1) rfl (by first | exact .inl rfl | exact .inr rfl) (se_bin add_sound se_int (sc_call ⟨c.co, c.ro⟩ tk fx.i__law_take fx.g__law_take rfl rfl (sa_cons (se_var 0) (sa_cons se_int sa_nil)))))
      (sss_cons (ss_if (st_cmp eqF_sound (sc_call ⟨c.co, c.ro⟩ tk fx.i__law_take fx.g__law_take rfl rfl (sa_cons (se_var 0) (sa_cons se_int sa_nil))) se_int)
      (sss_cons (ss_setLc false rfl nd (i := 2) rfl rfl (sw_true rfl rfl rfl (by decide +kernel)) (si_rng1 rfl fx.f_range (sa_cons (se_var 1) sa_nil)) (own := [("_law_i", 8)]) (blkOk_by (by first | decide +kernel | kernel_rfl)) rfl (fun _ _ _ _ _ => (sgc_name nd (i := 8) rfl (by first | exact .inl rfl | exact .inr rfl) (by decide))) (fun _ _ _ _ _ => spt_nil) (fun _ _ _ _ _ => (sc_call ⟨c.co, c.ro⟩ takesW fx.i__law_take fx.g__law_take rfl rfl (sa_cons (se_var 0) (sa_cons se_int sa_nil)))))
      (sss_one (ss_set nd (i := 3) rfl (by first | exact .inl rfl | exact .inr rfl) (sc_call ⟨c.co, c.ro⟩ tk fx.i__law_made_system fx.g__law_made_system rfl rfl (sa_cons (se_var 0) (sa_cons (se_bin add_sound se_int (sc_call ⟨c.co, c.ro⟩ tk fx.i__law_take fx.g__law_take rfl rfl (sa_cons (se_var 0) (sa_cons se_int sa_nil)))) (sa_cons se_int (sa_cons (se_var 2) sa_nil))))))))
      (sss_one (ss_set nd (i := 3) rfl (by first | exact .inl rfl | exact .inr rfl) (sc_call ⟨c.co, c.ro⟩ tk fx.i__law_system fx.g__law_system rfl rfl (sa_cons (se_var 0) (sa_cons se_int (sa_cons (se_var 1) (sa_cons se_int (sa_cons se_int sa_nil)))))))))
      (sss_cons (ss_set nd (i := 4) rfl (by first | exact .inl rfl | exact .inr rfl) (sc_call ⟨c.co, c.ro⟩ tk fx.i_whole fx.g_whole rfl rfl (sa_cons (sc_call ⟨c.co, c.ro⟩ tk fx.i__law_handed fx.g__law_handed rfl rfl (sa_cons (se_var 0) (sa_cons (se_var 3) sa_nil))) sa_nil)))
      (sss_cons (ss_for po rfl (si_rng1 rfl fx.f_range (sa_cons se_int sa_nil)) (sg_name nd (i := 5) rfl (by first | exact .inl rfl | exact .inr rfl))
      (sss_cons (ss_set nd (i := 6) rfl (by first | exact .inl rfl | exact .inr rfl) (sc_call ⟨c.co, c.ro⟩ tk fx.i__law_equal_system fx.g__law_equal_system rfl rfl (sa_cons (se_var 0) (sa_cons (se_var 3) sa_nil))))
      (sss_cons (ss_set nd (i := 7) rfl (by first | exact .inl rfl | exact .inr rfl) (sc_call ⟨c.co, c.ro⟩ tk fx.i_whole fx.g_whole rfl rfl (sa_cons (sc_call ⟨c.co, c.ro⟩ tk fx.i__law_handed fx.g__law_handed rfl rfl (sa_cons (se_var 0) (sa_cons (se_var 6) sa_nil))) sa_nil)))
      (sss_one (ss_if (st_truth (se_isiC rfl fx.g_Answer (isiOk fx (C := 2) (by decide)) rfl fx.f_isinstance (se_var 4)))
      (sss_cons (ss_if (st_bool (sw_or (st_not (st_truth (se_isiC rfl fx.g_Answer (isiOk fx (C := 2) (by decide)) rfl fx.f_isinstance (se_var 7)))) (sw_or (st_not (st_cmp (eqoE_sound c.co (eqt fx) c.ro) (se_var 7) (se_var 4))) (sw_or1 (st_cmp (ne_sound (unR c.ro)) (se_fld (ok := ok_numbers) (k := 0) (se_var 7) rfl (hok_numbers fx)) (se_fld (ok := ok_numbers) (k := 0) (se_var 4) rfl (hok_numbers fx)))))))
      (sss_one (ss_ret' se_bl))
      sss_nil)
      (sss_one (ss_if (st_cmp (ne_sound (unR c.ro)) (se_lc false rfl nd (si_seq (se_var 6)) (own := [("_law_form", 9)]) (blkOk_by (by first | decide +kernel | kernel_rfl)) rfl (fun _ _ _ _ _ => (sgc_name nd (i := 9) rfl (by first | exact .inl rfl | exact .inr rfl) (by decide))) (fun _ _ _ _ _ => (spt_one (st_cmp neF_sound (sc_call ⟨c.co, c.ro⟩ takesW fx.i__law_value fx.g__law_value rfl rfl (sa_cons (se_var 9) (sa_cons (se_fld (ok := ok_numbers) (k := 0) (se_var 7) rfl (hok_numbers fx)) sa_nil))) se_int))) (fun _ _ _ _ _ => se_int)) (se_lv sa_nil))
      (sss_one (ss_ret' se_bl))
      sss_nil)))
      (sss_one (ss_if (st_bool (sw_or (st_not (st_truth (se_isiC rfl fx.g_Carries (isiOk fx (C := 3) (by decide)) rfl fx.f_isinstance (se_var 4)))) (sw_or (st_not (st_truth (se_isiC rfl fx.g_Carries (isiOk fx (C := 3) (by decide)) rfl fx.f_isinstance (se_var 7)))) (sw_or1 (st_cmp notN_sound (sc_call ⟨c.co, c.ro⟩ tk fx.i_judge_carries fx.g_judge_carries rfl rfl (sa_cons (se_var 6) (sa_cons (se_var 7) sa_nil))) se_non)))))
      (sss_one (ss_ret' se_bl))
      sss_nil)))))))
      (sss_one (ss_ret' se_bl))))))
theorem b__law_small_round (fx : Fx K mg fd) : BodyOk P w K mg base (ct K) (fns K fd) ⟨He.fAd K d__law_small_round.at_, fd 31, ["_law_source_here"]⟩ ⟨1, 10, false, m__law_small_round⟩ :=
  ⟨_, "_law_small_round", _, _, _, _, _, N__law_small_round, fx.D__law_small_round, sc__law_small_round, rfl, rfl, by decide, fun call n co cdv A outer s H E hr => t__law_small_round fx call n cdv A outer s H E ⟨co, hr⟩⟩
abbrev N__law_great_round : List Str := ["_law_source_here", "_law_size", "_law_numbers", "_law_system_here", "_law_told", "_law_i", "_law_number"]
theorem sc__law_great_round : FnScope N__law_great_round ["_law_source_here"] (defScope s__law_great_round) := ⟨by kernel_rfl, by kernel_rfl, by kernel_rfl, by decide +kernel, rfl, by decide +kernel, by decide +kernel⟩
theorem t__law_great_round (fx : Fx K mg fd) (call : CallT) (n : Nat) (cdv : Value) (A : Around) (outer : List Env) (s : Shared) (H : Hp) (E : XK) (c : Cq (cxOf (L2.CX P w) P w K mg base N__law_great_round "_law_great_round" (defScope s__law_great_round) (He.fAd K d__law_great_round.at_) cdv A outer s H E) (ct K) (fns K fd) call n) :
    SSs (cxOf (L2.CX P w) P w K mg base N__law_great_round "_law_great_round" (defScope s__law_great_round) (He.fAd K d__law_great_round.at_) cdv A outer s H E) (ct K) (fun c d _ H' => E c d H') (defBody s__law_great_round) (m__law_great_round call) := by
  have tk : Takes (cxOf (L2.CX P w) P w K mg base N__law_great_round "_law_great_round" (defScope s__law_great_round) (He.fAd K d__law_great_round.at_) cdv A outer s H E) (fun cls d _ H' => E cls d H') := takes_of rfl rfl rfl rfl
  have nd := sc__law_great_round.nd
  have po : PassesOwn (model P w) (cxOf (L2.CX P w) P w K mg base N__law_great_round "_law_great_round" (defScope s__law_great_round) (He.fAd K d__law_great_round.at_) cdv A outer s H E).A (cxOf (L2.CX P w) P w K mg base N__law_great_round "_law_great_round" (defScope s__law_great_round) (He.fAd K d__law_great_round.at_) cdv A outer s H E).env (cxOf (L2.CX P w) P w K mg base N__law_great_round "_law_great_round" (defScope s__law_great_round) (He.fAd K d__law_great_round.at_) cdv A outer s H E).xe := passes_of rfl
  exact (sss_cons (ss_set nd (i := 1) rfl (by first | exact .inl rfl | exact .inr rfl) (se_ix ix_sound (se_lv (sa_cons (se_bin pow_sound se_int se_int) (sa_cons (se_bin pow_sound se_int se_int) (sa_cons (se_bin pow_sound se_int se_int) sa_nil)))) (sc_call ⟨c.co, c.ro⟩ tk fx.i__law_take fx.g__law_take rfl rfl (sa_cons (se_var 0) (sa_cons se_int sa_nil)))))
      (sss_cons (ss_setLc false rfl nd (i := 2) rfl rfl (sw_true rfl rfl rfl (by decide +kernel)) (si_rng1 rfl fx.f_range (sa_cons (se_bin add_sound se_int (sc_call ⟨c.co, c.ro⟩ tk fx.i__law_take fx.g__law_take rfl rfl (sa_cons (se_var 0) (sa_cons se_int sa_nil)))) sa_nil)) (own := [("_law_i", 5)]) (blkOk_by (by first | decide +kernel | kernel_rfl)) rfl (fun _ _ _ _ _ => (sgc_name nd (i := 5) rfl (by first | exact .inl rfl | exact .inr rfl) (by decide))) (fun _ _ _ _ _ => spt_nil) (fun _ _ _ _ _ => (sc_call ⟨c.co, c.ro⟩ takesW fx.i__law_take fx.g__law_take rfl rfl (sa_cons (se_var 0) (sa_cons (se_var 1) sa_nil)))))
      (sss_cons (ss_set nd (i := 3) rfl (by first | exact .inl rfl | exact .inr rfl) (sc_call ⟨c.co, c.ro⟩ tk fx.i__law_made_system fx.g__law_made_system rfl rfl (sa_cons (se_var 0) (sa_cons se_int (sa_cons se_int (sa_cons (se_var 2) sa_nil))))))
      (sss_cons (ss_set nd (i := 4) rfl (by first | exact .inl rfl | exact .inr rfl) (sc_call ⟨c.co, c.ro⟩ tk fx.i_whole fx.g_whole rfl rfl (sa_cons (sc_call ⟨c.co, c.ro⟩ tk fx.i__law_handed fx.g__law_handed rfl rfl (sa_cons (se_var 0) (sa_cons (se_var 3) sa_nil))) sa_nil)))
      (sss_cons (ss_if (st_bool (sw_or (st_not (st_truth (se_isiC rfl fx.g_Answer (isiOk fx (C := 2) (by decide)) rfl fx.f_isinstance (se_var 4)))) (sw_or1 (st_not (st_truth (sc_call ⟨c.co, c.ro⟩ tk fx.i__law_wholes fx.g__law_wholes rfl rfl (sa_cons (se_fld (ok := ok_numbers) (k := 0) (se_var 4) rfl (hok_numbers fx)) (sa_cons (se_callB len_sound rfl fx.f_len (by decide +kernel) (sa_cons (se_var 2) sa_nil)) sa_nil))))))))
      (sss_one (ss_ret' se_bl))
      sss_nil)
      (sss_cons (ss_if (st_bool (sw_or (st_cmp (ne_sound (unR c.ro)) (se_lc false rfl nd (si_seq (se_fld (ok := ok_numbers) (k := 0) (se_var 4) rfl (hok_numbers fx))) (own := [("_law_number", 6)]) (blkOk_by (by first | decide +kernel | kernel_rfl)) rfl (fun _ _ _ _ _ => (sgc_name nd (i := 6) rfl (by first | exact .inl rfl | exact .inr rfl) (by decide))) (fun _ _ _ _ _ => (spt_one (st_cmp lt_sound (se_var 6) se_int))) (fun _ _ _ _ _ => se_int)) (se_lv sa_nil)) (sw_or1 (st_cmp neF_sound (sc_call ⟨c.co, c.ro⟩ tk fx.i__law_value fx.g__law_value rfl rfl (sa_cons (se_ix ix_sound (se_var 3) se_int) (sa_cons (se_fld (ok := ok_numbers) (k := 0) (se_var 4) rfl (hok_numbers fx)) sa_nil))) se_int))))
      (sss_one (ss_ret' se_bl))
      sss_nil)
      (sss_one (ss_ret' (se_cmp le_sound (se_callB (maxL_sound rfl) rfl fx.f_max (by decide +kernel) (sa_cons (se_lc false rfl nd (si_seq (se_fld (ok := ok_numbers) (k := 0) (se_var 4) rfl (hok_numbers fx))) (own := [("_law_number", 6)]) (blkOk_by (by first | decide +kernel | kernel_rfl)) rfl (fun _ _ _ _ _ => (sgc_name nd (i := 6) rfl (by first | exact .inl rfl | exact .inr rfl) (by decide))) (fun _ _ _ _ _ => spt_nil) (fun _ _ _ _ _ => (se_callB len_sound rfl fx.f_len (by decide +kernel) (sa_cons (sc_call ⟨c.co, c.ro⟩ takesW fx.i__law_figures fx.g__law_figures rfl rfl (sa_cons (se_var 6) sa_nil)) sa_nil)))) sa_nil)) (se_callB (maxL_sound rfl) rfl fx.f_max (by decide +kernel) (sa_cons (se_lc false rfl nd (si_seq (se_var 2)) (own := [("_law_number", 6)]) (blkOk_by (by first | decide +kernel | kernel_rfl)) rfl (fun _ _ _ _ _ => (sgc_name nd (i := 6) rfl (by first | exact .inl rfl | exact .inr rfl) (by decide))) (fun _ _ _ _ _ => spt_nil) (fun _ _ _ _ _ => (se_callB len_sound rfl fx.f_len (by decide +kernel) (sa_cons (sc_call ⟨c.co, c.ro⟩ takesW fx.i__law_figures fx.g__law_figures rfl rfl (sa_cons (se_var 6) sa_nil)) sa_nil)))) sa_nil)))))))))))
theorem b__law_great_round (fx : Fx K mg fd) : BodyOk P w K mg base (ct K) (fns K fd) ⟨He.fAd K d__law_great_round.at_, fd 32, ["_law_source_here"]⟩ ⟨1, 7, false, m__law_great_round⟩ :=
  ⟨_, "_law_great_round", _, _, _, _, _, N__law_great_round, fx.D__law_great_round, sc__law_great_round, rfl, rfl, by decide, fun call n co cdv A outer s H E hr => t__law_great_round fx call n cdv A outer s H E ⟨co, hr⟩⟩
abbrev N__law_shut_round : List Str := ["_law_source_here", "_law_size", "_law_many", "_law_divisor", "_law_factors", "_law_number", "_law_system_here", "_law_told", "_law_bound", "_law_seen", "_law_row", "_law_figures_here", "_law_more", "_law_i", "_law_factor"]
theorem sc__law_shut_round : FnScope N__law_shut_round ["_law_source_here"] (defScope s__law_shut_round) := ⟨by kernel_rfl, by kernel_rfl, by kernel_rfl, by decide +kernel, rfl, by decide +kernel, by decide +kernel⟩
theorem t__law_shut_round (fx : Fx K mg fd) (call : CallT) (n : Nat) (cdv : Value) (A : Around) (outer : List Env) (s : Shared) (H : Hp) (E : XK) (c : Cq (cxOf (L2.CX P w) P w K mg base N__law_shut_round "_law_shut_round" (defScope s__law_shut_round) (He.fAd K d__law_shut_round.at_) cdv A outer s H E) (ct K) (fns K fd) call n) :
    SSs (cxOf (L2.CX P w) P w K mg base N__law_shut_round "_law_shut_round" (defScope s__law_shut_round) (He.fAd K d__law_shut_round.at_) cdv A outer s H E) (ct K) (fun c d _ H' => E c d H') (defBody s__law_shut_round) (m__law_shut_round call) := by
  have tk : Takes (cxOf (L2.CX P w) P w K mg base N__law_shut_round "_law_shut_round" (defScope s__law_shut_round) (He.fAd K d__law_shut_round.at_) cdv A outer s H E) (fun cls d _ H' => E cls d H') := takes_of rfl rfl rfl rfl
  have nd := sc__law_shut_round.nd
  have po : PassesOwn (model P w) (cxOf (L2.CX P w) P w K mg base N__law_shut_round "_law_shut_round" (defScope s__law_shut_round) (He.fAd K d__law_shut_round.at_) cdv A outer s H E).A (cxOf (L2.CX P w) P w K mg base N__law_shut_round "_law_shut_round" (defScope s__law_shut_round) (He.fAd K d__law_shut_round.at_) cdv A outer s H E).env (cxOf (L2.CX P w) P w K mg base N__law_shut_round "_law_shut_round" (defScope s__law_shut_round) (He.fAd K d__law_shut_round.at_) cdv A outer s H E).xe := passes_of rfl
  exact (sss_cons (ss_set nd (i := 1) rfl (by first | exact .inl rfl | exact .inr rfl) (se_ix ix_sound (se_lv (sa_cons se_int (sa_cons (se_bin pow_sound se_int se_int) (sa_cons (se_bin pow_sound se_int se_int) (sa_cons (se_bin pow_sound se_int se_int) sa_nil))))) (sc_call ⟨c.co, c.ro⟩ tk fx.i__law_take fx.g__law_take rfl rfl (sa_cons (se_var 0) (sa_cons se_int sa_nil)))))
      (sss_cons (ss_set nd (i := 2) rfl (by first | exact .inl rfl | exact .inr rfl) (se_if (st_cmp gt_sound (se_var 1) (se_bin pow_sound se_int se_int)) se_int (se_bin add_sound se_int (sc_call ⟨c.co, c.ro⟩ tk fx.i__law_take fx.g__law_take rfl rfl (sa_cons (se_var 0) (sa_cons se_int sa_nil))))))
      (sss_cons (ss_if (st_cmp eqF_sound (sc_call ⟨c.co, c.ro⟩ tk fx.i__law_take fx.g__law_take rfl rfl (sa_cons (se_var 0) (sa_cons se_int sa_nil))) se_int)
      (sss_cons (ss_set nd (i := 3) rfl (by first | exact .inl rfl | exact .inr rfl) (se_bin add_sound se_int (sc_call ⟨c.co, c.ro⟩ tk fx.i__law_take fx.g__law_take rfl rfl (sa_cons (se_var 0) (sa_cons se_int sa_nil)))))
      (sss_cons (ss_set nd (i := 4) rfl (by first | exact .inl rfl | exact .inr rfl) (se_callTy tuple_sound rfl fx.f_tuple (by decide +kernel) (sa_cons (se_lc false rfl nd (si_rng1 rfl fx.f_range (sa_cons (se_var 2) sa_nil)) (own := [("_law_i", 13)]) (blkOk_by (by first | decide +kernel | kernel_rfl)) rfl (fun _ _ _ _ _ => (sgc_name nd (i := 13) rfl (by first | exact .inl rfl | exact .inr rfl) (by decide))) (fun _ _ _ _ _ => spt_nil) (fun _ _ _ _ _ => (se_bin mulI_sound (se_var 3) (se_bin sub_sound (sc_call ⟨c.co, c.ro⟩ takesW fx.i__law_take fx.g__law_take rfl rfl (sa_cons (se_var 0) (sa_cons se_int sa_nil))) se_int)))) sa_nil)))
      (sss_one (ss_set nd (i := 5) rfl (by first | exact .inl rfl | exact .inr rfl) (se_bin add_sound (se_bin add_sound (se_bin mulI_sound (se_var 3) (se_bin sub_sound (sc_call ⟨c.co, c.ro⟩ tk fx.i__law_take fx.g__law_take rfl rfl (sa_cons (se_var 0) (sa_cons (se_bin add_sound (se_bin mulI_sound se_int (se_var 1)) se_int) sa_nil))) (se_var 1))) se_int) (sc_call ⟨c.co, c.ro⟩ tk fx.i__law_take fx.g__law_take rfl rfl (sa_cons (se_var 0) (sa_cons (se_bin sub_sound (se_var 3) se_int) sa_nil))))))))
      (sss_cons (ss_set nd (i := 4) rfl (by first | exact .inl rfl | exact .inr rfl) (se_callTy tuple_sound rfl fx.f_tuple (by decide +kernel) (sa_cons (se_lc false rfl nd (si_rng1 rfl fx.f_range (sa_cons (se_var 2) sa_nil)) (own := [("_law_i", 13)]) (blkOk_by (by first | decide +kernel | kernel_rfl)) rfl (fun _ _ _ _ _ => (sgc_name nd (i := 13) rfl (by first | exact .inl rfl | exact .inr rfl) (by decide))) (fun _ _ _ _ _ => spt_nil) (fun _ _ _ _ _ => (sc_call ⟨c.co, c.ro⟩ takesW fx.i__law_take fx.g__law_take rfl rfl (sa_cons (se_var 0) (sa_cons se_int sa_nil))))) sa_nil)))
      (sss_cons (ss_set nd (i := 5) rfl (by first | exact .inl rfl | exact .inr rfl) (se_bin add_sound se_int (sc_call ⟨c.co, c.ro⟩ tk fx.i__law_take fx.g__law_take rfl rfl (sa_cons (se_var 0) (sa_cons (se_var 1) sa_nil)))))
      (sss_one (ss_if (st_cmp eqF_sound (sc_call ⟨c.co, c.ro⟩ tk fx.i__law_take fx.g__law_take rfl rfl (sa_cons (se_var 0) (sa_cons se_int sa_nil))) se_int)
      (sss_cons (ss_set nd (i := 4) rfl (by first | exact .inl rfl | exact .inr rfl) (se_callTy tuple_sound rfl fx.f_tuple (by decide +kernel) (sa_cons (se_lc false rfl nd (si_seq (se_var 4)) (own := [("_law_factor", 14)]) (blkOk_by (by first | decide +kernel | kernel_rfl)) rfl (fun _ _ _ _ _ => (sgc_name nd (i := 14) rfl (by first | exact .inl rfl | exact .inr rfl) (by decide))) (fun _ _ _ _ _ => spt_nil) (fun _ _ _ _ _ => (se_un neg_sound (se_var 14)))) sa_nil)))
      (sss_one (ss_set nd (i := 5) rfl (by first | exact .inl rfl | exact .inr rfl) (se_un neg_sound (se_var 5)))))
      sss_nil)))))
      (sss_cons (ss_set nd (i := 6) rfl (by first | exact .inl rfl | exact .inr rfl) (se_lv (sa_cons (se_tup (sa_cons (se_var 5) (sa_cons (se_var 4) sa_nil))) sa_nil)))
      (sss_cons (ss_set nd (i := 7) rfl (by first | exact .inl rfl | exact .inr rfl) (sc_call ⟨c.co, c.ro⟩ tk fx.i_whole fx.g_whole rfl rfl (sa_cons (sc_call ⟨c.co, c.ro⟩ tk fx.i__law_handed fx.g__law_handed rfl rfl (sa_cons (se_var 0) (sa_cons (se_var 6) sa_nil))) sa_nil)))
      (sss_cons (ss_if (st_bool (sw_or (st_not (st_truth (se_isiC rfl fx.g_Carries (isiOk fx (C := 3) (by decide)) rfl fx.f_isinstance (se_var 7)))) (sw_or (st_cmp (notInU_sound c.ro) (se_tup (sa_cons (se_var 5) sa_nil)) (se_fld (ok := ok_rows) (k := 1) (se_var 7) rfl (hok_rows fx))) (sw_or1 (st_cmp (inU_sound c.ro) (se_tup (sa_cons se_int sa_nil)) (se_fld (ok := ok_rows) (k := 1) (se_var 7) rfl (hok_rows fx)))))))
      (sss_one (ss_ret' se_bl))
      sss_nil)
      (sss_cons (ss_set nd (i := 8) rfl (by first | exact .inl rfl | exact .inr rfl) (se_bin add_sound (se_callB abs_sound rfl fx.f_abs (by decide +kernel) (sa_cons (se_var 5) sa_nil)) (se_callB (sum_sound rfl) rfl fx.f_sum (by decide +kernel) (sa_cons (se_lc false rfl nd (si_seq (se_var 4)) (own := [("_law_factor", 14)]) (blkOk_by (by first | decide +kernel | kernel_rfl)) rfl (fun _ _ _ _ _ => (sgc_name nd (i := 14) rfl (by first | exact .inl rfl | exact .inr rfl) (by decide))) (fun _ _ _ _ _ => spt_nil) (fun _ _ _ _ _ => (se_callB abs_sound rfl fx.f_abs (by decide +kernel) (sa_cons (se_var 14) sa_nil)))) sa_nil))))
      (sss_cons (ss_set nd (i := 9) rfl (by first | exact .inl rfl | exact .inr rfl) se_dt0)
      (sss_cons (ss_for po rfl (si_seq (se_fld (ok := ok_rows) (k := 1) (se_var 7) rfl (hok_rows fx))) (sg_name nd (i := 10) rfl (by first | exact .inl rfl | exact .inr rfl))
      (sss_cons (ss_dput (unR5 c.ro) (se_var 9) (se_var 10) se_bl)
      (sss_one (ss_if (st_cmp gt_sound (se_callB abs_sound rfl fx.f_abs (by decide +kernel) (sa_cons (se_ix ix_sound (se_var 10) se_int) sa_nil)) (se_var 8))
      (sss_one (ss_ret' se_bl))
      sss_nil))))
      (sss_cons (ss_for po rfl (si_seq (se_slice (se_fld (ok := ok_rows) (k := 1) (se_var 7) rfl (hok_rows fx)) so_none (so_some se_int))) (sg_name nd (i := 10) rfl (by first | exact .inl rfl | exact .inr rfl))
      (sss_one (ss_for po rfl (si_seq (sc_call ⟨c.co, c.ro⟩ tk fx.i__law_turns fx.g__law_turns rfl rfl (sa_cons (se_var 6) (sa_cons (se_var 10) sa_nil)))) (sg_tup rfl (sgs_cons (sg_name nd (i := 11) rfl (by first | exact .inl rfl | exact .inr rfl)) (sgs_cons (sg_name nd (i := 12) rfl (by first | exact .inl rfl | exact .inr rfl)) sgs_nil)))
      (sss_one (ss_if (st_cmp (dnotin_sound (unR5 c.ro)) (se_var 12) (se_var 9))
      (sss_one (ss_ret' se_bl))
      sss_nil)))))
      (sss_one (ss_ret' (se_cmp isN_sound (sc_call ⟨c.co, c.ro⟩ tk fx.i_judge_carries fx.g_judge_carries rfl rfl (sa_cons (se_var 6) (sa_cons (se_var 7) sa_nil))) se_non)))))))))))))
theorem b__law_shut_round (fx : Fx K mg fd) : BodyOk P w K mg base (ct K) (fns K fd) ⟨He.fAd K d__law_shut_round.at_, fd 33, ["_law_source_here"]⟩ ⟨1, 15, false, m__law_shut_round⟩ :=
  ⟨_, "_law_shut_round", _, _, _, _, _, N__law_shut_round, fx.D__law_shut_round, sc__law_shut_round, rfl, rfl, by decide, fun call n co cdv A outer s H E hr => t__law_shut_round fx call n cdv A outer s H E ⟨co, hr⟩⟩
abbrev N_law : List Str := ["_law_script", "_law_source_here", "_law_turn"]
theorem sc_law : FnScope N_law ["_law_script"] (defScope s_law) := ⟨by kernel_rfl, by kernel_rfl, by kernel_rfl, by decide +kernel, rfl, by decide +kernel, by decide +kernel⟩
theorem t_law (fx : Fx K mg fd) (call : CallT) (n : Nat) (cdv : Value) (A : Around) (outer : List Env) (s : Shared) (H : Hp) (E : XK) (c : Cq (cxOf (L2.CX P w) P w K mg base N_law "law" (defScope s_law) (He.fAd K d_law.at_) cdv A outer s H E) (ct K) (fns K fd) call n) :
    SSs (cxOf (L2.CX P w) P w K mg base N_law "law" (defScope s_law) (He.fAd K d_law.at_) cdv A outer s H E) (ct K) (fun c d _ H' => E c d H') (defBody s_law) (m_law call) := by
  have tk : Takes (cxOf (L2.CX P w) P w K mg base N_law "law" (defScope s_law) (He.fAd K d_law.at_) cdv A outer s H E) (fun cls d _ H' => E cls d H') := takes_of rfl rfl rfl rfl
  have nd := sc_law.nd
  have po : PassesOwn (model P w) (cxOf (L2.CX P w) P w K mg base N_law "law" (defScope s_law) (He.fAd K d_law.at_) cdv A outer s H E).A (cxOf (L2.CX P w) P w K mg base N_law "law" (defScope s_law) (He.fAd K d_law.at_) cdv A outer s H E).env (cxOf (L2.CX P w) P w K mg base N_law "law" (defScope s_law) (He.fAd K d_law.at_) cdv A outer s H E).xe := passes_of rfl
  exact (sss_cons (ss_set nd (i := 1) rfl (by first | exact .inl rfl | exact .inr rfl) (sc_call ⟨c.co, c.ro⟩ tk fx.i__law_source fx.g__law_source rfl rfl (sa_cons (se_var 0) sa_nil)))
      (sss_cons (ss_for po rfl (si_rng1 rfl fx.f_range (sa_cons se_int sa_nil)) (sg_name nd (i := 2) rfl (by first | exact .inl rfl | exact .inr rfl))
      (sss_one (ss_if (st_not (st_truth (sc_call ⟨c.co, c.ro⟩ tk fx.i__law_small_round fx.g__law_small_round rfl rfl (sa_cons (se_var 1) sa_nil))))
      (sss_one (ss_ret' se_bl))
      sss_nil)))
      (sss_one (ss_ret' (se_and (sc_call ⟨c.co, c.ro⟩ tk fx.i__law_great_round fx.g__law_great_round rfl rfl (sa_cons (se_var 1) sa_nil)) (se_one (sc_call ⟨c.co, c.ro⟩ tk fx.i__law_shut_round fx.g__law_shut_round rfl rfl (sa_cons (se_var 1) sa_nil))))))))
theorem b_law (fx : Fx K mg fd) : BodyOk P w K mg base (ct K) (fns K fd) ⟨He.fAd K d_law.at_, fd 34, ["_law_script"]⟩ ⟨1, 3, false, m_law⟩ :=
  ⟨_, "law", _, _, _, _, _, N_law, fx.D_law, sc_law, rfl, rfl, by decide, fun call n co cdv A outer s H E hr => t_law fx call n cdv A outer s H E ⟨co, hr⟩⟩
theorem bodies (fx : Fx K mg fd) (i : Nat) (F : Fn) (md : MDef) (hF : (fns K fd)[i]? = some F) (hd : defs[i]? = some md) : BodyOk P w K mg base (ct K) (fns K fd) F md := by
  match i, hF, hd with
  | 0, hF, hd => cases hF; cases hd; exact b_is_whole fx
  | 1, hF, hd => cases hF; cases hd; exact b_is_sequence fx
  | 2, hF, hd => cases hF; cases hd; exact b_form_value fx
  | 3, hF, hd => cases hF; cases hd; exact b_check_system fx
  | 4, hF, hd => cases hF; cases hd; exact b_variable_count fx
  | 5, hF, hd => cases hF; cases hd; exact b_start_row_of fx
  | 6, hF, hd => cases hF; cases hd; exact b_is_zero_row fx
  | 7, hF, hd => cases hF; cases hd; exact b_figure_sums fx
  | 8, hF, hd => cases hF; cases hd; exact b_turned_row fx
  | 9, hF, hd => cases hF; cases hd; exact b_read_answer fx
  | 10, hF, hd => cases hF; cases hd; exact b_whole fx
  | 11, hF, hd => cases hF; cases hd; exact b_judge_carries fx
  | 12, hF, hd => cases hF; cases hd; exact b_Answer__init_ fx
  | 13, hF, hd => cases hF; cases hd; exact b_Answer__eq_ fx
  | 14, hF, hd => cases hF; cases hd; exact b_Carries__init_ fx
  | 15, hF, hd => cases hF; cases hd; exact b_Carries__eq_ fx
  | 16, hF, hd => cases hF; cases hd; exact b__law_source fx
  | 17, hF, hd => cases hF; cases hd; exact b__law_take fx
  | 18, hF, hd => cases hF; cases hd; exact b__law_value fx
  | 19, hF, hd => cases hF; cases hd; exact b__law_figures fx
  | 20, hF, hd => cases hF; cases hd; exact b__law_used fx
  | 21, hF, hd => cases hF; cases hd; exact b__law_figure_rows fx
  | 22, hF, hd => cases hF; cases hd; exact b__law_next fx
  | 23, hF, hd => cases hF; cases hd; exact b__law_turns fx
  | 24, hF, hd => cases hF; cases hd; exact b__law_system fx
  | 25, hF, hd => cases hF; cases hd; exact b__law_made_system fx
  | 26, hF, hd => cases hF; cases hd; exact b__law_either fx
  | 27, hF, hd => cases hF; cases hd; exact b__law_handed fx
  | 28, hF, hd => cases hF; cases hd; exact b__law_is_whole fx
  | 29, hF, hd => cases hF; cases hd; exact b__law_wholes fx
  | 30, hF, hd => cases hF; cases hd; exact b__law_equal_system fx
  | 31, hF, hd => cases hF; cases hd; exact b__law_small_round fx
  | 32, hF, hd => cases hF; cases hd; exact b__law_great_round fx
  | 33, hF, hd => cases hF; cases hd; exact b__law_shut_round fx
  | 34, hF, hd => cases hF; cases hd; exact b_law fx
  | _ + 35, hF, _ => simp at hF
theorem all (fx : Fx K mg fd) (n : Nat) : CallOk P w K mg base (ct K) (fns K fd) (callF defs n) n := all_ok rfl (bodies fx) n
end
end K28

namespace K28
open PySem PySem.Spec L2 Mi
/-! printed by head.py: the head -/
def fuel : Nat := 20
theorem close (hlaw : ∀ ns : List Int, ns.length ≤ 63 → ∃ h, callF defs fuel 34 [.d (.scr (ns.map D.int))] [] = .ok (.d (.bl true)) h) : PySem.Challenge.rw_pressedwords_k28_whole_one_answer_for_eq.Holds := by
  open PySem.W PySem.Calls PyProof.Rows in
  w_on; o_law
  refine HandSHeadRun.head_any (r := R) (q := PySem.W.view R.prog [39]) (H := hk) (ob := ob) (M := 15000) (loose := ((["PressError", "BadEquation", "is_whole", "is_sequence", "form_value", "check_system", "variable_count", "start_row_of", "is_zero_row", "figure_sums", "turned_row", "read_answer", "whole", "judge_carries", "Answer", "Carries", "_law_source", "_law_take", "_law_value", "_law_figures"] : List Str) ++ (["_law_used", "_law_figure_rows", "_law_next", "_law_turns", "_law_system", "_law_made_system", "_law_either", "_law_handed", "_law_is_whole", "_law_wholes", "_law_equal_system", "_law_small_round", "_law_great_round", "_law_shut_round"] : List Str))) (d := HandSHeadRun.topDef R.prog 39) (kwd := []) ob_eq
    (by kernel_rfl) (fun s => by kernel_rfl) run (by kernel_rfl) (by kernel_rfl) (by kernel_rfl) (by rfl) (by first | assumption | decide +kernel) (by decide +kernel) ⟨rfl, rfl, rfl, rfl, rfl, by decide +kernel⟩ ?hw ?hc
  case hw => w_witness2
  case hc =>
    refine walk_law (l := PySem.Challenge.rw_pressedwords_k28_whole_one_answer_for_eq) (n := 63) (k := 2 * fuel + 1) (x := "_law_script") (CX := L2.CX0) rfl (by decide) (by kernel_rfl) ⟨⟨rfl, by decide, by decide⟩, rfl⟩ ?F (fun _ _ _ _ z => z)
    intro w mg fa h Y G hmg0
    obtain ⟨K, KX, c⟩ := Y
    have hmg : mg ("law" : PySem.Str) = some (.ref fa) := by
      have e : (HandSHeadRun.topDef R.prog 39).name = ("law" : PySem.Str) := by kernel_rfl
      rw [← e]
      exact hmg0
    have ex : ∀ i : Nat, ∃ f : FuncData, ∀ d : He.DefD, fn[i]? = some d → FunD K d.name d.qual d.params d.body d.scope (d.dvs K) (d.kws K) (He.fAd K d.at_) f := fun i => by
      cases q : fn[i]? with
      | none => exact ⟨⟨"", "", ⟨[], [], none, [], [], none, []⟩, .stmts [], ⟨.function, [], false, false, []⟩, 0, [], .none, .none, .none, .none, none, .none, .none, 0⟩, fun d z => nomatch z⟩
      | some d =>
        obtain ⟨f, z⟩ := c.d.def_ i q
        exact ⟨f, fun d' z' => by cases z'; exact z⟩
    have fx := fx_of (fd := fun i => (ex i).choose) KX G c fun i => (ex i).choose_spec
    have e := hmg.symm.trans fx.g_law
    cases e
    refine ⟨K, _, fun vs H Q _ => spC K (ct K) (callF defs fuel) 34 vs H Q fun _ _ _ => False, KX, fun s u => fx.D_law.bindsA (ps := ["_law_script"]) (fun _ _ _ _ _ _ us hl => match us, hl with | [_], _ => rfl) s [u] rfl, fun H a ns hl hO hS => law_sp (ct := ct K) hlaw H a ns hl hO hS, fun base hK hG => ?_⟩
    exact FnOk.still ((Mi.CallOk.ok (all (P := (PySem.Challenge.rw_pressedwords_k28_whole_one_answer_for_eq).prog) (w := w) (base := base) fx fuel)) 34 _ rfl)
end K28

namespace K28
open PySem PySem.Spec Mi
/-! ### lists and tuples alike -/
def box : Bool → List D → D
  | true, l => .tup l
  | false, l => .lv l
section
variable {b : Bool} {l : List D} {h : Hs}
@[simp] theorem bx_seq : pureSeq (.d (box b l)) = some l := by cases b <;> rfl
@[simp] theorem bx_sq (h : Hs) : seqOf (.d (box b l)) h = some l := by cases b <;> rfl
@[simp] theorem bx_ix (i : Int) : oIx (.d (box b l)) (.d (.int i)) h = (L2.atI l i).map fun d => (.d d, h) := by cases b <;> rfl
@[simp] theorem bx_len : nLen [.d (box b l)] h = some (.d (.int l.length), h) := by cases b <;> rfl
@[simp] theorem bx_tup : nTuple [.d (box b l)] h = some (.d (.tup l), h) := by cases b <;> rfl
@[simp] theorem bx_lst : nListV [.d (box b l)] h = some (.d (.lv l), h) := by cases b <;> rfl
@[simp] theorem bx_tru : truO (.d (box b l)) h = some (!l.isEmpty) := by cases b <;> rfl
@[simp] theorem bx_B : pureB (.d (box b l)) = some (b, l) := by cases b <;> rfl
@[simp] theorem bx_ty : tyD (.d (box b l)) h = some (.b (if b = true then "tuple" else "list")) := by cases b <;> rfl
end
@[simp] theorem tru_lv (l : List D) (h : Hs) : truO (.d (.lv l)) h = some (!l.isEmpty) := rfl
@[simp] theorem ap_zpB {σ : Lo} {h : Hs} (f : SemA) : iZpB f σ h = rb (f σ h) fun xs h1 => match xs with
  | [x, y] => (match pureB x, pureB y with
    | some (_, ds), some (_, es) => .ok (zipD ds es) h1
    | _, _ => .bad)
  | _ => .bad := rfl
@[simp] theorem ap_enB {σ : Lo} {h : Hs} (f : SemA) : iEnB f σ h = rb (f σ h) fun xs h1 => match xs with
  | [x] => (match pureB x with
    | some (_, ds) => .ok (enumD ds) h1
    | none => .bad)
  | _ => .bad := rfl
@[simp] theorem pB_tup (l : List D) : pureB (.d (.tup l)) = some (true, l) := rfl
@[simp] theorem pB_lv (l : List D) : pureB (.d (.lv l)) = some (false, l) := rfl
/-! ### the plain things -/
theorem e_whole (n : Nat) (i : Int) (h : Hs) : callF defs (n + 1) 0 [.d (.int i)] h = .ok (.d (.bl true)) h := by
  rw [callF_at (md := ⟨1, 1, false, m_is_whole⟩) rfl rfl]
  simp [startL, lookT]
theorem e_seq (n : Nat) (b : Bool) (l : List D) (h : Hs) : callF defs (n + 1) 1 [.d (box b l)] h = .ok (.d (.bl true)) h := by
  rw [callF_at (md := ⟨1, 1, false, m_is_sequence⟩) rfl rfl]
  cases b <;> simp [startL, lookT]
/-- t + the sum of the products -/
def dotA : Int → List Int → List Int → Int
  | t, f :: fs, g :: gs => dotA (t + f * g) fs gs
  | t, _, _ => t
theorem dotA_add : ∀ (fs gs : List Int) (t : Int), dotA t fs gs = t + dotA 0 fs gs
  | [], gs, t => by simp [dotA]
  | _ :: _, [], t => by simp [dotA]
  | f :: fs, g :: gs, t => by
    unfold dotA
    rw [dotA_add fs gs, dotA_add fs gs (0 + f * g)]
    omega
def hugeE : Nat := 400000
theorem hugeE_eq : hugeE = 400000 := rfl
def huge : Nat := 2 ^ hugeE
theorem log_huge {i : Nat} (h : i < huge) : i.log2 < 400001 := by
  by_cases z : i = 0
  · rw [z]; decide
  · have := (Nat.log2_lt z).mpr h
    have e := hugeE_eq
    omega
theorem cm4 {i j : Int} (h1 : i.natAbs < huge) (h2 : j.natAbs < huge) : cMulW i j = true := by
  unfold cMulW
  apply decide_eq_true
  have a := log_huge h1
  have b := log_huge h2
  omega
theorem big {i n : Nat} (h : i < 2 ^ n) (hn : n ≤ 400000) : i < huge := Nat.lt_of_lt_of_le h (Nat.pow_le_pow_right (Nat.zero_lt_succ 1) (by rw [hugeE_eq]; exact hn))
def Sml (l : List Int) : Prop := ∀ i ∈ l, i.natAbs < huge
@[simp] theorem zipD_cons (x y : D) (xs ys : List D) : zipD (x :: xs) (y :: ys) = .tup [x, y] :: zipD xs ys := rfl
@[simp] theorem zipD_nil (ys : List D) : zipD [] ys = [] := rfl
@[simp] theorem zipD_nil2 (x : D) (xs : List D) : zipD (x :: xs) [] = [] := rfl
theorem l_value (call : CallT) (h : Hs) (A B : D) : ∀ (fs gs : List Int) (t : Int), Sml fs → Sml gs → ∀ C E, ∃ C' E', forL (gTp 2 (gCo (gNm 3) (gCo (gNm 4) gNi))) (b__law_value_1 call) (zipD (fs.map D.int) (gs.map D.int)) [some (.d A), some (.d B), some (.d (.int t)), C, E] h = .ok .nx [some (.d A), some (.d B), some (.d (.int (dotA t fs gs))), C', E'] h
  | [], gs, t, _, _, C, E => ⟨C, E, by simp [forL, dotA]⟩
  | f :: fs, [], t, _, _, C, E => ⟨C, E, by simp [forL, dotA]⟩
  | f :: fs, g :: gs, t, hf, hg, C, E => by
    obtain ⟨C', E', q⟩ := l_value call h A B fs gs (t + f * g) (fun i hi => hf i (List.mem_cons_of_mem _ hi)) (fun i hi => hg i (List.mem_cons_of_mem _ hi)) (some (.d (.int f))) (some (.d (.int g)))
    refine ⟨C', E', ?_⟩
    have c := cm4 (hf f List.mem_cons_self) (hg g List.mem_cons_self)
    simp [forL, c, q, dotA]
theorem e_value (n : Nat) (b : Bool) (c : Int) (fs gs : List Int) (h : Hs) (hf : Sml fs) (hg : Sml gs) : callF defs (n + 1) 18 [.d (.tup [.int c, box b (fs.map D.int)]), .d (iT gs)] h = .ok (.d (.int (dotA c fs gs))) h := by
  rw [callF_at (md := ⟨2, 5, false, m__law_value⟩) rfl rfl]
  obtain ⟨C', E', q⟩ := l_value (callF defs n) h (.tup [.int c, box b (fs.map D.int)]) (iT gs) fs gs c hf hg none none
  have x0 : ∀ a b : D, L2.atI [a, b] 0 = some a := fun _ _ => rfl
  have x1 : ∀ a b : D, L2.atI [a, b] 1 = some b := fun _ _ => rfl
  unfold iT at q ⊢
  simp [startL, x0, x1, q]
/-! ### enumerate -/
def enumK : Nat → List D → List D
  | _, [] => []
  | k, d :: ds => .tup [.int (k : Nat), d] :: enumK (k + 1) ds
theorem enumK_get : ∀ (ds : List D) (k i : Nat), (enumK k ds)[i]? = (ds[i]?).map fun d => D.tup [.int ((k + i : Nat) : Int), d]
  | [], k, i => by simp [enumK]
  | d :: ds, k, 0 => by simp [enumK]
  | d :: ds, k, i + 1 => by
    simp only [enumK, List.getElem?_cons_succ]
    rw [enumK_get ds (k + 1) i, show k + 1 + i = k + (i + 1) by omega]
theorem enumD_K (ds : List D) : enumD ds = enumK 0 ds := List.ext_getElem? fun i => by rw [enumD_get, enumK_get, Nat.zero_add]
theorem l_form (call : CallT) (h : Hs) (A : D) (gs : List Int) (hg : Sml gs) : ∀ (fs : List Int) (k : Nat) (t : Int), Sml fs → ∀ C E, ∃ C' E', forL (gTp 2 (gCo (gNm 3) (gCo (gNm 4) gNi))) (b_form_value_1 call) (enumK k (fs.map D.int)) [some (.d A), some (.d (iT gs)), some (.d (.int t)), C, E] h = .ok .nx [some (.d A), some (.d (iT gs)), some (.d (.int (dotA t fs (gs.drop k)))), C', E'] h
  | [], k, t, _, C, E => ⟨C, E, by simp [enumK, forL, dotA]⟩
  | f :: fs, k, t, hf, C, E => by
    by_cases hk : k < gs.length
    · obtain ⟨C', E', q⟩ := l_form call h A gs hg fs (k + 1) (t + f * gs[k]) (fun i hi => hf i (List.mem_cons_of_mem _ hi)) (some (.d (.int k))) (some (.d (.int f)))
      refine ⟨C', E', ?_⟩
      have c := cm4 (hf f List.mem_cons_self) (hg gs[k] (List.getElem_mem hk))
      have e : gs.drop k = gs[k] :: gs.drop (k + 1) := List.drop_eq_getElem_cons hk
      have a : L2.atI (gs.map D.int) (k : Int) = some (.int gs[k]) := by rw [atI_nat, map_get, List.getElem?_eq_getElem hk]; rfl
      have hk' : (k : Int) < (gs.length : Int) := by omega
      rw [e]
      unfold iT at q ⊢
      generalize gs[k] = g at *
      simp [enumK, forL, hk', a, c, q, dotA]
    · obtain ⟨C', E', q⟩ := l_form call h A gs hg fs (k + 1) t (fun i hi => hf i (List.mem_cons_of_mem _ hi)) (some (.d (.int k))) (some (.d (.int f)))
      refine ⟨C', E', ?_⟩
      have hk' : ¬ (k : Int) < (gs.length : Int) := by omega
      rw [List.drop_eq_nil_of_le (by omega)] at q ⊢
      unfold iT at q ⊢
      have z : dotA t fs [] = t := by cases fs <;> rfl
      rw [z] at q
      simp [enumK, forL, hk', q, dotA]
theorem e_form (n : Nat) (b : Bool) (fs gs : List Int) (h : Hs) (hf : Sml fs) (hg : Sml gs) : callF defs (n + 1) 2 [.d (.tup [.int 0, box b (fs.map D.int)]), .d (iT gs)] h = .ok (.d (.int (dotA 0 fs gs))) h := by
  rw [callF_at (md := ⟨2, 5, false, m_form_value⟩) rfl rfl]
  obtain ⟨C', E', q⟩ := l_form (callF defs n) h (.tup [.int 0, box b (fs.map D.int)]) gs hg fs 0 0 hf none none
  have x0 : ∀ a b : D, L2.atI [a, b] 0 = some a := fun _ _ => rfl
  have x1 : ∀ a b : D, L2.atI [a, b] 1 = some b := fun _ _ => rfl
  rw [List.drop_zero] at q
  unfold iT at q ⊢
  simp [startL, x0, x1, enumD_K, q]
/-! ### systems, carry rows -/
/-- a form: its number, its factors; how the two are boxed -/
abbrev Fm := (Int × List Int) × Bool × Bool
def fmD (x : Fm) : D := box x.2.1 [.int x.1.1, box x.2.2 (x.1.2.map D.int)]
def rwD (r : List Int × Bool) : D := box r.2 (r.1.map D.int)
theorem fm0 (x : Fm) (h : Hs) : oIx (.d (fmD x)) (.d (.int 0)) h = some (.d (.int x.1.1), h) := by unfold fmD; rw [bx_ix]; rfl
theorem fm1 (x : Fm) (h : Hs) : oIx (.d (fmD x)) (.d (.int 1)) h = some (.d (box x.2.2 (x.1.2.map D.int)), h) := by unfold fmD; rw [bx_ix]; rfl
theorem e_vars (n : Nat) (b : Bool) (L : List Fm) (h : Hs) : callF defs (n + 1) 4 [.d (box b (L.map fmD))] h = .ok (.d (.int (((L.head?.map fun x => x.1.2.length).getD 0 : Nat) : Int))) h := by
  rw [callF_at (md := ⟨1, 1, false, m_variable_count⟩) rfl rfl]
  cases L with
  | nil => simp [startL]
  | cons x L =>
    have x0 : L2.atI (fmD x :: L.map fmD) 0 = some (fmD x) := by rw [show (0 : Int) = ((0 : Nat) : Int) from rfl, atI_nat]; rfl
    simp [startL, x0, fm1]
theorem cmpL_on {α : Type} {vs : List Nat} {g : SemG} {t : SemT} {f : SemE} {σ : Lo} {h : Hs} (m : α → D) (keep : α → Bool) (k : α → D) : ∀ (L : List α) (acc : List D), acc.length + L.length < sizeLine →
    (∀ x ∈ L, ∀ h', ∃ σ1, g (.d (m x)) (wipeL σ vs) h' = some (σ1, h') ∧ t σ1 h' = .ok (keep x) h' ∧ (keep x = true → f σ1 h' = .ok (.d (k x)) h')) →
    cmpL vs g t f h.length (L.map m) σ (h ++ [.lst acc]) = some (h ++ [.lst (acc ++ (L.filter keep).map k)])
  | [], acc, _, _ => by simp [cmpL]
  | x :: L, acc, hz, step => by
    rw [List.length_cons] at hz
    obtain ⟨σ1, e1, e2, e3⟩ := step x List.mem_cons_self (h ++ [.lst acc])
    rw [List.map_cons, cmpL, e1]
    dsimp only
    rw [e2]
    dsimp only
    cases q : keep x with
    | true =>
      rw [if_pos rfl, e3 q]
      dsimp only
      rw [cmpAdd_d (by omega)]
      dsimp only
      rw [cmpL_on m keep k L (acc ++ [k x]) (by rw [List.length_append, List.length_singleton]; omega) fun y hy => step y (List.mem_cons_of_mem _ hy)]
      simp [List.filter_cons, q]
    | false =>
      rw [if_neg Bool.false_ne_true, List.take_of_length_le (by simp), cmpL_on m keep k L acc (by omega) fun y hy => step y (List.mem_cons_of_mem _ hy)]
      simp [List.filter_cons, q]
theorem cmpL_all {α : Type} {vs : List Nat} {g : SemG} {f : SemE} {σ : Lo} {h : Hs} (m k : α → D) (L : List α) (hz : L.length < sizeLine)
    (step : ∀ x ∈ L, ∀ h', ∃ σ1, g (.d (m x)) (wipeL σ vs) h' = some (σ1, h') ∧ f σ1 h' = .ok (.d (k x)) h') : cmpL vs g tYs f h.length (L.map m) σ (h ++ [.lst []]) = some (h ++ [.lst (L.map k)]) := by
  have := cmpL_on (vs := vs) (g := g) (t := tYs) (f := f) (σ := σ) (h := h) m (fun _ => true) k L [] (by simpa using hz) fun x hx h' => let ⟨s, a, b⟩ := step x hx h'; ⟨s, a, rfl, fun _ => b⟩
  rw [this, List.filter_eq_self.mpr (fun _ _ => rfl), List.nil_append]
@[simp] theorem lc_end (h : Hs) (l : List D) : lcEnd false h.length (h ++ [.lst l]) = .ok (.d (.lv l)) h := by
  unfold lcEnd
  simp
theorem e_start (n : Nat) (b : Bool) (L : List Fm) (h : Hs) (hz : L.length < sizeLine) : callF defs (n + 1) 5 [.d (box b (L.map fmD))] h = .ok (.d (iT (L.map fun x => x.1.1))) h := by
  rw [callF_at (md := ⟨1, 2, false, m_start_row_of⟩) rfl rfl]
  have c := cmpL_all (vs := [1]) (g := gNm 1) (f := eBin oIx (eVar 1) (eK (.int 0))) (σ := [some (.d (box b (L.map fmD))), none]) (h := h) fmD (fun x => .int x.1.1) L hz fun x _ h' =>
    ⟨_, rfl, by simp [wipeL, fm0]⟩
  simp only [iT, List.map_map]
  simp [startL, c]
theorem sm_ints (l : List Int) : ∀ x ∈ l.map D.int, Sm 0 x := fun x hx => by
  obtain ⟨i, _, rfl⟩ := List.mem_map.mp hx
  exact trivial
theorem eqv_nil (l : List D) : PyData.eqvAll (D.pds l) (D.pds []) = l.isEmpty := by
  cases l <;> simp [D.pds, PyData.eqvAll]
theorem o_eqN {n : Nat} {l : List D} (h : Hs) (hl : ∀ x ∈ l, Sm n x) (hn : n < 64) : oEq (.d (.lv l)) (.d (.lv [])) h = some (.d (.bl l.isEmpty), h) := by
  rw [o_eqS (a := .lv l) (b := .lv []) (n := n + 1) (m := 1) hl (fun x hx => nomatch hx) (by omega) (by omega)]
  simp only [D.pd, PyData.eqv, eqv_nil]
theorem o_neN {n : Nat} {l : List D} (h : Hs) (hl : ∀ x ∈ l, Sm n x) (hn : n < 64) : oNe (.d (.lv l)) (.d (.lv [])) h = some (.d (.bl (!l.isEmpty)), h) := by
  rw [o_neS (a := .lv l) (b := .lv []) (n := n + 1) (m := 1) hl (fun x hx => nomatch hx) (by omega) (by omega)]
  simp only [D.pd, PyData.eqv, eqv_nil]
theorem e_zero (n : Nat) (r : List Int × Bool) (h : Hs) (hz : r.1.length < sizeLine) : callF defs (n + 1) 6 [.d (rwD r)] h = .ok (.d (.bl (r.1.all (· == 0)))) h := by
  rw [callF_at (md := ⟨1, 2, false, m_is_zero_row⟩) rfl rfl]
  unfold rwD
  have c := cmpL_on (vs := [1]) (g := gNm 1) (t := tBl (eBin (oEqF true) (eVar 1) (eK (.int 0)))) (f := eVar 1) (σ := [some (.d (box r.2 (r.1.map D.int))), none]) (h := h) D.int (fun i => !(i == 0)) D.int r.1 [] (by simpa using hz) fun x _ h' =>
    ⟨_, rfl, by simp [wipeL], fun _ => by simp [wipeL]⟩
  simp only [List.nil_append] at c
  have e : ((r.1.filter fun i => !(i == 0)).map D.int).isEmpty = r.1.all (· == 0) := by
    rw [List.isEmpty_map]
    induction r.1 with
    | nil => rfl
    | cons x l ih =>
      by_cases q : x = 0
      · subst q; simpa [List.filter_cons] using ih
      · simp [List.filter_cons, q]
  simp [startL, c, o_eqN h (sm_ints _) (by omega : 0 < 64), e]
end K28

namespace K28
open PySem PySem.Spec Mi
/-! ### loops as folds -/
def runF {α β : Type} (step : β → α → Sum β D) : β → List α → Sum β D
  | b, [] => .inl b
  | b, x :: xs => match step b x with
    | .inl b' => runF step b' xs
    | .inr d => .inr d
theorem for_run {α β : Type} {g : SemG} {body : SemS} (Q : Hs → Prop) (m : α → D) (St : β → Lo → Hs → Prop) (step : β → α → Sum β D) : ∀ (L : List α) (b : β) (σ : Lo) (h : Hs), St b σ h →
    (∀ b σ h x, x ∈ L → St b σ h → ∃ σ1 h1, g (.d (m x)) σ h = some (σ1, h1) ∧ match step b x with
      | .inl b' => ∃ σ2 h2, body σ1 h1 = .ok .nx σ2 h2 ∧ St b' (clr h.length σ2) (h2.take h.length)
      | .inr d => ∃ σ2 h2, body σ1 h1 = .ok (.ret (.d d)) σ2 h2 ∧ Q h2) →
    match runF step b L with
    | .inl b' => ∃ σ' h', forL g body (L.map m) σ h = .ok .nx σ' h' ∧ St b' σ' h'
    | .inr d => ∃ σ' h', forL g body (L.map m) σ h = .ok (.ret (.d d)) σ' h' ∧ Q h'
  | [], b, σ, h, s, _ => ⟨σ, h, rfl, s⟩
  | x :: L, b, σ, h, s, st => by
    obtain ⟨σ1, h1, e1, q⟩ := st b σ h x List.mem_cons_self s
    unfold runF
    simp only [List.map_cons, forL, e1]
    cases e : step b x with
    | inl b' =>
      rw [e] at q
      obtain ⟨σ2, h2, e2, s2⟩ := q
      simp only [e2]
      exact for_run Q m St step L b' _ _ s2 fun b σ h y hy => st b σ h y (List.mem_cons_of_mem _ hy)
    | inr d =>
      rw [e] at q
      obtain ⟨σ2, h2, e2, q2⟩ := q
      simp only [e2]
      exact ⟨σ2, h2, rfl, q2⟩
theorem cm2_on {α β : Type} {vs vs1 : List Nat} {g g1 : SemG} {it1 : SemI} {f : SemE} {σ : Lo} {h : Hs} (m : α → D) (M : α → List β) (m1 : β → D) (k : α → β → D) : ∀ (L : List α) (acc : List D), acc.length + (L.flatMap M).length < sizeLine →
    (∀ x ∈ L, ∀ h', ∃ σ1, g (.d (m x)) (wipeL σ vs) h' = some (σ1, h') ∧ it1 σ1 h' = .ok ((M x).map m1) h' ∧ ∀ y ∈ M x, ∀ h', ∃ σ2, g1 (.d (m1 y)) (wipeL (clr (h.length + 1) σ1) vs1) h' = some (σ2, h') ∧ f σ2 h' = .ok (.d (k x y)) h') →
    cm2L vs vs1 g tYs it1 g1 tYs f h.length (L.map m) σ (h ++ [.lst acc]) = some (h ++ [.lst (acc ++ L.flatMap fun x => (M x).map (k x))])
  | [], acc, _, _ => by simp [cm2L]
  | x :: L, acc, hz, step => by
    rw [List.flatMap_cons, List.length_append] at hz
    obtain ⟨σ1, e1, e2, e3⟩ := step x List.mem_cons_self (h ++ [.lst acc])
    have i := cmpL_on (vs := vs1) (g := g1) (t := tYs) (f := f) (σ := clr (h.length + 1) σ1) (h := h) m1 (fun _ => true) (k x) (M x) acc (by omega) fun y hy h' => let ⟨s, a, b⟩ := e3 y hy h'; ⟨s, a, rfl, fun _ => b⟩
    rw [List.filter_eq_self.mpr (fun _ _ => rfl)] at i
    have ih := cm2_on (vs := vs) (vs1 := vs1) (g := g) (g1 := g1) (it1 := it1) (f := f) (σ := σ) (h := h) m M m1 k L (acc ++ (M x).map (k x)) (by rw [List.length_append, List.length_map]; omega) fun y hy => step y (List.mem_cons_of_mem _ hy)
    simp only [List.map_cons, cm2L, e1, ap_tys, if_true, e2]
    rw [List.take_of_length_le (by simp), i]
    dsimp only
    rw [ih, List.flatMap_cons, List.append_assoc]
@[simp] theorem ap_lc2 {σ : Lo} {h : Hs} (mu : Bool) (vs vs1 : List Nat) (it it1 : SemI) (g g1 : SemG) (t t1 : SemT) (f : SemE) : eLc2 mu vs vs1 it g t it1 g1 t1 f σ h = rb (it σ h) fun ds h1 => match cm2L vs vs1 g t it1 g1 t1 f h1.length ds σ (h1 ++ [.lst []]) with
  | some h2 => lcEnd mu h1.length h2
  | none => .bad := rfl
/-! ### the figures' rows -/
def usedAt (L : List Fm) (i : Nat) : Bool := L.any fun x => !(x.1.2.getD i 0 == 0)
def extR (rows : List (List Int)) (u : Bool) : List (List Int) := rows.flatMap fun r => (if u = true then [0, 1] else [0]).map fun g => r ++ [g]
def figR (us : List Bool) : List (List Int) := us.foldl extR [[]]
theorem ext_len (rows : List (List Int)) (u : Bool) : (extR rows u).length ≤ 2 * rows.length := by
  unfold extR
  induction rows with
  | nil => simp
  | cons r rows ih =>
    rw [List.flatMap_cons, List.length_append, List.length_cons, List.length_map]
    have : (if u = true then [0, 1] else [0] : List Int).length ≤ 2 := by cases u <;> simp
    omega
theorem fold_len : ∀ (us : List Bool) (rows : List (List Int)), (us.foldl extR rows).length ≤ 2 ^ us.length * rows.length
  | [], rows => by simp
  | u :: us, rows => by
    rw [List.foldl_cons, List.length_cons, Nat.pow_succ]
    refine Nat.le_trans (fold_len us (extR rows u)) ?_
    rw [Nat.mul_assoc]
    exact Nat.mul_le_mul_left _ (ext_len rows u)
def Bit (l : List Int) : Prop := ∀ i ∈ l, i = 0 ∨ i = 1
theorem ext_bit {rows : List (List Int)} {u : Bool} (h : ∀ r ∈ rows, Bit r) : ∀ r ∈ extR rows u, Bit r := fun r hr => by
  unfold extR at hr
  obtain ⟨r0, h0, h1⟩ := List.mem_flatMap.mp hr
  obtain ⟨g, hg, rfl⟩ := List.mem_map.mp h1
  intro i hi
  rcases List.mem_append.mp hi with hi | hi
  · exact h r0 h0 i hi
  · have := List.mem_singleton.mp hi
    subst this
    cases u with
    | true => simpa using hg
    | false => left; simpa using hg
theorem fold_bit : ∀ (us : List Bool) (rows : List (List Int)), (∀ r ∈ rows, Bit r) → ∀ r ∈ us.foldl extR rows, Bit r
  | [], rows, h => h
  | u :: us, rows, h => fold_bit us (extR rows u) (ext_bit h)
theorem fig_bit (us : List Bool) : ∀ r ∈ figR us, Bit r := fold_bit us _ fun r hr => by
  have := List.mem_singleton.mp hr
  subst this
  intro i hi; cases hi
theorem Bit.sml {l : List Int} (h : Bit l) : Sml l := fun i hi => by rcases h i hi with rfl | rfl <;> exact big (n := 1) (by decide) (by decide)
theorem fold_ln : ∀ (us : List Bool) (rows : List (List Int)) (k : Nat), (∀ r ∈ rows, r.length = k) → ∀ r ∈ us.foldl extR rows, r.length = k + us.length
  | [], rows, k, h => h
  | u :: us, rows, k, h => by
    have := fold_ln us (extR rows u) (k + 1) fun r hr => by
      unfold extR at hr
      obtain ⟨r0, h0, h1⟩ := List.mem_flatMap.mp hr
      obtain ⟨g, hg, rfl⟩ := List.mem_map.mp h1
      rw [List.length_append, h r0 h0]; rfl
    intro r hr
    have e := this r hr
    rw [List.length_cons]; omega
theorem fig_ln (us : List Bool) : ∀ r ∈ figR us, r.length = us.length := fun r hr => by
  have := fold_ln us [[]] 0 (fun r hr => by have := List.mem_singleton.mp hr; subst this; rfl) r hr
  omega
theorem fig_len (us : List Bool) : (figR us).length ≤ 2 ^ us.length := by
  have := fold_len us [[]]
  rw [List.length_singleton, Nat.mul_one] at this
  exact this
theorem fig_lt {us : List Bool} (h : us.length ≤ 10) : (figR us).length ≤ 1024 := Nat.le_trans (fig_len us) (Nat.pow_le_pow_right (by omega) h)
theorem fig_snoc (us : List Bool) (u : Bool) : figR (us ++ [u]) = extR (figR us) u := by unfold figR; rw [List.foldl_append]; rfl
theorem ext_false : ∀ rows : List (List Int), extR rows false = rows.map fun r => r ++ [0]
  | [] => rfl
  | r :: rows => by
    have ih := ext_false rows
    unfold extR at ih ⊢
    rw [List.flatMap_cons, ih]; rfl
/-- a system that the law draws -/
structure Sy (v : Nat) (L : List Fm) : Prop where
  ln : L.length ≤ 100
  vl : v ≤ 10
  vs : ∀ x ∈ L, x.1.2.length = v
  sm : ∀ x ∈ L, Sml x.1.2
def vOf (L : List Fm) : Nat := (L.head?.map fun x => x.1.2.length).getD 0
def usL (L : List Fm) : List Bool := (List.range (vOf L)).map (usedAt L)
theorem usL_len (L : List Fm) : (usL L).length = vOf L := by unfold usL; simp
theorem Sy.v {v : Nat} {L : List Fm} (s : Sy v L) : vOf L ≤ 10 ∧ ∀ x ∈ L, x.1.2.length = vOf L := by
  cases L with
  | nil => exact ⟨by unfold vOf; simp, fun x hx => nomatch hx⟩
  | cons y L =>
    have e : vOf (y :: L) = v := s.vs y List.mem_cons_self
    rw [e]
    exact ⟨s.vl, s.vs⟩
theorem lts {n : Nat} (h : n ≤ 1000000) : n < sizeLine := Nat.lt_of_le_of_lt h (by decide)
theorem les {n : Nat} (h : n ≤ 1000000) : n ≤ sizeLine := Nat.le_of_lt (lts h)
theorem getD_some {l : List Int} {i : Nat} (h : i < l.length) : (l.map D.int)[i]? = some (.int (l.getD i 0)) := by
  rw [map_get, List.getElem?_eq_getElem h, List.getD_eq_getElem?_getD, List.getElem?_eq_getElem h]; rfl
theorem ixRow {l : List Int} {i : Nat} (h : i < l.length) : L2.atI (l.map D.int) (i : Int) = some (.int (l.getD i 0)) := by rw [atI_nat, getD_some h]
theorem used_emp (L : List Fm) (i : Nat) : (!((L.filter fun x => !(x.1.2.getD i 0 == 0)).map fmD).isEmpty) = usedAt L i := by
  unfold usedAt
  rw [List.isEmpty_map]
  induction L with
  | nil => rfl
  | cons x L ih =>
    rw [List.any_cons, List.filter_cons]
    cases q : !(x.1.2.getD i 0 == 0) with
    | true => rfl
    | false => simpa using ih
theorem s_used (call : CallT) {L : List Fm} (hz : L.length ≤ 100) {i : Nat} (hi : ∀ x ∈ L, i < x.1.2.length) (A : D) (B C : Option Vl) (h : Hs) :
    cmpL [4] (gNm 4) (tBl (eBin (oEqF true) (eBin oIx (eBin oIx (eVar 4) (eK (.int 1))) (eVar 2)) (eK (.int 0)))) (eVar 4) h.length (L.map fmD) [some (.d A), B, some (.d (.int (i : Int))), C, none, none, none, none] (h ++ [.lst []]) = some (h ++ [.lst ((L.filter fun x => !(x.1.2.getD i 0 == 0)).map fmD)]) := by
  have := cmpL_on (vs := [4]) (g := gNm 4) (t := tBl (eBin (oEqF true) (eBin oIx (eBin oIx (eVar 4) (eK (.int 1))) (eVar 2)) (eK (.int 0)))) (f := eVar 4) (σ := [some (.d A), B, some (.d (.int (i : Int))), C, none, none, none, none]) (h := h) fmD (fun x => !(x.1.2.getD i 0 == 0)) fmD L [] (by rw [List.length_nil, Nat.zero_add]; exact lts (by omega)) fun x hx h' =>
    ⟨_, rfl, by
      have e := ixRow (hi x hx)
      generalize x.1.2.getD i 0 = z at *
      simp [wipeL, fm1, e], fun _ => by simp [wipeL]⟩
  simpa using this
theorem l_figs (call : CallT) {v : Nat} {b : Bool} {L : List Fm} (s : Sy v L) (h : Hs) :
    ∃ A B, forL (gNm 2) (b_figure_sums_1 call) (rngD 0 (vOf L)) [some (.d (box b (L.map fmD))), some (.d (.lv [.tup []])), none, none, none, none, none, none] h = .ok .nx [some (.d (box b (L.map fmD))), some (.d (.lv ((figR (usL L)).map iT))), A, B, none, none, none, none] h := by
  refine for_ind (R := fun r => ∃ A B, r = .ok .nx [some (.d (box b (L.map fmD))), some (.d (.lv ((figR (usL L)).map iT))), A, B, none, none, none, none] h)
    (fun j σ h' => h' = h ∧ ∃ A B, σ = [some (.d (box b (L.map fmD))), some (.d (.lv ((figR ((usL L).take j)).map iT))), A, B, none, none, none, none]) ⟨rfl, none, none, rfl⟩ (fun j d σ h' hj p => ?_) fun σ h' p => ?_
  · obtain ⟨rfl, A, B, rfl⟩ := p
    have hjv : j < vOf L := by
      have := (List.getElem?_eq_some_iff.mp hj).1
      unfold rngD at this; simpa using this
    have ed : d = .int (j : Int) := by
      unfold rngD at hj
      rw [List.getElem?_map, List.getElem?_range hjv] at hj
      simpa using hj.symm
    subst ed
    have et : (usL L).take (j + 1) = (usL L).take j ++ [usedAt L j] := by
      rw [List.take_add_one]
      unfold usL
      rw [List.getElem?_map, List.getElem?_range hjv]; rfl
    have su := s_used call s.ln (fun x hx => by rw [s.v.2 x hx]; exact hjv) (box b (L.map fmD)) (some (.d (.lv ((figR ((usL L).take j)).map iT)))) B h'
    have ue := used_emp L j
    have ln : ((usL L).take j).length ≤ 10 := by rw [List.length_take, usL_len]; have := s.v.1; omega
    have rl := fig_ln ((usL L).take j)
    have fl := fig_lt ln
    rw [et, fig_snoc]
    generalize figR ((usL L).take j) = rows at *
    generalize ((L.filter fun x => !(x.1.2.getD j 0 == 0)).map fmD) = Fl at *
    refine ⟨_, _, rfl, ?_⟩
    cases hu : usedAt L j with
    | true =>
      rw [hu] at ue
      have c2 := cm2_on (vs := [5, 6]) (vs1 := [6]) (g := gNm 5) (g1 := gNm 6) (it1 := iSeq (eTup (aCons (eK (.int 0)) (aCons (eK (.int 1)) aNil)))) (f := eBin oAdd (eVar 5) (eTup (aCons (eVar 6) aNil)))
        (σ := [some (.d (box b (L.map fmD))), some (.d (.lv (rows.map iT))), some (.d (.int (j : Int))), some (.d (.lv Fl)), none, none, none, none]) (h := h') iT (fun _ => [0, 1]) D.int (fun r g => iT (r ++ [g])) rows [] (by
          rw [List.length_nil, Nat.zero_add, List.length_flatMap]
          simp only [List.length_cons, List.length_nil, List.map_const', List.sum_replicate_nat]
          exact lts (by omega)) fun r hr h1 => ⟨_, rfl, by simp [wipeL], fun g _ h2 => ⟨_, rfl, by
          have := rl r hr
          have z : r.length + 1 ≤ sizeLine := les (by omega)
          simp [wipeL, iT, z]⟩⟩
      have tl : ∀ h : Hs, truO (.d (.lv Fl)) h = some true := fun h => by rw [tru_lv, ue]
      have ee : (extR rows true).map iT = rows.flatMap fun r => [0, 1].map fun g => iT (r ++ [g]) := by
        unfold extR
        rw [List.map_flatMap]
        simp
      rw [ee]
      simp only [List.nil_append] at c2
      simp [su, tl, c2]
    | false =>
      rw [hu] at ue
      have tl : ∀ h : Hs, truO (.d (.lv Fl)) h = some false := fun h => by rw [tru_lv, ue]
      have c2 := cmpL_all (vs := [5]) (g := gNm 5) (f := eBin oAdd (eVar 5) (eTup (aCons (eK (.int 0)) aNil)))
        (σ := [some (.d (box b (L.map fmD))), some (.d (.lv (rows.map iT))), some (.d (.int (j : Int))), some (.d (.lv Fl)), none, none, none, none]) (h := h') iT (fun r => iT (r ++ [0])) rows (lts (by omega)) fun r hr h1 => ⟨_, rfl, by
          have := rl r hr
          have z : r.length + 1 ≤ sizeLine := les (by omega)
          simp [wipeL, iT, z]⟩
      have ee : (extR rows false).map iT = rows.map fun r => iT (r ++ [0]) := by
        rw [ext_false, List.map_map]; rfl
      rw [ee]
      simp [su, tl, c2]
  · obtain ⟨rfl, A, B, rfl⟩ := p
    refine ⟨A, B, ?_⟩
    rw [List.take_of_length_le (by rw [usL_len]; unfold rngD; simp)]
theorem Bit.of {us : List Bool} {r : List Int} (h : r ∈ figR us) : Sml r := (fig_bit us r h).sml
def sumsD (L : List Fm) (g : List Int) : List Int := L.map fun x => dotA 0 x.1.2 g
theorem e_figs (n : Nat) {v : Nat} {b : Bool} {L : List Fm} (s : Sy v L) (h : Hs) :
    callF defs (n + 2) 7 [.d (box b (L.map fmD))] h = .ok (.d (.lv ((figR (usL L)).map fun g => .tup [iT g, iT (sumsD L g)]))) h := by
  rw [callF_at (md := ⟨1, 8, false, m_figure_sums⟩) rfl rfl]
  obtain ⟨A, B, q⟩ := l_figs (callF defs (n + 1)) (b := b) s h
  have ev : callF defs (n + 1) 4 [.d (box b (L.map fmD))] h = .ok (.d (.int (vOf L : Nat))) h := e_vars n b L h
  have hv := s.v.1
  have r := rngR_nat (k := vOf L) (h := h) (by omega)
  have fl := fig_lt (us := usL L) (by rw [usL_len]; exact hv)
  have c := cmpL_all (vs := [7]) (g := gNm 7) (f := eTup (aCons (eVar 7) (aCons (eN nTuple (aCons (eLc false [4] (iSeq (eVar 0)) (gNm 4) tYs (eCl (callF defs (n + 1)) 2 [] (aCons (eTup (aCons (eK (.int 0)) (aCons (eBin oIx (eVar 4) (eK (.int 1))) aNil))) (aCons (eVar 7) aNil)))) aNil)) aNil)))
    (σ := [some (.d (box b (L.map fmD))), some (.d (.lv ((figR (usL L)).map iT))), A, B, none, none, none, none]) (h := h) iT (fun g => .tup [iT g, iT (sumsD L g)]) (figR (usL L)) (lts (by omega)) fun g hg h1 => ⟨_, rfl, by
      have c1 := cmpL_all (vs := [4]) (g := gNm 4) (f := eCl (callF defs (n + 1)) 2 [] (aCons (eTup (aCons (eK (.int 0)) (aCons (eBin oIx (eVar 4) (eK (.int 1))) aNil))) (aCons (eVar 7) aNil)))
        (σ := [some (.d (box b (L.map fmD))), some (.d (.lv ((figR (usL L)).map iT))), A, B, none, none, none, some (.d (iT g))]) (h := h1) fmD (fun x => .int (dotA 0 x.1.2 g)) L (lts (by have := s.ln; omega)) fun x hx h2 => ⟨_, rfl, by
          have := e_form n x.2.2 x.1.2 g h2 (s.sm x hx) (Bit.of hg)
          simp [wipeL, fm1, this]⟩
      unfold iT at c1 ⊢
      simp [wipeL, c1, sumsD]⟩
  simp only [am_figure_sums]
  simp [startL, ev, r, q, c]
end K28

namespace K28
open PySem PySem.Spec Mi
/-! ### the next row -/
def turn : List Int → List Int → Option (List Int)
  | c :: cs, m :: ms => if (c + m) % 2 = 0 then (turn cs ms).map (((c + m) / 2) :: ·) else none
  | _, _ => some []
def optT : Option (List Int) → D
  | none => .non
  | some l => iT l
@[simp] theorem n_dm2 (i : Int) (h : Hs) : nDm [.d (.int i), .d (.int 2)] h = some (.d (.tup [.int (i / 2), .int (i % 2)]), h) := rfl
theorem l_turned (call : CallT) (A B : D) (h : Hs) : ∀ (cs ms : List Int) (acc : List Int), acc.length + cs.length < sizeLine → ∀ C E F G,
    match turn cs ms with
    | some l => ∃ C' E' F' G', forL (gTp 2 (gCo (gNm 3) (gCo (gNm 4) gNi))) (b_turned_row_1 call) (zipD (cs.map D.int) (ms.map D.int)) [some (.d A), some (.d B), some (.r h.length), C, E, F, G] (h ++ [.lst (acc.map D.int)]) = .ok .nx [some (.d A), some (.d B), some (.r h.length), C', E', F', G'] (h ++ [.lst ((acc ++ l).map D.int)])
    | none => ∃ σ' h', forL (gTp 2 (gCo (gNm 3) (gCo (gNm 4) gNi))) (b_turned_row_1 call) (zipD (cs.map D.int) (ms.map D.int)) [some (.d A), some (.d B), some (.r h.length), C, E, F, G] (h ++ [.lst (acc.map D.int)]) = .ok (.ret (.d .non)) σ' h' ∧ h'.take h.length = h
  | [], ms, acc, _, C, E, F, G => ⟨C, E, F, G, by simp [forL]⟩
  | c :: cs, [], acc, _, C, E, F, G => ⟨C, E, F, G, by simp [forL]⟩
  | c :: cs, m :: ms, acc, hz, C, E, F, G => by
    rw [List.length_cons] at hz
    have hz' : acc.length < sizeLine := by omega
    unfold turn
    rcases Int.emod_two_eq (c + m) with e | e
    · rw [if_pos e]
      have ih := l_turned call A B h cs ms (acc ++ [(c + m) / 2]) (by rw [List.length_append, List.length_singleton]; omega) (some (.d (.int c))) (some (.d (.int m))) (some (.d (.int ((c + m) / 2)))) (some (.d (.int 0)))
      cases q : turn cs ms with
      | some l =>
        rw [q] at ih
        obtain ⟨C', E', F', G', ih⟩ := ih
        refine ⟨C', E', F', G', ?_⟩
        simp only [List.map_append, List.map_cons, List.map_nil, List.append_assoc, List.singleton_append, List.nil_append] at ih
        simp [forL, e, hz', ih]
      | none =>
        rw [q] at ih
        obtain ⟨σ', h', ih, t⟩ := ih
        refine ⟨σ', h', ?_, t⟩
        simp only [List.map_append, List.map_cons, List.map_nil] at ih
        simp [forL, e, hz', ih]
    · rw [if_neg (by omega)]
      refine ⟨_, _, by simp [forL, e]; exact ⟨rfl, rfl⟩, by simp⟩
theorem e_turned (n : Nat) (b : Bool) (cs ms : List Int) (h : Hs) (hz : cs.length ≤ 1000000) : callF defs (n + 1) 8 [.d (box b (cs.map D.int)), .d (iT ms)] h = .ok (.d (optT (turn cs ms))) h := by
  rw [callF_at (md := ⟨2, 7, false, m_turned_row⟩) rfl rfl]
  have q := l_turned (callF defs n) (box b (cs.map D.int)) (iT ms) h cs ms [] (by rw [List.length_nil, Nat.zero_add]; exact lts hz) none none none none
  unfold iT at q ⊢
  cases e : turn cs ms with
  | some l =>
    rw [e] at q
    obtain ⟨C, E, F, G, q⟩ := q
    simp only [List.map_nil, List.nil_append] at q
    simp [startL, q, optT, iT, n_tupR (at_len)]
  | none =>
    rw [e] at q
    obtain ⟨σ', h', q, t⟩ := q
    simp only [List.map_nil, List.nil_append] at q
    simp [startL, q, optT, t]
theorem l_next (n : Nat) (A B : D) (g : List Int) (hg : Sml g) (h : Hs) : ∀ (cs : List Int) (L : List Fm) (acc : List Int), (∀ x ∈ L, Sml x.1.2) → acc.length + cs.length < sizeLine → ∀ C E F,
    match turn cs (sumsD L g) with
    | some l => ∃ C' E' F', forL (gTp 2 (gCo (gNm 4) (gCo (gNm 5) gNi))) (b__law_next_1 (callF defs (n + 1))) (zipD (cs.map D.int) (L.map fmD)) [some (.d A), some (.d B), some (.d (iT g)), some (.r h.length), C, E, F] (h ++ [.lst (acc.map D.int)]) = .ok .nx [some (.d A), some (.d B), some (.d (iT g)), some (.r h.length), C', E', F'] (h ++ [.lst ((acc ++ l).map D.int)])
    | none => ∃ σ' h', forL (gTp 2 (gCo (gNm 4) (gCo (gNm 5) gNi))) (b__law_next_1 (callF defs (n + 1))) (zipD (cs.map D.int) (L.map fmD)) [some (.d A), some (.d B), some (.d (iT g)), some (.r h.length), C, E, F] (h ++ [.lst (acc.map D.int)]) = .ok (.ret (.d .non)) σ' h' ∧ h'.take h.length = h
  | [], L, acc, _, _, C, E, F => by
    unfold turn
    exact ⟨C, E, F, by simp [forL]⟩
  | c :: cs, [], acc, _, _, C, E, F => ⟨C, E, F, by simp [forL]⟩
  | c :: cs, x :: L, acc, hL, hz, C, E, F => by
    rw [List.length_cons] at hz
    have hz' : acc.length < sizeLine := by omega
    have ev : ∀ h, callF defs (n + 1) 18 [.d (.tup [.int c, box x.2.2 (x.1.2.map D.int)]), .d (iT g)] h = _ := fun h => e_value n x.2.2 c x.1.2 g h (hL x List.mem_cons_self) hg
    have d2 : ∀ i : Int, cDivW i 2 = true := fun i => cd (by omega) (by decide)
    show match turn (c :: cs) (dotA 0 x.1.2 g :: sumsD L g) with | some l => _ | none => _
    unfold turn
    rw [← dotA_add]
    generalize dotA c x.1.2 g = t at *
    rcases Int.emod_two_eq t with e | e
    · rw [if_pos e]
      have ih := l_next n A B g hg h cs L (acc ++ [t / 2]) (fun y hy => hL y (List.mem_cons_of_mem _ hy)) (by rw [List.length_append, List.length_singleton]; omega) (some (.d (.int c))) (some (.d (fmD x))) (some (.d (.int t)))
      cases q : turn cs (sumsD L g) with
      | some l =>
        rw [q] at ih
        obtain ⟨C', E', F', ih⟩ := ih
        refine ⟨C', E', F', ?_⟩
        simp only [List.map_append, List.map_cons, List.map_nil, List.append_assoc, List.singleton_append, List.nil_append] at ih
        simp [forL, fm1, ev, e, d2, hz', ih]
      | none =>
        rw [q] at ih
        obtain ⟨σ', h', ih, t⟩ := ih
        refine ⟨σ', h', ?_, t⟩
        simp only [List.map_append, List.map_cons, List.map_nil] at ih
        simp [forL, fm1, ev, e, d2, hz', ih]
    · rw [if_neg (by omega)]
      refine ⟨_, _, by simp [forL, fm1, ev, e]; exact ⟨rfl, rfl⟩, by simp⟩
theorem e_next (n : Nat) (L : List Fm) (cs g : List Int) (h : Hs) (hL : ∀ x ∈ L, Sml x.1.2) (hg : Sml g) (hz : cs.length ≤ 1000000) : callF defs (n + 2) 22 [.d (.lv (L.map fmD)), .d (iT cs), .d (iT g)] h = .ok (.d (optT (turn cs (sumsD L g)))) h := by
  rw [callF_at (md := ⟨3, 7, false, m__law_next⟩) rfl rfl]
  have q := l_next n (.lv (L.map fmD)) (iT cs) g hg h cs L [] hL (by rw [List.length_nil, Nat.zero_add]; exact lts hz) none none none
  unfold iT at q ⊢
  cases e : turn cs (sumsD L g) with
  | some l =>
    rw [e] at q
    obtain ⟨C, E, F, q⟩ := q
    simp only [List.map_nil, List.nil_append] at q
    simp [startL, q, optT, iT, n_tupR (at_len)]
  | none =>
    rw [e] at q
    obtain ⟨σ', h', q, t⟩ := q
    simp only [List.map_nil, List.nil_append] at q
    simp [startL, q, optT, t]
end K28

namespace K28
open PySem PySem.Spec Mi
theorem sm_box {n : Nat} {b : Bool} {l : List D} (h : ∀ x ∈ l, Sm n x) : Sm (n + 1) (box b l) := by cases b <;> exact h
theorem sm_fm (x : Fm) : Sm 2 (fmD x) := sm_box fun y hy => by
  rcases List.mem_cons.mp hy with rfl | hy
  · exact trivial
  · have := List.mem_singleton.mp hy
    subst this
    exact sm_box (sm_ints _)
theorem sm_map {α : Type} {n : Nat} {f : α → D} (h : ∀ x, Sm n (f x)) (l : List α) : ∀ d ∈ l.map f, Sm n d := fun d hd => by
  obtain ⟨x, _, rfl⟩ := List.mem_map.mp hd
  exact h x
theorem ones_emp (L : List Fm) (i : Nat) : (!((L.filter fun x => !(x.1.2.getD i 0 == 0)).map fun _ => D.int 1).isEmpty) = usedAt L i := by
  rw [← used_emp L i, List.isEmpty_map, List.isEmpty_map]
theorem e_used (n : Nat) {v : Nat} {L : List Fm} (s : Sy v L) (h : Hs) : callF defs (n + 1) 20 [.d (.lv (L.map fmD))] h = .ok (.d (.lv ((usL L).map D.bl))) h := by
  rw [callF_at (md := ⟨1, 3, false, m__law_used⟩) rfl rfl]
  have hz := s.ln
  cases L with
  | nil => simp [startL, o_eqN (n := 0) (l := []) h (fun _ hx => nomatch hx) (by omega), usL, vOf]
  | cons y L =>
    have e0 := o_eqN (l := (y :: L).map fmD) h (sm_map sm_fm _) (by omega : 2 < 64)
    have x0 : L2.atI ((y :: L).map fmD) 0 = some (fmD y) := by rw [show (0 : Int) = ((0 : Nat) : Int) from rfl, atI_nat]; rfl
    have hv := s.v
    have ev : vOf (y :: L) = y.1.2.length := rfl
    have r := rngR_nat (k := vOf (y :: L)) (h := h) (by omega)
    rw [ev] at r
    have ne : ((y :: L).map fmD).isEmpty = false := rfl
    rw [ne] at e0
    generalize hLL : y :: L = LL at *
    have c := cmpL_all (vs := [1]) (g := gNm 1) (f := eBin oNe (eLc false [2] (iSeq (eVar 0)) (gNm 2) (tBl (eBin (oEqF true) (eBin oIx (eBin oIx (eVar 2) (eK (.int 1))) (eVar 1)) (eK (.int 0)))) (eK (.int 1))) (eLv aNil))
      (σ := [some (.d (.lv (LL.map fmD))), none, none]) (h := h) (fun i : Nat => D.int (i : Int)) (fun i => .bl (usedAt LL i)) (List.range y.1.2.length) (lts (by rw [List.length_range]; omega)) fun i hi h1 => ⟨_, rfl, by
        have hil : ∀ x ∈ LL, i < x.1.2.length := fun x hx => by rw [hv.2 x hx, ev]; exact List.mem_range.mp hi
        have c1 := cmpL_on (vs := [2]) (g := gNm 2) (t := tBl (eBin (oEqF true) (eBin oIx (eBin oIx (eVar 2) (eK (.int 1))) (eVar 1)) (eK (.int 0)))) (f := eK (.int 1)) (σ := [some (.d (.lv (LL.map fmD))), some (.d (.int (i : Int))), none]) (h := h1)
          fmD (fun x => !(x.1.2.getD i 0 == 0)) (fun _ => .int 1) LL [] (by rw [List.length_nil, Nat.zero_add]; exact lts (by omega)) fun x hx h' => ⟨_, rfl, by
            have e := ixRow (hil x hx)
            generalize x.1.2.getD i 0 = z at *
            simp [wipeL, fm1, e], fun _ => rfl⟩
        have o1 := ones_emp LL i
        rw [List.nil_append] at c1
        have o2 := o_neN (l := (LL.filter fun x => !(x.1.2.getD i 0 == 0)).map fun _ => D.int 1) h1 (sm_map (n := 0) (f := fun _ => D.int 1) (fun _ => trivial) _) (by omega)
        rw [o1] at o2
        generalize ((LL.filter fun x => !(x.1.2.getD i 0 == 0)).map fun _ => D.int 1) = Z at *
        simp [wipeL, c1, o2]⟩
    have rr : rngD 0 y.1.2.length = (List.range y.1.2.length).map fun i : Nat => D.int (i : Int) := by simp [rngD]
    rw [rr] at r
    have ue : (usL LL).map D.bl = (List.range y.1.2.length).map fun i => D.bl (usedAt LL i) := by
      unfold usL
      rw [ev, List.map_map]; rfl
    rw [ue]
    have l1 : ∀ h, nLen [.d (box y.2.2 (y.1.2.map D.int))] h = some (.d (.int ((y.1.2.length : Nat) : Int)), h) := fun h => by rw [bx_len, List.length_map]
    simp only [startL, am__law_used, ap_sq, ap_sif, ap_tbl, ap_bin, ap_var, ap_lv, ap_rt, ap_lc, ap_ia1, ap_n, ap_cons, ap_nil, ap_k]
    simp [e0, x0, fm1, l1, r, c]
/-! ### the figures' rows of the law -/
theorem l_fr1 (call : CallT) (A B : D) (u : Bool) (h : Hs) : ∀ (rows acc : List (List Int)) (C : Option Vl) (E : Option Vl), (∀ r ∈ rows, r.length ≤ 1000) → acc.length + 2 * rows.length ≤ 1000000 →
    ∃ C', forL (gNm 4) (b__law_figure_rows_1 call) (rows.map iT) [some (.d A), some (.d B), some (.d (.bl u)), some (.d (.lv (acc.map iT))), C, none] h = .ok .nx [some (.d A), some (.d B), some (.d (.bl u)), some (.d (.lv ((acc ++ extR rows u).map iT))), C', none] h
  | [], acc, C, E, _, _ => ⟨C, by simp [forL, extR]⟩
  | r :: rows, acc, C, E, hr, hz => by
    rw [List.length_cons] at hz
    obtain ⟨C', ih⟩ := l_fr1 call A B u h rows (acc ++ (if u = true then [0, 1] else [0]).map fun g => r ++ [g]) (some (.d (iT r))) E (fun x hx => hr x (List.mem_cons_of_mem _ hx)) (by
      rw [List.length_append, List.length_map]
      have : (if u = true then [0, 1] else [0] : List Int).length ≤ 2 := by cases u <;> simp
      omega)
    refine ⟨C', ?_⟩
    have z1 : r.length + 1 ≤ sizeLine := les (by have := hr r List.mem_cons_self; omega)
    have z2 : ∀ k, k ≤ 2 → acc.length + k ≤ sizeLine := fun k hk => les (by omega)
    have ex : acc ++ extR (r :: rows) u = (acc ++ (if u = true then [0, 1] else [0]).map fun g => r ++ [g]) ++ extR rows u := by
      unfold extR
      rw [List.flatMap_cons, List.append_assoc]
    rw [ex, ← ih]
    have c := cmpL_all (vs := [5]) (g := gNm 5) (f := eBin oAdd (eVar 4) (eTup (aCons (eVar 5) aNil))) (σ := [some (.d A), some (.d B), some (.d (.bl u)), some (.d (.lv (acc.map iT))), some (.d (iT r)), none]) (h := h) D.int (fun g => iT (r ++ [g])) (if u = true then [0, 1] else [0]) (lts (by cases u <;> simp)) fun g _ h1 => ⟨_, rfl, by simp [wipeL, iT, z1]⟩
    cases u with
    | true =>
      simp only [if_true, List.map_cons, List.map_nil] at c
      simp [forL, c, z2]
    | false =>
      simp only [Bool.false_eq_true, if_false, List.map_cons, List.map_nil] at c
      simp [forL, c, z2]
theorem l_fr2 (call : CallT) (A : D) (h : Hs) : ∀ (us : List Bool) (done : List Bool) (C E F : Option Vl), done.length + us.length ≤ 10 →
    ∃ C' E' F', forL (gNm 2) (b__law_figure_rows_2 call) (us.map D.bl) [some (.d A), some (.d (.lv ((figR done).map iT))), C, E, F, none] h = .ok .nx [some (.d A), some (.d (.lv ((figR (done ++ us)).map iT))), C', E', F', none] h
  | [], done, C, E, F, _ => ⟨C, E, F, by simp [forL]⟩
  | u :: us, done, C, E, F, hz => by
    rw [List.length_cons] at hz
    have ln : done.length ≤ 10 := by omega
    have fl := fig_lt ln
    obtain ⟨G, q⟩ := l_fr1 call A (.lv ((figR done).map iT)) u h (figR done) [] F none (fun r hr => by rw [fig_ln done r hr]; omega) (by rw [List.length_nil]; omega)
    obtain ⟨C', E', F', ih⟩ := l_fr2 call A h us (done ++ [u]) (some (.d (.bl u))) (some (.d (.lv ((figR (done ++ [u])).map iT)))) (clr1 h.length G) (by rw [List.length_append, List.length_singleton]; omega)
    refine ⟨C', E', F', ?_⟩
    rw [fig_snoc] at ih
    rw [show done ++ u :: us = done ++ [u] ++ us by simp]
    simp only [List.map_nil, List.nil_append] at q
    simp [forL, q, ih]
theorem e_frows (n : Nat) {v : Nat} {L : List Fm} (s : Sy v L) (h : Hs) : callF defs (n + 2) 21 [.d (.lv (L.map fmD))] h = .ok (.d (.lv ((figR (usL L)).map iT))) h := by
  rw [callF_at (md := ⟨1, 6, false, m__law_figure_rows⟩) rfl rfl]
  have eu := e_used n s h
  obtain ⟨C', E', F', q⟩ := l_fr2 (callF defs (n + 1)) (.lv (L.map fmD)) h (usL L) [] none none none (by rw [List.length_nil, usL_len]; have := s.v.1; omega)
  have e0 : (figR []).map iT = [.tup []] := rfl
  rw [e0, List.nil_append] at q
  simp [startL, eu, q]
/-! ### the turns -/
def prD (p : List Int × List Int) : D := .tup [iT p.1, iT p.2]
def turns (L : List Fm) (cs : List Int) : List (List Int × List Int) := (figR (usL L)).filterMap fun g => (turn cs (sumsD L g)).map fun r => (g, r)
theorem turns_map (L : List Fm) (cs : List Int) (gs : List (List Int)) :
    ((gs.map fun g => (g, turn cs (sumsD L g))).filter fun p => p.2.isSome).map (fun p => D.tup [iT p.1, optT p.2]) = (gs.filterMap fun g => (turn cs (sumsD L g)).map fun r => (g, r)).map prD := by
  induction gs with
  | nil => rfl
  | cons g gs ih =>
    rw [List.map_cons, List.filter_cons, List.filterMap_cons]
    cases turn cs (sumsD L g) with
    | none => simpa using ih
    | some r => simpa [prD, optT] using ih
theorem e_turns (n : Nat) {v : Nat} {L : List Fm} (s : Sy v L) (cs : List Int) (hz : cs.length ≤ 1000000) (h : Hs) : callF defs (n + 3) 23 [.d (.lv (L.map fmD)), .d (iT cs)] h = .ok (.d (.lv ((turns L cs).map prD))) h := by
  rw [callF_at (md := ⟨2, 5, false, m__law_turns⟩) rfl rfl]
  have ef := e_frows n s h
  have fl := fig_lt (us := usL L) (by rw [usL_len]; exact s.v.1)
  have c1 := cmpL_all (vs := [3]) (g := gNm 3) (f := eTup (aCons (eVar 3) (aCons (eCl (callF defs (n + 2)) 22 [] (aCons (eVar 0) (aCons (eVar 1) (aCons (eVar 3) aNil)))) aNil))) (σ := [some (.d (.lv (L.map fmD))), some (.d (iT cs)), none, none, none]) (h := h)
    iT (fun g => .tup [iT g, optT (turn cs (sumsD L g))]) (figR (usL L)) (lts (by omega)) fun g hg h1 => ⟨_, rfl, by
      have := e_next n L cs g h1 s.sm (Bit.of hg) hz
      simp [wipeL, this]⟩
  have c2 := cmpL_on (vs := [4]) (g := gNm 4) (t := tBl (eBin oNotN (eBin oIx (eVar 4) (eK (.int 1))) (eK .non))) (f := eVar 4) (σ := [some (.d (.lv (L.map fmD))), some (.d (iT cs)), some (.d (.lv ((figR (usL L)).map fun g => .tup [iT g, optT (turn cs (sumsD L g))]))), none, none]) (h := h)
    (fun p : List Int × Option (List Int) => .tup [iT p.1, optT p.2]) (fun p => p.2.isSome) (fun p => .tup [iT p.1, optT p.2]) ((figR (usL L)).map fun g => (g, turn cs (sumsD L g))) [] (by rw [List.length_nil, Nat.zero_add, List.length_map]; exact lts (by omega)) fun p hp h1 => ⟨_, rfl, by
      have x1 : ∀ a b : D, L2.atI [a, b] 1 = some b := fun _ _ => rfl
      cases e : p.2 with
      | none => simp [wipeL, x1, e, optT]
      | some r => simp [wipeL, x1, e, optT, iT, isNon], fun _ => by simp [wipeL]⟩
  rw [List.nil_append, turns_map, List.map_map] at c2
  have c3 : cmpL [4] (gNm 4) (tBl (eBin oNotN (eBin oIx (eVar 4) (eK (.int 1))) (eK .non))) (eVar 4) h.length ((figR (usL L)).map fun g => .tup [iT g, optT (turn cs (sumsD L g))]) [some (.d (.lv (L.map fmD))), some (.d (iT cs)), some (.d (.lv ((figR (usL L)).map fun g => .tup [iT g, optT (turn cs (sumsD L g))]))), none, none] (h ++ [.lst []]) = some (h ++ [.lst ((turns L cs).map prD)]) := c2
  generalize hG : ((figR (usL L)).map fun g => D.tup [iT g, optT (turn cs (sumsD L g))]) = G at *
  simp [startL, ef, c1, c3]
end K28

namespace K28
open PySem PySem.Spec Mi
/-! ### the listed rows -/
section
variable {κ : Type} [DecidableEq κ]
theorem val_app {kvs : List (κ × D)} {k k' : κ} {v : D} : valD (kvs ++ [(k, v)]) k' = match valD kvs k' with
    | some d => some d
    | none => if k = k' then some v else none := by
  unfold valD
  rw [List.find?_append]
  cases e : kvs.find? (fun kv => decide (kv.1 = k')) with
  | some x => rfl
  | none =>
    by_cases q : k = k'
    · simp [q]
    · simp [q]
theorem val_upd {k k' : κ} {v : D} : ∀ {kvs : List (κ × D)}, valD (kvs.map fun kv => if kv.1 = k then (kv.1, v) else kv) k' = if k = k' then (valD kvs k').map (fun _ => v) else valD kvs k'
  | [] => by simp [valD]
  | (j, d) :: kvs => by
    have ih := val_upd (k := k) (k' := k') (v := v) (kvs := kvs)
    unfold valD at ih ⊢
    rw [List.map_cons, List.find?_cons, List.find?_cons]
    by_cases q : j = k
    · subst q
      by_cases q2 : j = k'
      · subst q2; simp
      · simp only [if_true, eq_self, decide_eq_false q2, if_neg q2] at ih ⊢; exact ih
    · rw [if_neg q]
      by_cases q2 : j = k'
      · subst q2
        simp [Ne.symm q]
      · simp only [decide_eq_false q2]; exact ih
theorem any_val {k : κ} : ∀ {kvs : List (κ × D)}, (kvs.any fun kv => decide (kv.1 = k)) = (valD kvs k).isSome
  | [] => rfl
  | (j, d) :: kvs => by
    have ih := any_val (k := k) (kvs := kvs)
    unfold valD at ih ⊢
    rw [List.any_cons, List.find?_cons]
    by_cases q : j = k
    · simp [q]
    · simp only [decide_eq_false q, Bool.false_or]; exact ih
theorem val_put {kvs : List (κ × D)} {k k' : κ} {v : D} : (valD (putD kvs k v) k').isSome = (decide (k = k') || (valD kvs k').isSome) := by
  unfold putD
  rw [any_val]
  by_cases h : (valD kvs k).isSome = true
  · rw [if_pos h, val_upd]
    by_cases q : k = k'
    · subst q; rw [if_pos rfl, Option.isSome_map, h]; simp
    · rw [if_neg q, decide_eq_false q]; rfl
  · rw [if_neg h, val_app]
    by_cases q : k = k'
    · subst q
      cases e : valD kvs k with
      | none => simp
      | some d => simp
    · rw [decide_eq_false q]
      cases e : valD kvs k' with
      | none => simp [q]
      | some d => simp
theorem put_len (kvs : List (κ × D)) (k : κ) (v : D) : (putD kvs k v).length ≤ kvs.length + 1 := by
  unfold putD
  split
  · rw [List.length_map]; omega
  · rw [List.length_append]; exact Nat.le_refl _
end
def kT (r : List Int) : List L2.Key := r.map Sum.inl
theorem kT_inj {a b : List Int} (h : kT a = kT b) : a = b := List.map_inj_right (fun _ _ e => Sum.inl.inj e) |>.mp h
theorem keys_int : ∀ r : List Int, keysK (r.map D.int) = some (kT r)
  | [] => rfl
  | i :: r => by
    have ih := keys_int r
    rw [List.map_cons, keysK, ih]; rfl
@[simp] theorem key_iT (r : List Int) : keyT (iT r) = some (kT r) := keys_int r
/-- the dict holds just these rows -/
structure Lst (P : List (List Int)) (kvs : List (List L2.Key × D)) : Prop where
  mem : ∀ r, (valD kvs (kT r)).isSome = decide (r ∈ P)
  len : kvs.length ≤ P.length
theorem Lst.nil : Lst [] [] := ⟨fun r => by simp [valD], Nat.le_refl _⟩
theorem Lst.put {P : List (List Int)} {kvs : List (List L2.Key × D)} (l : Lst P kvs) (r : List Int) (v : D) : Lst (P ++ [r]) (putD kvs (kT r) v) := ⟨fun q => by
    rw [val_put, l.mem]
    by_cases e : r = q
    · subst e; simp
    · have : ¬ kT r = kT q := fun z => e (kT_inj z)
      simp [this, Ne.symm e, e], by
    rw [List.length_append, List.length_singleton]
    exact Nat.le_trans (put_len _ _ _) (Nat.succ_le_succ l.len)⟩
theorem d_in {P : List (List Int)} {kvs : List (List L2.Key × D)} (l : Lst P kvs) (neg : Bool) (r : List Int) {h : Hs} {k : Nat} (e : h[k]? = some (.dt kvs)) : oDIn neg (.d (iT r)) (.r k) h = some (.d (.bl (if neg = true then !decide (r ∈ P) else decide (r ∈ P))), h) := by
  unfold oDIn dGet
  simp only [e, key_iT, Option.map_some, l.mem]
theorem d_put {P : List (List Int)} {kvs : List (List L2.Key × D)} (l : Lst P kvs) (hP : P.length ≤ 1000000) (r : List Int) (v : D) {h : Hs} {k : Nat} (e : h[k]? = some (.dt kvs)) : dPut (.r k) (.d (iT r)) v h = some (h.set k (.dt (putD kvs (kT r) v))) := by
  unfold dPut
  have z : kvs.length < sizeLine := lts (Nat.le_trans l.len hP)
  simp only [e, key_iT, Option.bind_some, if_pos z]
@[simp] theorem ap_sdp {σ : Lo} {h : Hs} (f g v : SemE) : sDp f g v σ h = sb (v σ h) σ fun y h1 => match toD y h1 with
  | none => .bad
  | some (d, h2) => sb (f σ h2) σ fun x h3 => sb (g σ h3) σ fun k h4 => match dPut x k d h4 with
    | some h5 => .ok .nx σ h5
    | none => .bad := rfl
@[simp] theorem ap_dt0 {σ : Lo} {h : Hs} : eDt0 σ h = .ok (.r h.length) (h ++ [.dt []]) := rfl
/-- a row of the right length -/
theorem s_listed (n : Nat) {b : Bool} {L : List Fm} (r : List Int × Bool) (hr : r.1.length = L.length) (hL : L.length ≤ 100) (h : Hs) {P : List (List Int)} {kvs : List (List L2.Key × D)} (l : Lst P kvs) (hP : P.length ≤ 1000000) (car : D) (k : Nat) :
    b_judge_carries_1 (callF defs (n + 1)) [some (.d (box b (L.map fmD))), some (.d car), some (.r h.length), some (.d (.int (k : Nat))), some (.d (rwD r)), none, none, none, none, none] (h ++ [.dt kvs]) =
      .ok .nx [some (.d (box b (L.map fmD))), some (.d car), some (.r h.length), some (.d (.int (k : Nat))), some (.d (rwD r)), none, none, none, none, none] (h ++ [.dt (putD kvs (kT r.1) (.bl true))]) := by
  unfold rwD
  have e1 := e_seq n r.2 (r.1.map D.int) (h ++ [.dt kvs])
  have c := cmpL_on (vs := [9]) (g := gNm 9) (t := tNo (tTru (eCl (callF defs (n + 1)) 0 [] (aCons (eVar 9) aNil)))) (f := eVar 9) (σ := [some (.d (box b (L.map fmD))), some (.d car), some (.r h.length), some (.d (.int (k : Nat))), some (.d (box r.2 (r.1.map D.int))), none, none, none, none, none]) (h := h ++ [.dt kvs])
    D.int (fun _ => false) D.int r.1 [] (by rw [List.length_nil, Nat.zero_add]; exact lts (by omega)) fun i _ h' => ⟨_, rfl, by simp [wipeL, e_whole], fun q => nomatch q⟩
  rw [List.filter_eq_nil_iff.mpr (fun _ _ => by simp), List.nil_append, List.map_nil] at c
  have p := fun v => d_put l hP r.1 v (h := h ++ [.dt kvs]) (k := h.length) (by simp)
  unfold iT at p
  have hr' : ((r.1.length : Nat) : Int) = ((L.length : Nat) : Int) := by rw [hr]
  have le := lc_end (h ++ [.dt kvs]) []
  rw [List.length_append, List.length_singleton] at c le
  simp only [List.append_assoc, List.cons_append, List.nil_append] at c le
  simp [e1, hr', c, le, p]
end K28

namespace K28
open PySem PySem.Spec Mi
/-! ### what judge_carries answers -/
def zeroAt : Nat → List (List Int) → Option Nat
  | _, [] => none
  | k, r :: R => if r.all (· == 0) = true then some k else zeroAt (k + 1) R
def isOpen (P : List (List Int)) (L : List Fm) (row g : List Int) : Bool := match turn row (sumsD L g) with
  | some r => !decide (r ∈ P)
  | none => false
def openR (P : List (List Int)) (L : List Fm) : Nat → List (List Int) → Option (Nat × List Int)
  | _, [] => none
  | k, r :: R => match (figR (usL L)).find? (isOpen P L r) with
    | some g => some (k, g)
    | none => openR P L (k + 1) R
def fault (L : List Fm) (R : List (List Int)) : D := if L.map (fun x => x.1.1) ∈ R then (match zeroAt 0 R with
  | some i => .tup [.str "zero", .int (i : Nat)]
  | none => match openR R L 0 R with
    | some (i, g) => .tup [.str "open", .int (i : Nat), iT g]
    | none => .non) else .tup [.str "start"]
section
variable {b : Bool} {L : List Fm} {car : D} {h : Hs}
theorem l_list (n : Nat) (hL : L.length ≤ 100) : ∀ (R : List (List Int × Bool)) (k : Nat) (P : List (List Int)) (kvs : List (List L2.Key × D)) (A B : Option Vl), (∀ r ∈ R, r.1.length = L.length) → Lst P kvs → P.length + R.length ≤ 1000000 →
    ∃ A' B' kvs', Lst (P ++ R.map (·.1)) kvs' ∧ ∀ ds, forL (gTp 2 (gCo (gNm 3) (gCo (gNm 4) gNi))) (b_judge_carries_1 (callF defs (n + 1))) (enumK k (R.map rwD) ++ ds) [some (.d (box b (L.map fmD))), some (.d car), some (.r h.length), A, B, none, none, none, none, none] (h ++ [.dt kvs]) =
      forL (gTp 2 (gCo (gNm 3) (gCo (gNm 4) gNi))) (b_judge_carries_1 (callF defs (n + 1))) ds [some (.d (box b (L.map fmD))), some (.d car), some (.r h.length), A', B', none, none, none, none, none] (h ++ [.dt kvs'])
  | [], k, P, kvs, A, B, _, l, _ => ⟨A, B, kvs, by simpa using l, fun ds => by simp [enumK]⟩
  | r :: R, k, P, kvs, A, B, hr, l, hz => by
    rw [List.length_cons] at hz
    have q := s_listed n (b := b) r (hr r List.mem_cons_self) hL h l (by omega) car k
    obtain ⟨A', B', kvs', l', ih⟩ := l_list n hL R (k + 1) (P ++ [r.1]) (putD kvs (kT r.1) (.bl true)) (some (.d (.int (k : Nat)))) (some (.d (rwD r))) (fun x hx => hr x (List.mem_cons_of_mem _ hx)) (l.put r.1 _) (by rw [List.length_append, List.length_singleton]; omega)
    refine ⟨A', B', kvs', by simpa using l', fun ds => ?_⟩
    rw [← ih ds]
    simp only [List.map_cons, enumK, List.cons_append]
    rw [forL]
    simp only [ap_gtp, ap_gco, ap_gnm, ap_gni, Option.bind_some, List.length_cons, List.length_nil, if_true, List.set_cons_succ, List.set_cons_zero]
    rw [q]
    simp
theorem l_zero (n : Nat) (kvs : List (List L2.Key × D)) : ∀ (R : List (List Int × Bool)) (k : Nat) (A B : Option Vl), (∀ r ∈ R, r.1.length ≤ 100) →
    match zeroAt k (R.map (·.1)) with
    | some i => ∃ σ' h', forL (gTp 2 (gCo (gNm 3) (gCo (gNm 4) gNi))) (b_judge_carries_2 (callF defs (n + 1))) (enumK k (R.map rwD)) [some (.d (box b (L.map fmD))), some (.d car), some (.r h.length), A, B, none, none, none, none, none] (h ++ [.dt kvs]) = .ok (.ret (.d (.tup [.str "zero", .int (i : Nat)]))) σ' h' ∧ h'.take h.length = h
    | none => ∃ A' B', forL (gTp 2 (gCo (gNm 3) (gCo (gNm 4) gNi))) (b_judge_carries_2 (callF defs (n + 1))) (enumK k (R.map rwD)) [some (.d (box b (L.map fmD))), some (.d car), some (.r h.length), A, B, none, none, none, none, none] (h ++ [.dt kvs]) = .ok .nx [some (.d (box b (L.map fmD))), some (.d car), some (.r h.length), A', B', none, none, none, none, none] (h ++ [.dt kvs])
  | [], k, A, B, _ => ⟨A, B, by simp [enumK, forL]⟩
  | r :: R, k, A, B, hr => by
    have e := e_zero n r (h ++ [.dt kvs]) (lts (by have := hr r List.mem_cons_self; omega))
    rw [List.map_cons]
    unfold zeroAt
    cases q : r.1.all (· == 0) with
    | true =>
      rw [q] at e
      rw [if_pos rfl]
      exact ⟨_, _, by simp [enumK, forL, e]; exact ⟨rfl, rfl⟩, by simp⟩
    | false =>
      rw [q] at e
      rw [if_neg Bool.false_ne_true]
      have ih := l_zero n kvs R (k + 1) (some (.d (.int (k : Nat)))) (some (.d (rwD r))) fun x hx => hr x (List.mem_cons_of_mem _ hx)
      cases z : zeroAt (k + 1) (R.map (·.1)) with
      | some i =>
        rw [z] at ih
        obtain ⟨σ', h', ih, t⟩ := ih
        exact ⟨σ', h', by simp [enumK, forL, e, ih], t⟩
      | none =>
        rw [z] at ih
        obtain ⟨A', B', ih⟩ := ih
        exact ⟨A', B', by simp [enumK, forL, e, ih]⟩
def sgD (L : List Fm) (g : List Int) : D := .tup [iT g, iT (sumsD L g)]
theorem l_open1 (n : Nat) {P : List (List Int)} {kvs : List (List L2.Key × D)} (l : Lst P kvs) (r : List Int × Bool) (hr : r.1.length ≤ 100) (k : Nat) (S : D) : ∀ (gs : List (List Int)) (A B C : Option Vl),
    match gs.find? (isOpen P L r.1) with
    | some g => ∃ σ' h', forL (gTp 2 (gCo (gNm 6) (gCo (gNm 7) gNi))) (b_judge_carries_3 (callF defs (n + 1))) (gs.map (sgD L)) [some (.d (box b (L.map fmD))), some (.d car), some (.r h.length), some (.d (.int (k : Nat))), some (.d (rwD r)), some (.d S), A, B, C, none] (h ++ [.dt kvs]) = .ok (.ret (.d (.tup [.str "open", .int (k : Nat), iT g]))) σ' h' ∧ h'.take h.length = h
    | none => ∃ A' B' C', forL (gTp 2 (gCo (gNm 6) (gCo (gNm 7) gNi))) (b_judge_carries_3 (callF defs (n + 1))) (gs.map (sgD L)) [some (.d (box b (L.map fmD))), some (.d car), some (.r h.length), some (.d (.int (k : Nat))), some (.d (rwD r)), some (.d S), A, B, C, none] (h ++ [.dt kvs]) = .ok .nx [some (.d (box b (L.map fmD))), some (.d car), some (.r h.length), some (.d (.int (k : Nat))), some (.d (rwD r)), some (.d S), A', B', C', none] (h ++ [.dt kvs])
  | [], A, B, C => ⟨A, B, C, by simp [forL]⟩
  | g :: gs, A, B, C => by
    have e : callF defs (n + 1) 8 [.d (rwD r), .d (iT (sumsD L g))] (h ++ [.dt kvs]) = .ok (.d (optT (turn r.1 (sumsD L g)))) (h ++ [.dt kvs]) := by
      unfold rwD
      exact e_turned n r.2 r.1 (sumsD L g) _ (by omega)
    have ih := l_open1 n l r hr k S gs (some (.d (iT g))) (some (.d (iT (sumsD L g)))) (some (.d (optT (turn r.1 (sumsD L g)))))
    have hd := fun x => d_in l true x (h := h ++ [.dt kvs]) (k := h.length) (by simp)
    rw [List.find?_cons]
    cases q : turn r.1 (sumsD L g) with
    | none =>
      have eo : isOpen P L r.1 g = false := by unfold isOpen; rw [q]
      rw [q] at e ih
      rw [eo]
      dsimp only
      cases z : gs.find? (isOpen P L r.1) with
      | some g' =>
        rw [z] at ih
        obtain ⟨σ', h', ih, t⟩ := ih
        exact ⟨σ', h', by simp only [optT] at e ih; simp [forL, sgD, e, ih], t⟩
      | none =>
        rw [z] at ih
        obtain ⟨A', B', C', ih⟩ := ih
        exact ⟨A', B', C', by simp only [optT] at e ih; simp [forL, sgD, e, ih]⟩
    | some x =>
      have eo : isOpen P L r.1 g = !decide (x ∈ P) := by unfold isOpen; rw [q]
      rw [q] at e ih
      rw [eo]
      have hx := hd x
      have inn : isNon (.d (iT x)) = false := rfl
      simp only [optT] at e ih
      rw [if_pos rfl] at hx
      by_cases m : x ∈ P
      · rw [decide_eq_true m] at hx ⊢
        simp only [Bool.not_true] at hx ⊢
        cases z : gs.find? (isOpen P L r.1) with
        | some g' =>
          rw [z] at ih
          obtain ⟨σ', h', ih, t⟩ := ih
          exact ⟨σ', h', by simp [forL, sgD, e, hx, inn, ih], t⟩
        | none =>
          rw [z] at ih
          obtain ⟨A', B', C', ih⟩ := ih
          exact ⟨A', B', C', by simp [forL, sgD, e, hx, inn, ih]⟩
      · rw [decide_eq_false m] at hx ⊢
        simp only [Bool.not_false] at hx ⊢
        exact ⟨_, _, by simp [forL, sgD, e, hx, inn]; exact ⟨rfl, rfl⟩, by simp⟩
theorem l_open2 (n : Nat) {P : List (List Int)} {kvs : List (List L2.Key × D)} (l : Lst P kvs) : ∀ (R : List (List Int × Bool)) (k : Nat) (A B C E F : Option Vl), (∀ r ∈ R, r.1.length ≤ 100) →
    match openR P L k (R.map (·.1)) with
    | some (i, g) => ∃ σ' h', forL (gTp 2 (gCo (gNm 3) (gCo (gNm 4) gNi))) (b_judge_carries_4 (callF defs (n + 1))) (enumK k (R.map rwD)) [some (.d (box b (L.map fmD))), some (.d car), some (.r h.length), A, B, some (.d (.lv ((figR (usL L)).map (sgD L)))), C, E, F, none] (h ++ [.dt kvs]) = .ok (.ret (.d (.tup [.str "open", .int (i : Nat), iT g]))) σ' h' ∧ h'.take h.length = h
    | none => ∃ σ', forL (gTp 2 (gCo (gNm 3) (gCo (gNm 4) gNi))) (b_judge_carries_4 (callF defs (n + 1))) (enumK k (R.map rwD)) [some (.d (box b (L.map fmD))), some (.d car), some (.r h.length), A, B, some (.d (.lv ((figR (usL L)).map (sgD L)))), C, E, F, none] (h ++ [.dt kvs]) = .ok .nx σ' (h ++ [.dt kvs])
  | [], k, A, B, C, E, F, _ => ⟨_, rfl⟩
  | r :: R, k, A, B, C, E, F, hr => by
    have q := l_open1 (b := b) (L := L) (car := car) (h := h) n l r (hr r List.mem_cons_self) k (.lv ((figR (usL L)).map (sgD L))) (figR (usL L)) C E F
    rw [List.map_cons]
    unfold openR
    cases z : (figR (usL L)).find? (isOpen P L r.1) with
    | some g =>
      rw [z] at q
      obtain ⟨σ', h', q, t⟩ := q
      exact ⟨σ', h', by simp [enumK, forL, q], t⟩
    | none =>
      rw [z] at q
      obtain ⟨C', E', F', q⟩ := q
      have ih := l_open2 n l R (k + 1) (some (.d (.int (k : Nat)))) (some (.d (rwD r))) (clr1 (h.length + 1) C') (clr1 (h.length + 1) E') (clr1 (h.length + 1) F') fun x hx => hr x (List.mem_cons_of_mem _ hx)
      dsimp only
      cases z2 : openR P L (k + 1) (R.map (·.1)) with
      | some p =>
        obtain ⟨i, g⟩ := p
        rw [z2] at ih
        obtain ⟨σ', h', ih, t⟩ := ih
        exact ⟨σ', h', by simp [enumK, forL, q, ih], t⟩
      | none =>
        rw [z2] at ih
        obtain ⟨σ', ih⟩ := ih
        exact ⟨σ', by simp [enumK, forL, q, ih]⟩
end
end K28

namespace K28
open PySem PySem.Spec Mi
abbrev crD (d : D) : D := .ins 3 [(1, d)]
theorem sums_eq (L : List Fm) : ((figR (usL L)).map fun g => D.tup [iT g, iT (sumsD L g)]) = (figR (usL L)).map (sgD L) := rfl
theorem e_judge (n : Nat) {v : Nat} {b : Bool} {L : List Fm} (s : Sy v L) (c : Bool) (R : List (List Int × Bool)) (hR : ∀ r ∈ R, r.1.length = L.length) (hz : R.length ≤ 1000000) (h : Hs) :
    callF defs (n + 3) 11 [.d (box b (L.map fmD)), .d (crD (box c (R.map rwD)))] h = .ok (.d (fault L (R.map (·.1)))) h := by
  rw [callF_at (md := ⟨2, 10, false, m_judge_carries⟩) rfl rfl]
  have hL := s.ln
  have e1 := e_seq (n + 1) c (R.map rwD) h
  obtain ⟨A, B, kvs, l, q1⟩ := l_list (b := b) (L := L) (car := crD (box c (R.map rwD))) (h := h) (n + 1) hL R 0 [] [] none none hR .nil (by simpa using hz)
  have q1 := q1 []
  rw [List.append_nil, forL, List.nil_append] at *
  have e2 := e_start (n + 1) b L (h ++ [.dt kvs]) (lts (by omega))
  have d := d_in l true (L.map fun x => x.1.1) (h := h ++ [.dt kvs]) (k := h.length) (by simp)
  rw [if_pos rfl] at d
  have q2 := l_zero (b := b) (L := L) (car := crD (box c (R.map rwD))) (h := h) (n + 1) kvs R 0 A B fun r hr => by rw [hR r hr]; exact hL
  have e3 := e_figs n (b := b) s (h ++ [.dt kvs])
  rw [sums_eq] at e3
  have lk : List.lookup 0 [(0, box c (R.map rwD))] = some (box c (R.map rwD)) := rfl
  have ok0 : ok_rows 3 = true := rfl
  unfold fault
  by_cases m : (L.map fun x => x.1.1) ∈ R.map (·.1)
  · rw [if_pos m]
    rw [decide_eq_true m] at d
    cases z : zeroAt 0 (R.map (·.1)) with
    | some i =>
      rw [z] at q2
      obtain ⟨σ', h', q2, t⟩ := q2
      simp [startL, crD, ok0, e1, enumD_K, q1, e2, d, q2, t]
    | none =>
      rw [z] at q2
      obtain ⟨A', B', q2⟩ := q2
      have q3 := l_open2 (b := b) (L := L) (car := crD (box c (R.map rwD))) (h := h) (n + 1) l R 0 A' B' none none none fun r hr => by rw [hR r hr]; exact hL
      dsimp only
      cases z2 : openR (R.map (·.1)) L 0 (R.map (·.1)) with
      | some p =>
        obtain ⟨i, g⟩ := p
        rw [z2] at q3
        obtain ⟨σ', h', q3, t⟩ := q3
        simp [startL, crD, ok0, e1, enumD_K, q1, e2, d, q2, e3, q3, t]
      | none =>
        rw [z2] at q3
        obtain ⟨σ', q3⟩ := q3
        simp [startL, crD, ok0, e1, enumD_K, q1, e2, d, q2, e3, q3]
  · rw [if_neg m]
    rw [decide_eq_false m] at d
    simp [startL, crD, ok0, e1, enumD_K, q1, e2, d]
end K28

namespace K28
open PySem PySem.Spec Mi
theorem eqv_T (a b : List Int) : PyData.eqv (iT a).pd (iT b).pd = decide (a = b) := by
  simp only [iT, D.pd, PyData.eqv, eqv_iT]
theorem any_T (R : List (List Int)) (r : List Int) : ((R.map iT).any fun z => PyData.eqv z.pd (iT r).pd) = decide (r ∈ R) := by
  induction R with
  | nil => simp
  | cons x R ih =>
    rw [List.map_cons, List.any_cons, ih, eqv_T]
    by_cases e : x = r
    · subst e; simp
    · simp [e, Ne.symm e]
theorem shp_T (r : List Int) : shp (iT r) = true := (sm_iT r).shp (by omega)
theorem shp_R (R : List (List Int)) : shp (.lv (R.map iT)) = true := Sm.shp (n := 2) (d := .lv (R.map iT)) (sm_map sm_iT R) (by omega)
theorem o_inT (r : List Int) (R : List (List Int)) (h : Hs) : oIn (.d (iT r)) (.d (.lv (R.map iT))) h = some (.d (.bl (decide (r ∈ R))), h) := by
  have e : inO (.d (iT r)) (.d (.lv (R.map iT))) h = some (decide (r ∈ R)) := by
    show (if (shp (iT r) && shp (.lv (R.map iT))) = true then some ((R.map iT).any fun z => PyData.eqv z.pd (iT r).pd) else none) = _
    rw [shp_T, shp_R, any_T]; rfl
  unfold oIn
  rw [e]; rfl
theorem o_ninT (r : List Int) (R : List (List Int)) (h : Hs) : oNotIn (.d (iT r)) (.d (.lv (R.map iT))) h = some (.d (.bl (!decide (r ∈ R))), h) := by
  have e : inO (.d (iT r)) (.d (.lv (R.map iT))) h = some (decide (r ∈ R)) := by
    show (if (shp (iT r) && shp (.lv (R.map iT))) = true then some ((R.map iT).any fun z => PyData.eqv z.pd (iT r).pd) else none) = _
    rw [shp_T, shp_R, any_T]; rfl
  unfold oNotIn
  rw [e]; rfl
theorem all_zero {r : List Int} {n : Nat} (h : r.length = n) : r.all (· == 0) = decide (r = List.replicate n 0) := by
  by_cases e : r = List.replicate n 0
  · rw [decide_eq_true e, e, List.all_eq_true]
    intro x hx
    rw [(List.mem_replicate.mp hx).2]; rfl
  · rw [decide_eq_false e, Bool.eq_false_iff]
    intro z
    refine e (List.eq_replicate_iff.mpr ⟨h, fun x hx => ?_⟩)
    have := List.all_eq_true.mp z x hx
    simpa using this
theorem zero_ix {n : Nat} : ∀ (R : List (List Int)) (k : Nat), (∀ r ∈ R, r.length = n) → zeroAt k R = (fIx (fun z => PyData.eqv z.pd (iT (List.replicate n 0)).pd) (R.map iT)).map (k + ·) ∧ ((fIx (fun z => PyData.eqv z.pd (iT (List.replicate n 0)).pd) (R.map iT)).isSome = decide (List.replicate n 0 ∈ R))
  | [], k, _ => ⟨rfl, by simp [fIx]⟩
  | r :: R, k, h => by
    obtain ⟨i1, i2⟩ := zero_ix R (k + 1) fun x hx => h x (List.mem_cons_of_mem _ hx)
    rw [List.map_cons]
    unfold zeroAt fIx
    rw [eqv_T, all_zero (h r List.mem_cons_self)]
    by_cases e : r = List.replicate n 0
    · rw [decide_eq_true e, if_pos rfl, if_pos rfl]
      exact ⟨rfl, by rw [e]; simp⟩
    · rw [decide_eq_false e, if_neg Bool.false_ne_true, if_neg Bool.false_ne_true, i1]
      refine ⟨?_, ?_⟩
      · rw [Option.map_map]
        congr 1
        funext x
        show k + 1 + x = k + (x + 1)
        omega
      · rw [Option.isSome_map, i2]
        simp [Ne.symm e]
theorem rep_zero (n : Nat) : (List.replicate n [D.int 0]).flatten = (List.replicate n (0 : Int)).map D.int := by
  induction n with
  | zero => rfl
  | succ n ih => rw [List.replicate_succ, List.flatten_cons, ih, List.replicate_succ]; rfl
theorem o_zeros {n : Nat} (hn : n ≤ 1000) (h : Hs) : oMulT (.d (.tup [.int 0])) (.d (.int (n : Nat))) h = some (.d (iT (List.replicate n 0)), h) := by
  unfold oMulT
  dsimp only
  rw [if_pos (by
    rw [decide_eq_true (by omega : (-1000 : Int) ≤ (n : Int)), decide_eq_true (by omega : (n : Int) ≤ 1000)]; rfl), Int.toNat_natCast, rep_zero]
  rfl
/-! ### what the law says is due -/
theorem find_turns (P : List (List Int)) (L : List Fm) (row : List Int) : (figR (usL L)).find? (isOpen P L row) = ((turns L row).find? fun p => !decide (p.2 ∈ P)).map (·.1) := by
  unfold turns
  induction figR (usL L) with
  | nil => rfl
  | cons g gs ih =>
    rw [List.find?_cons, List.filterMap_cons]
    cases q : turn row (sumsD L g) with
    | none =>
      have e : isOpen P L row g = false := by unfold isOpen; rw [q]
      rw [e]
      exact ih
    | some r =>
      have e : isOpen P L row g = !decide (r ∈ P) := by unfold isOpen; rw [q]
      rw [e]
      dsimp only [Option.map_some]
      rw [List.find?_cons]
      cases z : !decide (r ∈ P) with
      | true => rfl
      | false => exact ih
end K28

namespace K28
open PySem PySem.Spec Mi
/-! ### drawing in comprehensions -/
theorem cmpL_drawM {α β : Type} {vs : List Nat} {g : SemG} {f : SemE} {σ : Lo} (m : α → D) (m' : β → D) (π : β → α) (Qz : β → Prop) (cost : Nat) (t : Hs) : ∀ (L : List α) (k : Nat) (src : O) (acc : List D),
    (∀ x ∈ L, ∀ k src h', k + cost ≤ 900000 → Src k src → ∃ σ1 z src', (∀ h, g (.d (m x)) (wipeL σ vs) h = some (σ1, h)) ∧ π z = x ∧ Qz z ∧ Src (k + cost) src' ∧ f σ1 (src :: h') = .ok (.d (m' z)) (src' :: h')) →
    Src k src → k + cost * L.length ≤ 900000 → acc.length + L.length ≤ 100000 →
    ∃ (zs : List β) (src' : O), zs.map π = L ∧ (∀ z ∈ zs, Qz z) ∧ Src (k + cost * L.length) src' ∧ cmpL vs g tYs f (t.length + 1) (L.map m) σ (src :: (t ++ [.lst acc])) = some (src' :: (t ++ [.lst (acc ++ zs.map m')]))
  | [], k, src, acc, _, hs, _, _ => ⟨[], src, rfl, fun y hy => (by cases hy), hs.up (by simp), by simp [cmpL]⟩
  | x :: L, k, src, acc, step, hs, hK, hz => by
    rw [List.length_cons, Nat.mul_succ] at hK
    rw [List.length_cons] at hz
    obtain ⟨σ1, z, src1, e1, pz, qz, s1, e2⟩ := step x List.mem_cons_self k src (t ++ [.lst acc]) (by omega) hs
    obtain ⟨zs, src', h1, h2, h3, h4⟩ := cmpL_drawM (vs := vs) (g := g) (f := f) (σ := σ) m m' π Qz cost t L (k + cost) src1 (acc ++ [m' z]) (fun y hy => step y (List.mem_cons_of_mem _ hy)) s1 (by omega) (by rw [List.length_append, List.length_singleton]; omega)
    have ca := cmpAdd_d (h := src1 :: t) (acc := acc) (d := m' z) (lts (by omega))
    rw [List.length_cons, List.cons_append, List.cons_append] at ca
    refine ⟨z :: zs, src', by rw [List.map_cons, pz, h1], fun y hy => ?_, h3.up (by rw [List.length_cons, Nat.mul_succ]; omega), ?_⟩
    · rcases List.mem_cons.mp hy with rfl | hy
      · exact qz
      · exact h2 y hy
    · rw [List.map_cons, cmpL, e1]
      dsimp only
      rw [ap_tys]
      dsimp only
      rw [if_pos rfl, e2]
      dsimp only
      rw [ca]
      dsimp only
      rw [h4, List.append_assoc]
      rfl
theorem lc_endS (src : O) (t : Hs) (l : List D) : lcEnd false (t.length + 1) (src :: (t ++ [.lst l])) = .ok (.d (.lv l)) (src :: t) := lc_end (src :: t) l
theorem k_take (n k : Nat) (hk : k < 1000000) {src : O} (hs : Src k src) (M : Nat) (hM : 0 < M) (hM2 : M ≤ 100000) (t : Hs) : ∃ v : Nat, v < M ∧ ∃ src', Src (k + 1) src' ∧ callF defs (n + 1) 17 [.r 0, .d (.int (M : Int))] (src :: t) = .ok (.d (.int (v : Int))) (src' :: t) :=
  e_take rfl n k hk hs M hM (Nat.lt_of_le_of_lt hM2 (by decide)) t
theorem k_either (n k : Nat) (hk : k < 1000000) {src : O} (hs : Src k src) (b : Bool) (l : List D) (t : Hs) : ∃ b' : Bool, ∃ src', Src (k + 1) src' ∧ callF defs (n + 2) 26 [.r 0, .d (box b l)] (src :: t) = .ok (.d (box b' l)) (src' :: t) := by
  obtain ⟨v, hv, src', s', e⟩ := k_take n k hk hs 2 (by omega) (by omega) t
  have e' : callF defs (n + 1) 17 [.r 0, .d (.int 2)] (src :: t) = .ok (.d (.int (v : Int))) (src' :: t) := e
  rcases (by omega : v = 0 ∨ v = 1) with rfl | rfl
  · refine ⟨true, src', s', ?_⟩
    rw [callF_at (md := ⟨2, 2, false, m__law_either⟩) rfl rfl]
    simp [startL, e']
    rfl
  · refine ⟨false, src', s', ?_⟩
    rw [callF_at (md := ⟨2, 2, false, m__law_either⟩) rfl rfl]
    simp [startL, e']
    rfl
/-- the system boxed anew -/
theorem k_handed (n k : Nat) {src : O} (hs : Src k src) (L : List Fm) (hL : L.length ≤ 100) (hk : k + 300 ≤ 900000) (t : Hs) : ∃ (b : Bool) (L' : List Fm) (src' : O), L'.map (·.1) = L.map (·.1) ∧ Src (k + 300) src' ∧ callF defs (n + 3) 27 [.r 0, .d (.lv (L.map fmD))] (src :: t) = .ok (.d (box b (L'.map fmD))) (src' :: t) := by
  rw [callF_at (md := ⟨2, 3, false, m__law_handed⟩) rfl rfl]
  obtain ⟨zs, src1, z1, _, s1, c⟩ := cmpL_drawM (vs := [2]) (g := gNm 2) (f := eCl (callF defs (n + 2)) 26 [] (aCons (eVar 0) (aCons (eLv (aCons (eBin oIx (eVar 2) (eK (.int 0))) (aCons (eCl (callF defs (n + 2)) 26 [] (aCons (eVar 0) (aCons (eBin oIx (eVar 2) (eK (.int 1))) aNil))) aNil))) aNil)))
    (σ := [some (.r 0), some (.d (.lv (L.map fmD))), none]) fmD (fun z : Fm × Bool × Bool => fmD (z.1.1, z.2)) (·.1) (fun _ => True) 2 t L k src [] (fun x _ k src h' hk hs => by
      obtain ⟨b1, src1, s1, e1⟩ := k_either n k (by omega) hs x.2.2 (x.1.2.map D.int) h'
      obtain ⟨b2, src2, s2, e2⟩ := k_either n (k + 1) (by omega) s1 false [.int x.1.1, box b1 (x.1.2.map D.int)] h'
      refine ⟨_, (x, b2, b1), src2, fun h => rfl, rfl, trivial, s2, ?_⟩
      have e2' : callF defs (n + 2) 26 [.r 0, .d (.lv [.int x.1.1, box b1 (x.1.2.map D.int)])] (src1 :: h') = .ok (.d (box b2 [.int x.1.1, box b1 (x.1.2.map D.int)])) (src2 :: h') := e2
      show _ = Res.ok (Vl.d (box b2 [.int x.1.1, box b1 (x.1.2.map D.int)])) (src2 :: h')
      simp [wipeL, fm0, fm1, e1, e2']) hs (by omega) (by rw [List.length_nil]; omega)
  obtain ⟨b, src2, s2, e2⟩ := k_either n (k + 2 * L.length) (by omega) s1 false (zs.map fun z => fmD (z.1.1, z.2)) t
  have e2' : callF defs (n + 2) 26 [.r 0, .d (.lv (zs.map fun z => fmD (z.1.1, z.2)))] (src1 :: t) = _ := e2
  refine ⟨b, zs.map fun z => (z.1.1, z.2), src2, ?_, s2.up (by omega), ?_⟩
  · rw [← z1, List.map_map, List.map_map]; rfl
  · rw [List.map_map]
    rw [List.nil_append] at c
    have le := lc_endS src1 t (zs.map fun z => fmD (z.1.1, z.2))
    have ef : (zs.map (fmD ∘ fun z => (z.1.1, z.2))) = zs.map fun z => fmD (z.1.1, z.2) := rfl
    rw [ef]
    generalize (zs.map fun z => fmD (z.1.1, z.2)) = Z at *
    simp [startL, c, le, e2']
end K28

namespace K28
open PySem PySem.Spec Mi
/-! ### the same answer -/
theorem e_make (n : Nat) (d : D) (h : Hs) : mkI (callF defs (n + 1)) 14 3 [.d d] h = .ok (.d (crD d)) h := by
  unfold mkI
  rw [callF_at (md := ⟨2, 2, false, m_Carries__init_⟩) rfl rfl]
  simp [startL, ok_rows, putN]
theorem any_map1 (L : List Fm) (i : Nat) : usedAt L i = (L.map (·.1)).any fun x => !(x.2.getD i 0 == 0) := by
  unfold usedAt
  rw [List.any_map]; rfl
theorem same_us {L L' : List Fm} (e : L'.map (·.1) = L.map (·.1)) : usL L' = usL L := by
  have ev : vOf L' = vOf L := by
    unfold vOf
    have h := congrArg (fun z => z.head?.map fun x => x.2.length) e
    simp only [List.head?_map, Option.map_map] at h
    have h' : (L'.head?.map fun x => x.1.2.length) = (L.head?.map fun x => x.1.2.length) := h
    rw [h']
  unfold usL
  rw [ev]
  exact List.map_congr_left fun i _ => by rw [any_map1, any_map1, e]
theorem same_sums {L L' : List Fm} (e : L'.map (·.1) = L.map (·.1)) (g : List Int) : sumsD L' g = sumsD L g := by
  have h := congrArg (List.map fun x : Int × List Int => dotA 0 x.2 g) e
  rw [List.map_map, List.map_map] at h
  exact h
theorem same_open {L L' : List Fm} (e : L'.map (·.1) = L.map (·.1)) (P : List (List Int)) (r : List Int) : isOpen P L' r = isOpen P L r := by
  funext g
  unfold isOpen
  rw [same_sums e]
theorem same_openR {L L' : List Fm} (e : L'.map (·.1) = L.map (·.1)) (P : List (List Int)) : ∀ (R : List (List Int)) (k : Nat), openR P L' k R = openR P L k R
  | [], k => rfl
  | r :: R, k => by
    unfold openR
    rw [same_us e, same_open e, same_openR e P R (k + 1)]
theorem same_fault {L L' : List Fm} (e : L'.map (·.1) = L.map (·.1)) (R : List (List Int)) : fault L' R = fault L R := by
  have h := congrArg (List.map fun x : Int × List Int => x.1) e
  rw [List.map_map, List.map_map] at h
  have h' : (L'.map fun x => x.1.1) = (L.map fun x => x.1.1) := h
  unfold fault
  rw [h', same_openR e]
theorem same_sy {v : Nat} {L L' : List Fm} (e : L'.map (·.1) = L.map (·.1)) (s : Sy v L) : Sy v L' := by
  have mem : ∀ x ∈ L', ∃ y ∈ L, y.1 = x.1 := fun x hx => by
    have : x.1 ∈ L'.map (·.1) := List.mem_map.mpr ⟨x, hx, rfl⟩
    rw [e] at this
    obtain ⟨y, hy, q⟩ := List.mem_map.mp this
    exact ⟨y, hy, q⟩
  have ln : L'.length = L.length := by
    have := congrArg List.length e
    simpa using this
  exact ⟨by rw [ln]; exact s.ln, s.vl, fun x hx => by obtain ⟨y, hy, q⟩ := mem x hx; rw [← q]; exact s.vs y hy, fun x hx => by obtain ⟨y, hy, q⟩ := mem x hx; rw [← q]; exact s.sm y hy⟩
end K28

namespace K28
open PySem PySem.Spec Mi
/-! ### orders of lists -/
def lexB {α : Type} [DecidableEq α] (lt : α → α → Bool) : List α → List α → Bool
  | [], [] => false
  | [], _ :: _ => true
  | _ :: _, [] => false
  | a :: as, b :: bs => if a = b then lexB lt as bs else lt a b
structure STO {α : Type} (lt : α → α → Bool) : Prop where
  irr : ∀ a, lt a a = false
  tr : ∀ a b c, lt a b = true → lt b c = true → lt a c = true
  tot : ∀ a b, a ≠ b → lt a b = true ∨ lt b a = true
section
variable {α : Type} [DecidableEq α] {lt : α → α → Bool}
theorem lex_irr : ∀ a : List α, lexB lt a a = false
  | [] => rfl
  | a :: as => by unfold lexB; rw [if_pos rfl]; exact lex_irr as
theorem STO.asym (s : STO lt) {a b : α} (h : lt a b = true) : lt b a = false := by
  cases q : lt b a with
  | false => rfl
  | true => have := s.tr _ _ _ h q; rw [s.irr] at this; cases this
theorem lex_tr (s : STO lt) : ∀ a b c : List α, lexB lt a b = true → lexB lt b c = true → lexB lt a c = true
  | [], [], _, h, _ => by cases h
  | [], _ :: _, [], _, h => by cases h
  | [], _ :: _, _ :: _, _, _ => rfl
  | _ :: _, [], _, h, _ => by cases h
  | _ :: _, _ :: _, [], _, h => by cases h
  | a :: as, b :: bs, c :: cs, h1, h2 => by
    unfold lexB at h1 h2 ⊢
    by_cases e1 : a = b
    · subst e1
      rw [if_pos rfl] at h1
      by_cases e2 : a = c
      · subst e2
        rw [if_pos rfl] at h2 ⊢
        exact lex_tr s as bs cs h1 h2
      · rw [if_neg e2] at h2 ⊢
        exact h2
    · rw [if_neg e1] at h1
      by_cases e2 : b = c
      · subst e2
        rw [if_neg e1]
        exact h1
      · rw [if_neg e2] at h2
        have := s.tr _ _ _ h1 h2
        by_cases e3 : a = c
        · subst e3
          rw [s.irr] at this
          cases this
        · rw [if_neg e3]
          exact this
theorem lex_tot (s : STO lt) : ∀ a b : List α, a ≠ b → lexB lt a b = true ∨ lexB lt b a = true
  | [], [], h => absurd rfl h
  | [], _ :: _, _ => .inl rfl
  | _ :: _, [], _ => .inr rfl
  | a :: as, b :: bs, h => by
    unfold lexB
    by_cases e : a = b
    · subst e
      rw [if_pos rfl, if_pos rfl]
      exact lex_tot s as bs fun q => h (by rw [q])
    · rw [if_neg e, if_neg (Ne.symm e)]
      exact s.tot a b e
theorem lex_sto (s : STO lt) : STO (lexB lt) := ⟨lex_irr, lex_tr s, lex_tot s⟩
theorem lex_app : ∀ (a b x y : List α), a.length = b.length → lexB lt a b = true → lexB lt (a ++ x) (b ++ y) = true
  | [], [], _, _, _, h => by cases h
  | [], _ :: _, _, _, h, _ => by cases h
  | _ :: _, [], _, _, h, _ => by cases h
  | a :: as, b :: bs, x, y, hl, h => by
    rw [List.cons_append, List.cons_append]
    unfold lexB at h ⊢
    by_cases e : a = b
    · rw [if_pos e] at h ⊢
      exact lex_app as bs x y (by simpa using hl) h
    · rw [if_neg e] at h ⊢
      exact h
theorem lex_pre : ∀ (a x y : List α), lexB lt x y = true → lexB lt (a ++ x) (a ++ y) = true
  | [], _, _, h => h
  | a :: as, x, y, h => by
    rw [List.cons_append, List.cons_append]
    unfold lexB
    rw [if_pos rfl]
    exact lex_pre as x y h
end
def ltI (a b : Int) : Bool := decide (a < b)
theorem sto_int : STO ltI := ⟨fun a => by unfold ltI; exact decide_eq_false (by omega), fun a b c h1 h2 => by
  unfold ltI at *
  have := of_decide_eq_true h1
  have := of_decide_eq_true h2
  exact decide_eq_true (by omega), fun a b h => by
  unfold ltI
  rcases (by omega : a < b ∨ b < a) with q | q
  · exact .inl (decide_eq_true q)
  · exact .inr (decide_eq_true q)⟩
abbrev ltR : List Int → List Int → Bool := lexB ltI
abbrev ltW : List (List Int) → List (List Int) → Bool := lexB ltR
theorem sto_row : STO ltR := lex_sto sto_int
theorem sto_word : STO ltW := lex_sto sto_row
/-- the shorter first, then by figures -/
def sl (w u : List (List Int)) : Bool := decide (w.length < u.length) || (decide (w.length = u.length) && ltW w u)
theorem sl_iff {w u : List (List Int)} : sl w u = true ↔ (w.length < u.length ∨ (w.length = u.length ∧ ltW w u = true)) := by
  unfold sl
  simp
theorem sl_irr (a : List (List Int)) : sl a a = false := by
  cases q : sl a a with
  | false => rfl
  | true =>
    rcases sl_iff.mp q with h | ⟨_, h⟩
    · omega
    · rw [sto_word.irr] at h; cases h
theorem sl_tr (a b c : List (List Int)) (h1 : sl a b = true) (h2 : sl b c = true) : sl a c = true := by
  rw [sl_iff] at *
  rcases h1 with h1 | ⟨e1, h1⟩ <;> rcases h2 with h2 | ⟨e2, h2⟩
  · exact .inl (by omega)
  · exact .inl (by omega)
  · exact .inl (by omega)
  · exact .inr ⟨by omega, sto_word.tr _ _ _ h1 h2⟩
theorem sl_tot (a b : List (List Int)) (h : a ≠ b) : sl a b = true ∨ sl b a = true := by
  rw [sl_iff, sl_iff]
  rcases (by omega : a.length < b.length ∨ b.length < a.length ∨ a.length = b.length) with q | q | q
  · exact .inl (.inl q)
  · exact .inr (.inl q)
  · rcases sto_word.tot a b h with z | z
    · exact .inl (.inr ⟨q, z⟩)
    · exact .inr (.inr ⟨q.symm, z⟩)
theorem sto_sl : STO sl := ⟨sl_irr, sl_tr, sl_tot⟩
theorem sl_app {w u : List (List Int)} (g f : List Int) (h : sl w u = true) : sl (w ++ [g]) (u ++ [f]) = true := by
  rw [sl_iff] at *
  simp only [List.length_append, List.length_singleton]
  rcases h with h | ⟨e, h⟩
  · exact .inl (by omega)
  · exact .inr ⟨by omega, lex_app _ _ _ _ e h⟩
theorem sl_snoc {w : List (List Int)} {g f : List Int} (h : ltR g f = true) : sl (w ++ [g]) (w ++ [f]) = true := by
  rw [sl_iff]
  refine .inr ⟨by simp, lex_pre w _ _ ?_⟩
  unfold lexB
  have : g ≠ f := fun q => by rw [q, sto_row.irr] at h; cases h
  rw [if_neg this]
  exact h
/-- at most -/
def sle (w u : List (List Int)) : Prop := w = u ∨ sl w u = true
theorem sle.rfl' {w : List (List Int)} : sle w w := .inl rfl
theorem sle.tr {a b c : List (List Int)} (h1 : sle a b) (h2 : sle b c) : sle a c := by
  rcases h1 with rfl | h1
  · exact h2
  · rcases h2 with rfl | h2
    · exact .inr h1
    · exact .inr (sto_sl.tr _ _ _ h1 h2)
theorem sle.anti {a b : List (List Int)} (h1 : sle a b) (h2 : sle b a) : a = b := by
  rcases h1 with h | h1
  · exact h
  · rcases h2 with h | h2
    · exact h.symm
    · rw [sto_sl.asym h1] at h2; cases h2
theorem sle.app {w u : List (List Int)} (g : List Int) (h : sle w u) : sle (w ++ [g]) (u ++ [g]) := by
  rcases h with rfl | h
  · exact .inl rfl
  · exact .inr (sl_app g g h)
theorem sle.len {w u : List (List Int)} (h : sle w u) : w.length ≤ u.length := by
  rcases h with rfl | h
  · exact Nat.le_refl _
  · rcases sl_iff.mp h with h | ⟨h, _⟩ <;> omega
theorem nil_sle (u : List (List Int)) : sle [] u := by
  cases u with
  | nil => exact .inl rfl
  | cons x u => exact .inr (sl_iff.mpr (.inl (by simp)))
/-! ### the figures come in order -/
theorem ext_srt {rows : List (List Int)} {u : Bool} {k : Nat} (hk : ∀ r ∈ rows, r.length = k) (h : rows.Pairwise fun a b => ltR a b = true) : (extR rows u).Pairwise fun a b => ltR a b = true := by
  induction rows with
  | nil => exact .nil
  | cons r rows ih =>
    obtain ⟨h1, h2⟩ := List.pairwise_cons.mp h
    have ih := ih (fun x hx => hk x (List.mem_cons_of_mem _ hx)) h2
    unfold extR at *
    rw [List.flatMap_cons]
    refine List.pairwise_append.mpr ⟨?_, ih, fun a ha b hb => ?_⟩
    · cases u
      · exact List.pairwise_singleton _ _
      · refine List.pairwise_cons.mpr ⟨fun b hb => ?_, List.pairwise_singleton _ _⟩
        have := List.mem_singleton.mp hb
        subst this
        refine lex_pre r _ _ ?_
        decide
    · obtain ⟨g, hg, rfl⟩ := List.mem_map.mp ha
      obtain ⟨r2, hr2, hb⟩ := List.mem_flatMap.mp hb
      obtain ⟨f, hf, rfl⟩ := List.mem_map.mp hb
      exact lex_app _ _ _ _ (by rw [hk r List.mem_cons_self, hk r2 (List.mem_cons_of_mem _ hr2)]) (h1 r2 hr2)
theorem fold_srt : ∀ (us : List Bool) (rows : List (List Int)) (k : Nat), (∀ r ∈ rows, r.length = k) → rows.Pairwise (fun a b => ltR a b = true) → (us.foldl extR rows).Pairwise fun a b => ltR a b = true
  | [], rows, k, _, h => h
  | u :: us, rows, k, hk, h => by
    rw [List.foldl_cons]
    refine fold_srt us (extR rows u) (k + 1) (fun r hr => ?_) (ext_srt hk h)
    unfold extR at hr
    obtain ⟨r0, h0, h1⟩ := List.mem_flatMap.mp hr
    obtain ⟨g, hg, rfl⟩ := List.mem_map.mp h1
    rw [List.length_append, hk r0 h0, List.length_singleton]
theorem fig_srt (us : List Bool) : (figR us).Pairwise fun a b => ltR a b = true := fold_srt us [[]] 0 (fun r hr => by have := List.mem_singleton.mp hr; subst this; rfl) (List.pairwise_singleton _ _)
/-! ### words and what they lead to -/
def runW (L : List Fm) : List Int → List (List Int) → Option (List Int)
  | r, [] => some r
  | r, g :: w => (turn r (sumsD L g)).bind fun r' => runW L r' w
theorem run_snoc (L : List Fm) : ∀ (w : List (List Int)) (r : List Int) (g : List Int), runW L r (w ++ [g]) = (runW L r w).bind fun r' => turn r' (sumsD L g)
  | [], r, g => by
    show (turn r (sumsD L g)).bind (fun r' => runW L r' []) = _
    simp only [runW, Option.bind_some]
    cases turn r (sumsD L g) <;> rfl
  | f :: w, r, g => by
    show (turn r (sumsD L f)).bind (fun r' => runW L r' (w ++ [g])) = ((turn r (sumsD L f)).bind fun r' => runW L r' w).bind _
    cases turn r (sumsD L f) with
    | none => rfl
    | some r' => exact run_snoc L w r' g
def num2 (N : List Int) (g : List Int) : List Int := List.zipWith (fun a b => 2 * a + b) N g
def numOf (v : Nat) : List (List Int) → List Int
  | [] => List.replicate v 0
  | g :: w => num2 (numOf v w) g
theorem num_len (v : Nat) : ∀ w : List (List Int), (∀ g ∈ w, g.length = v) → (numOf v w).length = v
  | [], _ => List.length_replicate
  | g :: w, h => by
    unfold numOf num2
    rw [List.length_zipWith, num_len v w fun x hx => h x (List.mem_cons_of_mem _ hx), h g List.mem_cons_self]
    omega
theorem dot_num : ∀ (fs N g : List Int), N.length = g.length → dotA 0 fs (num2 N g) = 2 * dotA 0 fs N + dotA 0 fs g
  | [], N, g, _ => by simp [dotA]
  | f :: fs, [], [], _ => by simp [dotA, num2]
  | f :: fs, [], _ :: _, h => by cases h
  | f :: fs, _ :: _, [], h => by cases h
  | f :: fs, a :: N, b :: g, h => by
    have ih := dot_num fs N g (by simpa using h)
    unfold num2 at *
    rw [List.zipWith_cons_cons]
    unfold dotA
    rw [dotA_add, dotA_add fs N, dotA_add fs g, ih]
    simp only [Int.mul_add, Int.zero_add]
    have : f * (2 * a) = 2 * (f * a) := by rw [← Int.mul_assoc, Int.mul_comm f 2, Int.mul_assoc]
    omega
theorem dot_zero : ∀ (fs : List Int) (v : Nat), dotA 0 fs (List.replicate v 0) = 0
  | [], v => by simp [dotA]
  | f :: fs, 0 => by simp [dotA]
  | f :: fs, v + 1 => by
    rw [List.replicate_succ]
    unfold dotA
    rw [Int.mul_zero, Int.add_zero]
    exact dot_zero fs v
/-- every equation holds of the numbers, read from the row -/
def Solves (L : List Fm) (r N : List Int) : Prop := ∀ p ∈ List.zip r (L.map fun x => x.1.2), p.1 + dotA 0 p.2 N = 0
theorem turn_iff {N g : List Int} (hN : N.length = g.length) : ∀ (F : List (List Int)) (r : List Int), r.length = F.length →
    ((∀ p ∈ List.zip r F, p.1 + dotA 0 p.2 (num2 N g) = 0) ↔ ∃ r', turn r (F.map fun f => dotA 0 f g) = some r' ∧ ∀ p ∈ List.zip r' F, p.1 + dotA 0 p.2 N = 0)
  | [], [], _ => ⟨fun _ => ⟨[], rfl, fun p hp => nomatch hp⟩, fun _ p hp => nomatch hp⟩
  | [], _ :: _, h => by cases h
  | _ :: _, [], h => by cases h
  | f :: F, c :: r, h => by
    have ih := turn_iff hN F r (by simpa using h)
    have d := dot_num f N g hN
    rw [List.map_cons]
    unfold turn
    constructor
    · intro q
      have q0 := q (c, f) (by rw [List.zip_cons_cons]; exact List.mem_cons_self)
      dsimp only at q0
      rw [d] at q0
      obtain ⟨r', e, z⟩ := ih.mp fun p hp => q p (by rw [List.zip_cons_cons]; exact List.mem_cons_of_mem _ hp)
      refine ⟨(c + dotA 0 f g) / 2 :: r', ?_, fun p hp => ?_⟩
      · rw [if_pos (by omega), e]; rfl
      · rw [List.zip_cons_cons] at hp
        rcases List.mem_cons.mp hp with rfl | hp
        · dsimp only; omega
        · exact z p hp
    · rintro ⟨r', e, z⟩
      split at e
      · rename_i ev
        obtain ⟨q, e1, rfl⟩ := Option.map_eq_some_iff.mp e
        have z0 := z _ (by rw [List.zip_cons_cons]; exact List.mem_cons_self)
        have zz := ih.mpr ⟨q, e1, fun p hp => z p (by rw [List.zip_cons_cons]; exact List.mem_cons_of_mem _ hp)⟩
        intro p hp
        rw [List.zip_cons_cons] at hp
        rcases List.mem_cons.mp hp with rfl | hp
        · dsimp only at z0 ⊢
          rw [d]; omega
        · exact zz p hp
      · cases e
theorem turn_len : ∀ {r ms r' : List Int}, r.length = ms.length → turn r ms = some r' → r'.length = r.length
  | [], ms, r', h, e => by unfold turn at e; cases e; rfl
  | c :: cs, [], r', h, e => by cases h
  | c :: cs, m :: ms, r', h, e => by
    unfold turn at e
    split at e
    · obtain ⟨q, e1, rfl⟩ := Option.map_eq_some_iff.mp e
      rw [List.length_cons, List.length_cons, turn_len (by simpa using h) e1]
    · cases e
theorem sumsD_len (L : List Fm) (g : List Int) : (sumsD L g).length = L.length := by unfold sumsD; rw [List.length_map]
theorem sumsD_F (L : List Fm) (g : List Int) : sumsD L g = (L.map fun x => x.1.2).map fun f => dotA 0 f g := by unfold sumsD; rw [List.map_map]; rfl
/-- a word leads to the row of zeros exactly when its numbers solve -/
theorem run_zero (L : List Fm) (v : Nat) : ∀ (w : List (List Int)) (r : List Int), r.length = L.length → (∀ g ∈ w, g.length = v) → (runW L r w = some (List.replicate L.length 0) ↔ Solves L r (numOf v w))
  | [], r, hr, _ => by
    unfold runW numOf Solves
    constructor
    · intro e
      cases e
      intro p hp
      rw [dot_zero, Int.add_zero]
      exact (List.mem_replicate.mp (List.of_mem_zip hp).1).2
    · intro q
      rw [← hr]
      congr 1
      refine List.eq_replicate_iff.mpr ⟨rfl, fun c hc => ?_⟩
      obtain ⟨i, hi, rfl⟩ := List.mem_iff_getElem.mp hc
      have := q (r[i], (L.map fun x => x.1.2)[i]'(by rw [List.length_map]; omega)) (by
        have : (List.zip r (L.map fun x => x.1.2))[i]'(by rw [List.length_zip, List.length_map]; omega) = (r[i], (L.map fun x => x.1.2)[i]'(by rw [List.length_map]; omega)) := List.getElem_zip
        rw [← this]
        exact List.getElem_mem _)
      dsimp only at this
      rw [dot_zero, Int.add_zero] at this
      exact this
  | g :: w, r, hr, hw => by
    have hN := num_len v w fun x hx => hw x (List.mem_cons_of_mem _ hx)
    have t := turn_iff (N := numOf v w) (g := g) (by rw [hN, hw g List.mem_cons_self]) (L.map fun x => x.1.2) r (by rw [List.length_map]; exact hr)
    rw [← sumsD_F] at t
    show ((turn r (sumsD L g)).bind fun r' => runW L r' w) = some _ ↔ _
    unfold Solves at *
    refine Iff.trans ?_ t.symm
    constructor
    · intro e
      obtain ⟨r', e1, e2⟩ := Option.bind_eq_some_iff.mp e
      have l := turn_len (by rw [sumsD_len]; exact hr) e1
      exact ⟨r', e1, (run_zero L v w r' (by omega) fun x hx => hw x (List.mem_cons_of_mem _ hx)).mp e2⟩
    · rintro ⟨r', e1, e2⟩
      have l := turn_len (by rw [sumsD_len]; exact hr) e1
      rw [e1]
      exact (run_zero L v w r' (by omega) fun x hx => hw x (List.mem_cons_of_mem _ hx)).mpr e2
end K28

namespace K28
open PySem PySem.Spec Mi
/-! ### the search in breadth -/
abbrev WE := List Int × List (List Int)
def stepW (w : List (List Int)) (T : List WE) (p : List Int × List Int) : List WE := if p.2 ∈ T.map (·.1) then T else T ++ [(p.2, w ++ [p.1])]
def nextW (L : List Fm) (e : WE) (T : List WE) : List WE := (turns L e.1).foldl (stepW e.2) T
def stR (L : List Fm) : List Int := L.map fun x => x.1.1
def W (L : List Fm) : Nat → List WE
  | 0 => [(stR L, [])]
  | j + 1 => match (W L j)[j]? with
    | some e => nextW L e (W L j)
    | none => W L j
theorem mem_turns {L : List Fm} {r : List Int} {p : List Int × List Int} : p ∈ turns L r ↔ p.1 ∈ figR (usL L) ∧ turn r (sumsD L p.1) = some p.2 := by
  unfold turns
  rw [List.mem_filterMap]
  constructor
  · rintro ⟨g, hg, e⟩
    obtain ⟨q, e1, rfl⟩ := Option.map_eq_some_iff.mp e
    exact ⟨hg, e1⟩
  · rintro ⟨h1, h2⟩
    exact ⟨p.1, h1, by rw [h2]; rfl⟩
theorem turns_srt (L : List Fm) (r : List Int) : (turns L r).Pairwise fun a b => ltR a.1 b.1 = true := by
  unfold turns
  refine List.Pairwise.filterMap _ ?_ (fig_srt (usL L))
  intro a a' h b hb b' hb'
  obtain ⟨q, _, rfl⟩ := Option.map_eq_some_iff.mp hb
  obtain ⟨q', _, rfl⟩ := Option.map_eq_some_iff.mp hb'
  exact h
structure Good (L : List Fm) (T : List WE) : Prop where
  rn : ∀ e ∈ T, runW L (stR L) e.2 = some e.1
  srt : T.Pairwise fun a b => sl a.2 b.2 = true
  nd : (T.map (·.1)).Nodup
  fg : ∀ e ∈ T, ∀ g ∈ e.2, g ∈ figR (usL L)
theorem fold_good {L : List Fm} {e : WE} (he : runW L (stR L) e.2 = some e.1) (hf : ∀ g ∈ e.2, g ∈ figR (usL L)) : ∀ (ps : List (List Int × List Int)) (A : List WE), Good L A →
    (∀ p ∈ ps, p ∈ turns L e.1) → ps.Pairwise (fun a b => ltR a.1 b.1 = true) → (∀ a ∈ A, ∀ p ∈ ps, sl a.2 (e.2 ++ [p.1]) = true) →
    ∃ X, ps.foldl (stepW e.2) A = A ++ X ∧ (∀ x ∈ X, ∃ g, x.2 = e.2 ++ [g]) ∧ Good L (A ++ X) ∧ ∀ p ∈ ps, ∃ b ∈ A ++ X, b.1 = p.2 ∧ sle b.2 (e.2 ++ [p.1])
  | [], A, G, _, _, _ => ⟨[], by simp, (fun x hx => by cases hx), by simpa using G, fun p hp => by cases hp⟩
  | p :: ps, A, G, ht, hp, lo => by
    obtain ⟨hp1, hp2⟩ := List.pairwise_cons.mp hp
    rw [List.foldl_cons]
    by_cases m : p.2 ∈ A.map (·.1)
    · have es : stepW e.2 A p = A := if_pos m
      rw [es]
      obtain ⟨X, x1, x2, x3, x4⟩ := fold_good he hf ps A G (fun q hq => ht q (List.mem_cons_of_mem _ hq)) hp2 fun a ha q hq => lo a ha q (List.mem_cons_of_mem _ hq)
      refine ⟨X, x1, x2, x3, fun q hq => ?_⟩
      rcases List.mem_cons.mp hq with rfl | hq
      · obtain ⟨a, ha, e1⟩ := List.mem_map.mp m
        exact ⟨a, List.mem_append_left _ ha, e1, .inr (lo a ha q List.mem_cons_self)⟩
      · exact x4 q hq
    · have es : stepW e.2 A p = A ++ [(p.2, e.2 ++ [p.1])] := if_neg m
      rw [es]
      obtain ⟨t1, t2⟩ := mem_turns.mp (ht p List.mem_cons_self)
      have G' : Good L (A ++ [(p.2, e.2 ++ [p.1])]) := by
        refine ⟨fun a ha => ?_, ?_, ?_, fun a ha => ?_⟩
        · rcases List.mem_append.mp ha with ha | ha
          · exact G.rn a ha
          · have := List.mem_singleton.mp ha
            subst this
            dsimp only
            rw [run_snoc, he]
            exact t2
        · refine List.pairwise_append.mpr ⟨G.srt, List.pairwise_singleton _ _, fun a ha b hb => ?_⟩
          have := List.mem_singleton.mp hb
          subst this
          exact lo a ha p List.mem_cons_self
        · rw [List.map_append, List.map_cons, List.map_nil]
          refine List.nodup_append.mpr ⟨G.nd, by simp, fun a ha b hb q => ?_⟩
          have := List.mem_singleton.mp hb
          subst this
          subst q
          exact m ha
        · rcases List.mem_append.mp ha with ha | ha
          · exact G.fg a ha
          · have := List.mem_singleton.mp ha
            subst this
            intro g hg
            rcases List.mem_append.mp hg with hg | hg
            · exact hf g hg
            · have := List.mem_singleton.mp hg
              subst this
              exact t1
      obtain ⟨X, x1, x2, x3, x4⟩ := fold_good he hf ps _ G' (fun q hq => ht q (List.mem_cons_of_mem _ hq)) hp2 fun a ha q hq => by
        rcases List.mem_append.mp ha with ha | ha
        · exact lo a ha q (List.mem_cons_of_mem _ hq)
        · have := List.mem_singleton.mp ha
          subst this
          exact sl_snoc (hp1 q hq)
      rw [List.append_assoc] at x1 x3 x4
      refine ⟨[(p.2, e.2 ++ [p.1])] ++ X, x1, fun x hx => ?_, x3, fun q hq => ?_⟩
      · rcases List.mem_append.mp hx with hx | hx
        · have := List.mem_singleton.mp hx
          subst this
          exact ⟨_, rfl⟩
        · exact x2 x hx
      · rcases List.mem_cons.mp hq with rfl | hq
        · exact ⟨(q.2, e.2 ++ [q.1]), by simp, rfl, .inl rfl⟩
        · exact x4 q hq
structure Inv (L : List Fm) (j : Nat) (T : List WE) : Prop where
  g : Good L T
  st : T[0]? = some (stR L, [])
  fr : ∀ e ∈ T, e.2 = [] ∨ ∃ (k : Nat) (e' : WE) (f : List Int), k < j ∧ T[k]? = some e' ∧ e.2 = e'.2 ++ [f]
  cl : ∀ k, k < j → ∀ e, T[k]? = some e → ∀ p ∈ turns L e.1, ∃ e' ∈ T, e'.1 = p.2 ∧ sle e'.2 (e.2 ++ [p.1])
theorem W_inv (L : List Fm) : ∀ j, Inv L j (W L j)
  | 0 => ⟨⟨fun e he => by
      have := List.mem_singleton.mp he
      subst this; rfl, List.pairwise_singleton _ _, by simp [W], fun e he => by
      have := List.mem_singleton.mp he
      subst this
      intro g hg; cases hg⟩, rfl, fun e he => by
      have := List.mem_singleton.mp he
      subst this; exact .inl rfl, fun k hk => absurd hk (by omega)⟩
  | j + 1 => by
    have I := W_inv L j
    unfold W
    split
    · rename_i e he
      obtain ⟨hj, hje⟩ := List.getElem?_eq_some_iff.mp he
      have hm := List.mem_of_getElem? he
      generalize W L j = T at *
      obtain ⟨X, x1, x2, x3, x4⟩ := fold_good (I.g.rn e hm) (I.g.fg e hm) (turns L e.1) T I.g (fun p hp => hp) (turns_srt L e.1) fun a ha p hp => by
        rcases I.fr a ha with h | ⟨k, e', f, hk, h1, h2⟩
        · rw [h]
          exact sl_iff.mpr (.inl (by simp))
        · rw [h2]
          refine sl_app f p.1 ?_
          obtain ⟨hk1, hk2⟩ := List.getElem?_eq_some_iff.mp h1
          have := List.pairwise_iff_getElem.mp I.g.srt k j hk1 hj hk
          rw [hk2, hje] at this
          exact this
      unfold nextW
      rw [x1]
      have gt : ∀ k, k < j + 1 → (T ++ X)[k]? = T[k]? := fun k hk => List.getElem?_append_left (by omega)
      refine ⟨x3, by rw [gt 0 (by omega)]; exact I.st, fun a ha => ?_, fun k hk a ha p hp => ?_⟩
      · rcases List.mem_append.mp ha with ha | ha
        · rcases I.fr a ha with h | ⟨k, e', f, hk, h1, h2⟩
          · exact .inl h
          · exact .inr ⟨k, e', f, by omega, by rw [gt k (by omega)]; exact h1, h2⟩
        · obtain ⟨g, hg⟩ := x2 a ha
          exact .inr ⟨j, e, g, by omega, by rw [gt j (by omega)]; exact he, hg⟩
      · rw [gt k hk] at ha
        rcases (by omega : k < j ∨ k = j) with h | rfl
        · obtain ⟨e', m', q⟩ := I.cl k h a ha p hp
          exact ⟨e', List.mem_append_left _ m', q⟩
        · rw [he] at ha
          cases ha
          exact x4 p hp
    · rename_i hn
      have hl : (W L j).length ≤ j := by simpa using hn
      refine ⟨I.g, I.st, fun a ha => ?_, fun k hk a ha p hp => ?_⟩
      · rcases I.fr a ha with h | ⟨k, e', f, hk, h1, h2⟩
        · exact .inl h
        · exact .inr ⟨k, e', f, by omega, h1, h2⟩
      · have := (List.getElem?_eq_some_iff.mp ha).1
        exact I.cl k (by omega) a ha p hp
/-- every row that a word leads to is found, by a word that comes no later -/
theorem reach_all {L : List Fm} {j : Nat} {T : List WE} (I : Inv L j T) (hj : T.length ≤ j) : ∀ (n : Nat) (u : List (List Int)) (r : List Int), u.length = n → (∀ g ∈ u, g ∈ figR (usL L)) → runW L (stR L) u = some r → ∃ e ∈ T, e.1 = r ∧ sle e.2 u
  | 0, u, r, hn, _, hr => by
    have : u = [] := List.length_eq_zero_iff.mp hn
    subst this
    cases hr
    exact ⟨_, List.mem_of_getElem? I.st, rfl, .inl rfl⟩
  | n + 1, u, r, hn, hg, hr => by
    rcases List.eq_nil_or_concat u with rfl | ⟨u', g, rfl⟩
    · cases hn
    · rw [List.concat_eq_append] at hn hg hr ⊢
      rw [run_snoc] at hr
      obtain ⟨r', h1, h2⟩ := Option.bind_eq_some_iff.mp hr
      obtain ⟨e, he, rfl, hs⟩ := reach_all I hj n u' r' (by simpa using hn) (fun x hx => hg x (List.mem_append_left _ hx)) h1
      obtain ⟨k, hk, rfl⟩ := List.mem_iff_getElem.mp he
      obtain ⟨e', m', q1, q2⟩ := I.cl k (by omega) _ (List.getElem?_eq_getElem hk) (g, r) (mem_turns.mpr ⟨hg g (by simp), h2⟩)
      exact ⟨e', m', q1, q2.tr (hs.app g)⟩
/-- a row that is not yet there is added -/
def stepT (T : List (List Int)) (r : List Int) : List (List Int) := if r ∈ T then T else T ++ [r]
theorem fold_rows (w : List (List Int)) : ∀ (ps : List (List Int × List Int)) (T : List WE), (ps.foldl (stepW w) T).map (·.1) = (ps.map (·.2)).foldl stepT (T.map (·.1))
  | [], T => rfl
  | p :: ps, T => by
    rw [List.foldl_cons, List.map_cons, List.foldl_cons, fold_rows w ps]
    congr 1
    unfold stepW stepT
    split
    · rfl
    · rw [List.map_append]; rfl
/-- the rows of the search -/
def TS (L : List Fm) (j : Nat) : List (List Int) := (W L j).map (·.1)
theorem TS_zero (L : List Fm) : TS L 0 = [stR L] := rfl
theorem TS_next (L : List Fm) (j : Nat) {r : List Int} (h : (TS L j)[j]? = some r) : TS L (j + 1) = ((turns L r).map (·.2)).foldl stepT (TS L j) := by
  unfold TS at h
  rw [List.getElem?_map] at h
  obtain ⟨e, he, rfl⟩ := Option.map_eq_some_iff.mp h
  have e' : W L (j + 1) = nextW L e (W L j) := by
    rw [W, he]
  show (W L (j + 1)).map (·.1) = _
  rw [e', nextW, fold_rows]
  rfl
end K28

namespace K28
open PySem PySem.Spec Mi
theorem n_lenR {k : Nat} {xs : List D} {h : Hs} (e : h[k]? = some (.lst xs)) : nLen [.r k] h = some (.d (.int xs.length), h) := by
  show (match seqOf (.r k) h with
    | some ys => some (Vl.d (.int ys.length), h)
    | none => none) = _
  simp only [seqOf, e]
theorem zero_add_rng (n : Nat) : rngD 0 n = (List.range n).map fun i : Nat => D.int (i : Int) := by simp [rngD]
/-! ### check_system -/
def tgF (x : Fm) : Fm := (x.1, true, true)
def fmT (x : Fm) : D := .tup [.int x.1.1, .tup (x.1.2.map D.int)]
theorem fmT_eq (x : Fm) : fmD (tgF x) = fmT x := rfl
theorem tru_r (l : List D) (h : Hs) : truO (.r h.length) (h ++ [.lst l]) = some (!l.isEmpty) := by
  unfold truO
  simp
theorem l_check (n : Nat) (A : D) {v : Nat} (h : Hs) : ∀ (R acc : List Fm) (k : Nat) (B C : Option Vl), (∀ x ∈ acc, x.1.2.length = v) → (∀ x ∈ R, x.1.2.length = v) → acc.length + R.length ≤ 1000 → v ≤ 1000 →
    ∃ B' C', forL (gTp 2 (gCo (gNm 2) (gCo (gNm 3) gNi))) (b_check_system_1 (callF defs (n + 1))) (enumK k (R.map fmD)) [some (.d A), some (.r h.length), B, C, none] (h ++ [.lst (acc.map fmT)]) = .ok .nx [some (.d A), some (.r h.length), B', C', none] (h ++ [.lst ((acc ++ R).map fmT)])
  | [], acc, k, B, C, _, _, _, _ => ⟨B, C, by simp [enumK, forL]⟩
  | x :: R, acc, k, B, C, ha, hr, hz, hv => by
    rw [List.length_cons] at hz
    obtain ⟨B', C', ih⟩ := l_check n A h R (acc ++ [x]) (k + 1) (some (.d (.int (k : Nat)))) (some (.d (fmD x))) (fun y hy => by
      rcases List.mem_append.mp hy with hy | hy
      · exact ha y hy
      · have := List.mem_singleton.mp hy; subst this; exact hr y List.mem_cons_self) (fun y hy => hr y (List.mem_cons_of_mem _ hy)) (by rw [List.length_append, List.length_singleton]; omega) hv
    refine ⟨B', C', ?_⟩
    rw [List.append_assoc, List.singleton_append, List.map_append, List.map_cons, List.map_nil] at ih
    have hx := hr x List.mem_cons_self
    have e1 := e_seq n x.2.1 [.int x.1.1, box x.2.2 (x.1.2.map D.int)] (h ++ [.lst (acc.map fmT)])
    have e1' : callF defs (n + 1) 1 [.d (fmD x)] (h ++ [.lst (acc.map fmT)]) = _ := e1
    have e2 := e_seq n x.2.2 (x.1.2.map D.int) (h ++ [.lst (acc.map fmT)])
    have ln : nLen [.d (fmD x)] (h ++ [.lst (acc.map fmT)]) = some (.d (.int 2), h ++ [.lst (acc.map fmT)]) := by unfold fmD; rw [bx_len]; rfl
    have c := cmpL_on (vs := [4]) (g := gNm 4) (t := tNo (tTru (eCl (callF defs (n + 1)) 0 [] (aCons (eVar 4) aNil)))) (f := eVar 4) (σ := [some (.d A), some (.r h.length), some (.d (.int (k : Nat))), some (.d (fmD x)), none]) (h := h ++ [.lst (acc.map fmT)])
      D.int (fun _ => false) D.int x.1.2 [] (by rw [List.length_nil, Nat.zero_add]; exact lts (by omega)) fun i _ h' => ⟨_, rfl, by simp [wipeL, e_whole], fun q => nomatch q⟩
    rw [List.filter_eq_nil_iff.mpr (fun _ _ => by simp), List.nil_append, List.map_nil] at c
    have le := lc_end (h ++ [.lst (acc.map fmT)]) []
    rw [List.length_append, List.length_singleton] at c le
    simp only [List.append_assoc, List.cons_append, List.nil_append] at c le
    have lz : acc.length < sizeLine := lts (by omega)
    cases acc with
    | nil =>
      rw [List.map_nil] at *
      rw [List.nil_append] at ih
      simp only [List.map_cons, enumK, forL]
      have lz0 : 0 < sizeLine := lz
      simp [e1', e2, ln, fm0, fm1, e_whole, c, le, tru_r, lz0]
      exact ih
    | cons a acc =>
      have hx' : ((x.1.2.length : Nat) : Int) = ((a.1.2.length : Nat) : Int) := by rw [hx, ha a List.mem_cons_self]
      have a0 : ∀ l, L2.atI (fmT a :: l) 0 = some (fmT a) := fun l => atI_nat (fmT a :: l) 0
      have a1 : ∀ h, oIx (.d (fmT a)) (.d (.int 1)) h = some (.d (.tup (a.1.2.map D.int)), h) := fun _ => rfl
      rw [List.length_cons] at lz
      have al : (acc.map fmT).length + 1 < sizeLine := by rw [List.length_map]; exact lz
      simp only [List.map_cons, enumK, forL, List.cons_append, List.map_append] at *
      generalize acc.map fmT = AC at *
      have ix0 : oIx (.r h.length) (.d (.int 0)) (h ++ [.lst (fmT a :: AC)]) = some (.d (fmT a), h ++ [.lst (fmT a :: AC)]) := by
        rw [o_ixR (xs := fmT a :: AC) (by simp), a0]; rfl
      simp [e1', e2, ln, fm0, fm1, e_whole, c, le, ix0, a1, hx', al, tru_r]
      exact ih
theorem e_check (n : Nat) (b : Bool) {v : Nat} (L : List Fm) (hL : ∀ x ∈ L, x.1.2.length = v) (hz : L.length ≤ 1000) (hv : v ≤ 1000) (h : Hs) : callF defs (n + 2) 3 [.d (box b (L.map fmD))] h = .ok (.d (box true ((L.map tgF).map fmD))) h := by
  rw [callF_at (md := ⟨1, 5, false, m_check_system⟩) rfl rfl]
  have e1 := e_seq n b (L.map fmD) h
  obtain ⟨B, C, q⟩ := l_check n (box b (L.map fmD)) (v := v) h L [] 0 none none (fun x hx => nomatch hx) hL (by simpa using hz) hv
  have et : (L.map tgF).map fmD = L.map fmT := by rw [List.map_map]; rfl
  rw [et]
  rw [List.map_nil, List.nil_append] at q
  generalize L.map fmT = LT at *
  show _ = Res.ok (Vl.d (D.tup LT)) h
  simp [startL, e1, enumD_K, q, n_tupR (at_len)]
end K28

namespace K28
open PySem PySem.Spec Mi
/-! ### what came before -/
structure Came (T : List WE) (kvs : List (List L2.Key × D)) : Prop where
  l : Lst (T.map (·.1)) kvs
  ent : ∀ e ∈ T, (e.2 = [] ∧ valD kvs (kT e.1) = some .non) ∨ ∃ p ∈ T, ∃ g, e.2 = p.2 ++ [g] ∧ valD kvs (kT e.1) = some (.tup [iT p.1, iT g])
theorem val_new {kvs : List (List L2.Key × D)} {k k' : List L2.Key} {v : D} (h : (valD kvs k).isSome = false) : valD (putD kvs k v) k' = if k = k' then some v else valD kvs k' := by
  unfold putD
  rw [any_val, h, if_neg Bool.false_ne_true, val_app]
  by_cases e : k = k'
  · subst e
    cases q : valD kvs k with
    | none => simp
    | some d => rw [q] at h; cases h
  · rw [if_neg e, if_neg e]
    cases valD kvs k' <;> rfl
theorem Came.add {T : List WE} {kvs : List (List L2.Key × D)} (c : Came T kvs) {e : WE} (he : e ∈ T) {r g : List Int} (hr : r ∉ T.map (·.1)) : Came (T ++ [(r, e.2 ++ [g])]) (putD kvs (kT r) (.tup [iT e.1, iT g])) := by
  have l := c.l.put r (.tup [iT e.1, iT g])
  have nn : (valD kvs (kT r)).isSome = false := by rw [c.l.mem]; exact decide_eq_false hr
  refine ⟨by rw [List.map_append]; exact l, fun a ha => ?_⟩
  rw [val_new nn]
  rcases List.mem_append.mp ha with ha | ha
  · have ne : ¬ kT r = kT a.1 := fun q => hr (by rw [kT_inj q]; exact List.mem_map.mpr ⟨a, ha, rfl⟩)
    rw [if_neg ne]
    rcases c.ent a ha with h | ⟨p, hp, g', h1, h2⟩
    · exact .inl h
    · exact .inr ⟨p, List.mem_append_left _ hp, g', h1, h2⟩
  · have := List.mem_singleton.mp ha
    subst this
    exact .inr ⟨e, List.mem_append_left _ he, g, rfl, by rw [if_pos rfl]⟩
theorem d_get {kvs : List (List L2.Key × D)} {h : Hs} {k : Nat} (e : h[k]? = some (.dt kvs)) (r : List Int) : oDGet (.r k) (.d (iT r)) h = (valD kvs (kT r)).map fun d => (.d d, h) := by
  unfold oDGet dGet
  simp only [e, key_iT, Option.map_some]
  cases valD kvs (kT r) <;> rfl
/-! ### reading the answer -/
theorem W_len (L : List Fm) (j : Nat) : ∀ (i : Nat) (e : WE), (W L j)[i]? = some e → e.2.length ≤ i := by
  intro i
  induction i using Nat.strongRecOn with
  | _ i ih =>
    intro e he
    have I := W_inv L j
    rcases I.fr e (List.mem_of_getElem? he) with h | ⟨k, e', f, hk, h1, h2⟩
    · rw [h]; exact Nat.zero_le _
    · have lt : sl e'.2 e.2 = true := sl_iff.mpr (.inl (by rw [h2]; simp))
      have ki : k < i := by
        rcases (by omega : k < i ∨ k = i ∨ i < k) with q | rfl | q
        · exact q
        · rw [h1] at he
          cases he
          rw [sto_sl.irr] at lt; cases lt
        · obtain ⟨a1, a2⟩ := List.getElem?_eq_some_iff.mp h1
          obtain ⟨b1, b2⟩ := List.getElem?_eq_some_iff.mp he
          have := List.pairwise_iff_getElem.mp I.g.srt i k b1 a1 q
          rw [a2, b2] at this
          rw [sto_sl.asym this] at lt
          cases lt
      have := ih k ki e' h1
      rw [h2, List.length_append, List.length_singleton]
      omega
theorem num_bd (v : Nat) : ∀ w : List (List Int), (∀ g ∈ w, Bit g) → ∀ i ∈ numOf v w, 0 ≤ i ∧ i.natAbs < 2 ^ w.length
  | [], _, i, hi => by
    have := (List.mem_replicate.mp hi).2
    subst this
    exact ⟨by omega, by decide⟩
  | g :: w, h, i, hi => by
    have ih := num_bd v w fun x hx => h x (List.mem_cons_of_mem _ hx)
    unfold numOf num2 at hi
    rw [List.zipWith_eq_zipWith_take_min, ← List.map_uncurry_zip_eq_zipWith] at hi
    obtain ⟨p, hp, rfl⟩ := List.mem_map.mp hi
    have hz := List.of_mem_zip hp
    obtain ⟨i1, i2⟩ := ih p.1 (List.mem_of_mem_take hz.1)
    have hb := h g List.mem_cons_self p.2 (List.mem_of_mem_take hz.2)
    rw [List.length_cons, Nat.pow_succ]
    obtain ⟨a, b⟩ := p
    simp only [Function.uncurry] at *
    generalize 2 ^ w.length = z at *
    rcases hb with rfl | rfl <;> omega
theorem cm2 {i : Int} {n : Nat} (h : i.natAbs < 2 ^ n) (hn : n ≤ 400000) : cMulW 2 i = true := cm4 (big (n := 2) (by decide) (by decide)) (big h hn)
theorem zip_ints : ∀ N g : List Int, zipD (N.map D.int) (g.map D.int) = (List.zip N g).map fun p => D.tup [.int p.1, .int p.2]
  | [], g => by cases g <;> rfl
  | _ :: _, [] => rfl
  | a :: N, b :: g => by rw [List.map_cons, List.map_cons, zipD_cons, zip_ints N g, List.zip_cons_cons, List.map_cons]
theorem num2_zip (N g : List Int) : ((List.zip N g).map fun p => D.int (2 * p.1 + p.2)) = (num2 N g).map D.int := by
  unfold num2
  rw [List.zipWith_eq_zipWith_take_min, ← List.map_uncurry_zip_eq_zipWith, List.map_map]
  rw [List.zip_eq_zip_take_min]
  rfl
structure Fine (v : Nat) (T : List WE) : Prop where
  ln : ∀ e ∈ T, e.2.length ≤ 400000
  fg : ∀ e ∈ T, ∀ g ∈ e.2, g.length = v ∧ Bit g
abbrev wqH (h : Hs) (T : List WE) (kvs : List (List L2.Key × D)) : Hs := h ++ [.dt kvs, .lst ((T.map (·.1)).map iT)]
theorem o_zmul {v : Nat} (hv : v ≤ 1000) (h : Hs) : oMul (.d (.lv [.int 0])) (.d (.int (v : Nat))) h = some (.d (.lv ((List.replicate v (0 : Int)).map D.int)), h) := by
  have c : (decide (-(2 ^ 63) ≤ (v : Int)) && (decide ((v : Int) < 2 ^ 63) && decide ([D.int 0].length * (v : Int).toNat ≤ sizeLine))) = true := by
    rw [Bool.and_eq_true, Bool.and_eq_true]
    exact ⟨decide_eq_true (by omega), decide_eq_true (by omega), decide_eq_true (les (by rw [Int.toNat_natCast, List.length_singleton]; omega))⟩
  unfold oMul
  dsimp only [lstOf]
  rw [if_pos c, Int.toNat_natCast, rep_zero]
theorem e_read (n v : Nat) {T : List WE} {kvs : List (List L2.Key × D)} (c : Came T kvs) (F : Fine v T) (hv : v ≤ 1000) {e : WE} (he : e ∈ T) (h : Hs) :
    callF defs (n + 1) 9 [.r h.length, .d (iT e.1), .d (.int (v : Nat))] (wqH h T kvs) = .ok (.d (iT (numOf v e.2))) (wqH h T kvs) := by
  rw [callF_at (md := ⟨3, 7, false, m_read_answer⟩) rfl rfl]
  have oz := o_zmul hv (wqH h T kvs)
  have q : ∃ G : D × Option Vl, sWh (w_read_answer_1 (callF defs n)) (b_read_answer_2 (callF defs n)) [some (.r h.length), some (.d (iT e.1)), some (.d (.int (v : Nat))), some (.d (.lv ((List.replicate v (0 : Int)).map D.int))), none, none, none] (wqH h T kvs) =
      .ok .nx [some (.r h.length), some (.d G.1), some (.d (.int (v : Nat))), some (.d (.lv ((numOf v e.2).map D.int))), G.2, none, none] (wqH h T kvs) := by
    refine wh_ind (R := fun r => ∃ G : D × Option Vl, r = .ok .nx [some (.r h.length), some (.d G.1), some (.d (.int (v : Nat))), some (.d (.lv ((numOf v e.2).map D.int))), G.2, none, none] (wqH h T kvs))
      (fun m σ h' => h' = wqH h T kvs ∧ ∃ (a : WE) (s : List (List Int)) (G : Option Vl), a ∈ T ∧ a.2.length = m ∧ a.2 ++ s = e.2 ∧ clr1 (h.length + 2) G = G ∧ σ = [some (.r h.length), some (.d (iT a.1)), some (.d (.int (v : Nat))), some (.d (.lv ((numOf v s).map D.int))), G, none, none])
      ⟨rfl, e, [], none, he, rfl, by simp, rfl, rfl⟩ (by have := F.ln e he; omega) (fun m σ h' p => ?_)
    obtain ⟨rfl, a, s, G, ha, hm, hs, hG, rfl⟩ := p
    have dg := d_get (kvs := kvs) (h := wqH h T kvs) (k := h.length) (by simp) a.1
    rcases c.ent a ha with ⟨z, hv⟩ | ⟨p, hp, g, z, hv⟩
    · rw [hv] at dg
      have : s = e.2 := by rw [z] at hs; simpa using hs
      subst this
      have et : w_read_answer_1 (callF defs n) [some (.r h.length), some (.d (iT a.1)), some (.d (.int (v : Nat))), some (.d (.lv ((numOf v e.2).map D.int))), G, none, none] (wqH h T kvs) = .ok false (wqH h T kvs) := by
        have inn : isNon (.d D.non) = true := rfl
        simp [dg, inn]
      rw [et]
      exact ⟨(iT a.1, G), rfl⟩
    · rw [hv] at dg
      have et : w_read_answer_1 (callF defs n) [some (.r h.length), some (.d (iT a.1)), some (.d (.int (v : Nat))), some (.d (.lv ((numOf v s).map D.int))), G, none, none] (wqH h T kvs) = .ok true (wqH h T kvs) := by
        have inn : isNon (.d (D.tup [iT p.1, iT g])) = false := rfl
        simp [dg, inn]
      rw [et]
      refine ⟨p.2.length, by rw [z, List.length_append, List.length_singleton] at hm; omega, ?_⟩
      have hs' : p.2 ++ (g :: s) = e.2 := by rw [← hs, z, List.append_assoc]; rfl
      have sb : ∀ x ∈ s, Bit x := fun x hx => (F.fg e he x (by rw [← hs]; exact List.mem_append_right _ hx)).2
      have sl : s.length ≤ 400000 := by have := F.ln e he; rw [← hs, List.length_append] at this; omega
      have gb : Bit g := (F.fg e he g (by rw [← hs']; simp)).2
      have nl : (numOf v s).length = v := num_len v s fun x hx => (F.fg e he x (by rw [← hs]; exact List.mem_append_right _ hx)).1
      have bd := num_bd v s sb
      have cc := cmpL_all (vs := [5, 6]) (g := gTp 2 (gCo (gNm 5) (gCo (gNm 6) gNi))) (f := eBin oAdd (eBin oMulI (eK (.int 2)) (eVar 5)) (eVar 6)) (σ := [some (.r h.length), some (.d (iT p.1)), some (.d (.int (v : Nat))), some (.d (.lv ((numOf v s).map D.int))), some (.d (iT g)), none, none]) (h := wqH h T kvs)
        (fun p : Int × Int => D.tup [.int p.1, .int p.2]) (fun p => .int (2 * p.1 + p.2)) (List.zip (numOf v s) g) (lts (by rw [List.length_zip, nl]; omega)) fun x hx h' => ⟨_, rfl, by
          have b3 : cMulW 2 x.1 = true := cm2 (bd x.1 (List.of_mem_zip hx).1).2 sl
          simp [wipeL, b3]⟩
      rw [← zip_ints, num2_zip] at cc
      have le := lc_end (wqH h T kvs) ((num2 (numOf v s) g).map D.int)
      have eb : ∃ z : Nat, b_read_answer_2 (callF defs n) [some (.r h.length), some (.d (iT a.1)), some (.d (.int (v : Nat))), some (.d (.lv ((numOf v s).map D.int))), G, none, none] (wqH h T kvs) = .ok .nx [some (.r h.length), some (.d (iT p.1)), some (.d (.int (v : Nat))), some (.d (.lv ((num2 (numOf v s) g).map D.int))), some (.d (iT g)), none, none] (wqH h T kvs) := by
        refine ⟨0, ?_⟩
        unfold iT at *
        generalize wqH h T kvs = H at *
        generalize (num2 (numOf v s) g).map D.int = ND at *
        simp [dg, cc, le]
      obtain ⟨_, eb⟩ := eb
      rw [eb]
      refine ⟨by simp, p, g :: s, some (.d (iT g)), hp, rfl, hs', rfl, ?_⟩
      simp [numOf]
  obtain ⟨G, q⟩ := q
  have tk : (wqH h T kvs).take (wqH h T kvs).length = wqH h T kvs := List.take_length
  unfold iT at q ⊢
  generalize wqH h T kvs = H at *
  generalize (List.replicate v (0 : Int)).map D.int = ZD at *
  simp -implicitDefEqProofs [startL, oz, q]
end K28

namespace K28
open PySem PySem.Spec Mi
/-! ### whole -/
def stepG (L : List Fm) (e : WE) (T : List WE) (g : List Int) : List WE := match turn e.1 (sumsD L g) with
  | some r => stepW e.2 T (g, r)
  | none => T
theorem foldG (L : List Fm) (e : WE) : ∀ (gs : List (List Int)) (T : List WE), gs.foldl (stepG L e) T = (gs.filterMap fun g => (turn e.1 (sumsD L g)).map fun r => (g, r)).foldl (stepW e.2) T
  | [], T => rfl
  | g :: gs, T => by
    rw [List.foldl_cons, List.filterMap_cons, foldG L e gs]
    unfold stepG
    cases turn e.1 (sumsD L g) <;> rfl
theorem nextG (L : List Fm) (e : WE) (T : List WE) : (figR (usL L)).foldl (stepG L e) T = nextW L e T := foldG L e _ T
theorem W_stop {L : List Fm} {j : Nat} (h : (W L j).length ≤ j) : ∀ m, W L (j + m) = W L j
  | 0 => rfl
  | m + 1 => by
    have ih := W_stop h m
    rw [← Nat.add_assoc, W, ih, List.getElem?_eq_none (by omega)]
theorem W_grow (L : List Fm) (j : Nat) : ∀ m, ∃ X, W L (j + m) = W L j ++ X
  | 0 => ⟨[], by simp⟩
  | m + 1 => by
    obtain ⟨X, ih⟩ := W_grow L j m
    rw [← Nat.add_assoc, W]
    split
    · rename_i e he
      have I := W_inv L (j + m)
      have G := I.g
      have hm := List.mem_of_getElem? he
      obtain ⟨hj, hje⟩ := List.getElem?_eq_some_iff.mp he
      obtain ⟨Y, y1, _, _, _⟩ := fold_good (G.rn e hm) (G.fg e hm) (turns L e.1) (W L (j + m)) G (fun p hp => hp) (turns_srt L e.1) fun a ha p hp => by
        rcases I.fr a ha with h | ⟨k, e', f, hk, h1, h2⟩
        · rw [h]
          exact sl_iff.mpr (.inl (by simp))
        · rw [h2]
          refine sl_app f p.1 ?_
          obtain ⟨hk1, hk2⟩ := List.getElem?_eq_some_iff.mp h1
          have := List.pairwise_iff_getElem.mp G.srt k (j + m) hk1 hj hk
          rw [hk2, hje] at this
          exact this
      exact ⟨X ++ Y, by rw [nextW, y1, ih, List.append_assoc]⟩
    · exact ⟨X, ih⟩
section
variable {S0 S1 S2 S3 S6 : D} {h : Hs}
theorem l_wh1 (n : Nat) {L : List Fm} (e : WE) (hr : e.1.length ≤ 100) : ∀ (gs : List (List Int)) (T : List WE) (kvs : List (List L2.Key × D)) (A B C : Option Vl), Came T kvs → e ∈ T → T.length + gs.length ≤ 900000 →
    ∃ kvs' A' B' C', Came (gs.foldl (stepG L e) T) kvs' ∧ forL (gTp 2 (gCo (gNm 8) (gCo (gNm 9) gNi))) (b_whole_1 (callF defs (n + 1))) (gs.map (sgD L)) [some (.d S0), some (.d S1), some (.d S2), some (.d S3), some (.r h.length), some (.r (h.length + 1)), some (.d S6), some (.d (iT e.1)), A, B, C] (wqH h T kvs) =
      .ok .nx [some (.d S0), some (.d S1), some (.d S2), some (.d S3), some (.r h.length), some (.r (h.length + 1)), some (.d S6), some (.d (iT e.1)), A', B', C'] (wqH h (gs.foldl (stepG L e) T) kvs')
  | [], T, kvs, A, B, C, c, _, _ => ⟨kvs, A, B, C, c, by simp [forL]⟩
  | g :: gs, T, kvs, A, B, C, c, he, hz => by
    rw [List.length_cons] at hz
    rw [List.foldl_cons, List.map_cons]
    have e1 : callF defs (n + 1) 8 [.d (iT e.1), .d (iT (sumsD L g))] (wqH h T kvs) = .ok (.d (optT (turn e.1 (sumsD L g)))) (wqH h T kvs) := e_turned n true e.1 (sumsD L g) _ (by omega)
    cases q : turn e.1 (sumsD L g) with
    | none =>
      have es : stepG L e T g = T := by unfold stepG; rw [q]
      rw [q] at e1
      rw [es]
      obtain ⟨kvs', A', B', C', c', ih⟩ := l_wh1 n e hr gs T kvs (some (.d (iT g))) (some (.d (iT (sumsD L g)))) (some (.d .non)) c he (by omega)
      refine ⟨kvs', A', B', C', c', ?_⟩
      rw [← ih]
      have inn : isNon (.d D.non) = true := rfl
      simp only [optT] at e1
      unfold wqH at *
      generalize (List.map (fun x => x.1) T).map iT = TD at *
      simp [forL, sgD, e1, inn]
    | some r =>
      have inn : isNon (.d (iT r)) = false := rfl
      have hd := d_in c.l true r (h := wqH h T kvs) (k := h.length) (by simp)
      rw [if_pos rfl] at hd
      rw [q] at e1
      simp only [optT] at e1
      by_cases m : r ∈ T.map (·.1)
      · have es : stepG L e T g = T := by unfold stepG; rw [q]; exact if_pos m
        rw [es]
        rw [decide_eq_true m] at hd
        obtain ⟨kvs', A', B', C', c', ih⟩ := l_wh1 n e hr gs T kvs (some (.d (iT g))) (some (.d (iT (sumsD L g)))) (some (.d (iT r))) c he (by omega)
        refine ⟨kvs', A', B', C', c', ?_⟩
        rw [← ih]
        unfold wqH at *
        generalize (List.map (fun x => x.1) T).map iT = TD at *
        simp [forL, sgD, e1, inn, hd]
      · have es : stepG L e T g = T ++ [(r, e.2 ++ [g])] := by unfold stepG; rw [q]; exact if_neg m
        rw [es]
        rw [decide_eq_false m] at hd
        obtain ⟨kvs', A', B', C', c', ih⟩ := l_wh1 n e hr gs (T ++ [(r, e.2 ++ [g])]) (putD kvs (kT r) (.tup [iT e.1, iT g])) (some (.d (iT g))) (some (.d (iT (sumsD L g)))) (some (.d (iT r))) (c.add he m) (List.mem_append_left _ he) (by rw [List.length_append, List.length_singleton]; omega)
        refine ⟨kvs', A', B', C', c', ?_⟩
        have p := d_put c.l (by rw [List.length_map]; omega) r (.tup [iT e.1, iT g]) (h := wqH h T kvs) (k := h.length) (by simp)
        have lz : ((T.map (·.1)).map iT).length < sizeLine := lts (by rw [List.length_map, List.length_map]; omega)
        rw [← ih]
        unfold wqH at *
        have em : (List.map (fun x => x.1) (T ++ [(r, e.2 ++ [g])])).map iT = (List.map (fun x => x.1) T).map iT ++ [iT r] := by rw [List.map_append, List.map_append]; rfl
        rw [em]
        generalize (List.map (fun x => x.1) T).map iT = TD at *
        simp [forL, sgD, e1, inn, hd, p, lz]
end
end K28

namespace K28
open PySem PySem.Spec Mi
abbrev anD (d : D) : D := .ins 2 [(0, d)]
theorem e_makeA (n : Nat) (d : D) (h : Hs) : mkI (callF defs (n + 1)) 12 2 [.d d] h = .ok (.d (anD d)) h := by
  unfold mkI
  rw [callF_at (md := ⟨2, 2, false, m_Answer__init_⟩) rfl rfl]
  simp [startL, ok_numbers, putN]
def zr (L : List Fm) : List Int := List.replicate L.length 0
theorem W_fine {L : List Fm} {j : Nat} (hj : (W L j).length ≤ 400000) : Fine (vOf L) (W L j) := ⟨fun e he => by
    obtain ⟨i, hi, rfl⟩ := List.mem_iff_getElem.mp he
    have := W_len L j i _ (List.getElem?_eq_getElem hi)
    omega, fun e he g hg => by
    have := (W_inv L j).g.fg e he g hg
    exact ⟨by rw [fig_ln _ g this, usL_len], fig_bit _ g this⟩⟩
theorem TS_len (L : List Fm) (j : Nat) : (TS L j).length = (W L j).length := by unfold TS; rw [List.length_map]
theorem run_len {L : List Fm} : ∀ (w : List (List Int)) {r r' : List Int}, r.length = L.length → runW L r w = some r' → r'.length = L.length
  | [], r, r', h, e => by cases e; exact h
  | g :: w, r, r', h, e => by
    obtain ⟨q, e1, e2⟩ := Option.bind_eq_some_iff.mp e
    exact run_len w ((turn_len (by rw [sumsD_len]; exact h) e1).trans h) e2
theorem W_ln {L : List Fm} {j : Nat} {e : WE} (he : e ∈ W L j) : e.1.length = L.length := run_len e.2 (by unfold stR; rw [List.length_map]) ((W_inv L j).g.rn e he)
theorem TS_ln {L : List Fm} {j : Nat} {r : List Int} (h : r ∈ TS L j) : r.length = L.length := by
  obtain ⟨e, he, rfl⟩ := List.mem_map.mp h
  exact W_ln he
section
variable {S0 S3 : D} {h : Hs}
/-- whole's while -/
theorem l_wh (n : Nat) {L : List Fm} {v : Nat} (s : Sy v L) (hv : vOf L = v) {j0 : Nat} (hj0 : j0 ≤ 400000) (h0 : (TS L j0).length ≤ j0) (h1 : (TS L j0).length ≤ 400000) (hf : (figR (usL L)).length ≤ 1024) (kvs : List (List L2.Key × D)) (c : Came (W L 0) kvs) :
    ∃ r, sWh (w_whole_2 (callF defs (n + 2))) (b_whole_3 (callF defs (n + 2))) [some (.d S0), some (.d (box true (L.map fmD))), some (.d (.lv ((figR (usL L)).map (sgD L)))), some (.d S3), some (.r h.length), some (.r (h.length + 1)), some (.d (.int 0)), none, none, none, none] (wqH h (W L 0) kvs) = r ∧
      ((∃ e ∈ W L j0, e.1 = zr L ∧ ∃ σ' h', r = .ok (.ret (.d (anD (iT (numOf v e.2))))) σ' h' ∧ h'.take h.length = h) ∨
       (zr L ∉ TS L j0 ∧ ∃ kvs' X A B C E, r = .ok .nx [some (.d S0), some (.d (box true (L.map fmD))), some (.d (.lv ((figR (usL L)).map (sgD L)))), some (.d S3), some (.r h.length), some (.r (h.length + 1)), X, A, B, C, E] (wqH h (W L j0) kvs'))) := by
  refine ⟨_, rfl, ?_⟩
  refine wh_ind (R := fun r => ((∃ e ∈ W L j0, e.1 = zr L ∧ ∃ σ' h', r = .ok (.ret (.d (anD (iT (numOf v e.2))))) σ' h' ∧ h'.take h.length = h) ∨
       (zr L ∉ TS L j0 ∧ ∃ kvs' X A B C E, r = .ok .nx [some (.d S0), some (.d (box true (L.map fmD))), some (.d (.lv ((figR (usL L)).map (sgD L)))), some (.d S3), some (.r h.length), some (.r (h.length + 1)), X, A, B, C, E] (wqH h (W L j0) kvs'))))
    (fun m σ h' => ∃ j kvs A B C E, j + m = j0 ∧ h' = wqH h (W L j) kvs ∧ Came (W L j) kvs ∧ (∀ i, i < j → ∀ e, (W L j)[i]? = some e → e.1 ≠ zr L) ∧ σ = [some (.d S0), some (.d (box true (L.map fmD))), some (.d (.lv ((figR (usL L)).map (sgD L)))), some (.d S3), some (.r h.length), some (.r (h.length + 1)), some (.d (.int (j : Nat))), A, B, C, E])
    (n := j0) ⟨0, kvs, none, none, none, none, by omega, rfl, c, fun i hi => absurd hi (by omega), rfl⟩ (by omega) (fun m σ h' p => ?_)
  obtain ⟨j, kvs, A, B, C, E, hm, rfl, c, nz, rfl⟩ := p
  obtain ⟨X, hX⟩ := W_grow L j m
  rw [hm] at hX
  have hle : (W L j).length ≤ (W L j0).length := by rw [hX, List.length_append]; omega
  rw [TS_len] at h0 h1
  have at1 : ∀ TD : List D, (h ++ [O.dt kvs, O.lst TD])[h.length + 1]? = some (.lst TD) := fun TD => by simp
  have nl := n_lenR (at1 (((W L j).map (·.1)).map iT))
  rw [List.length_map, List.length_map] at nl
  by_cases hj : (W L j).length ≤ j
  · have et : w_whole_2 (callF defs (n + 2)) [some (.d S0), some (.d (box true (L.map fmD))), some (.d (.lv ((figR (usL L)).map (sgD L)))), some (.d S3), some (.r h.length), some (.r (h.length + 1)), some (.d (.int (j : Nat))), A, B, C, E] (wqH h (W L j) kvs) = .ok false (wqH h (W L j) kvs) := by
      have hlt : ¬ ((j : Nat) : Int) < (((W L j).length : Nat) : Int) := by omega
      unfold wqH at *
      generalize ((W L j).map (·.1)).map iT = TD at *
      simp -implicitDefEqProofs [nl, hlt]
    rw [et]
    have es := W_stop hj m
    rw [hm] at es
    refine .inr ⟨fun hz => ?_, kvs, _, A, B, C, E, by rw [es]⟩
    obtain ⟨e, he, q⟩ := List.mem_map.mp hz
    rw [es] at he
    obtain ⟨i, hi, rfl⟩ := List.mem_iff_getElem.mp he
    exact nz i (by omega) _ (List.getElem?_eq_getElem hi) q
  · have hlt : j < (W L j).length := by omega
    have et : w_whole_2 (callF defs (n + 2)) [some (.d S0), some (.d (box true (L.map fmD))), some (.d (.lv ((figR (usL L)).map (sgD L)))), some (.d S3), some (.r h.length), some (.r (h.length + 1)), some (.d (.int (j : Nat))), A, B, C, E] (wqH h (W L j) kvs) = .ok true (wqH h (W L j) kvs) := by
      have hlt : ((j : Nat) : Int) < (((W L j).length : Nat) : Int) := by omega
      unfold wqH at *
      generalize ((W L j).map (·.1)).map iT = TD at *
      simp -implicitDefEqProofs [nl, hlt]
    rw [et]
    obtain ⟨m', rfl⟩ : ∃ m', m = m' + 1 := ⟨m - 1, by omega⟩
    refine ⟨m', rfl, ?_⟩
    have hg := List.getElem?_eq_getElem hlt
    generalize (W L j)[j] = e at *
    have he := List.mem_of_getElem? hg
    have er : e.1.length = L.length := W_ln he
    have sl := s.ln
    have ix : oIx (.r (h.length + 1)) (.d (.int (j : Int))) (wqH h (W L j) kvs) = some (.d (iT e.1), wqH h (W L j) kvs) := by
      rw [o_ixR (xs := ((W L j).map (·.1)).map iT) (by simp), atI_nat, List.getElem?_map, List.getElem?_map, hg]; rfl
    have ez : callF defs (n + 2) 6 [.d (iT e.1)] (wqH h (W L j) kvs) = .ok (.d (.bl (e.1.all (· == 0)))) (wqH h (W L j) kvs) := e_zero (n + 1) (e.1, true) _ (lts (by dsimp only; omega))
    rw [all_zero er] at ez
    by_cases hz : e.1 = List.replicate L.length 0
    · rw [decide_eq_true hz] at ez
      have fn := W_fine (L := L) (j := j) (by omega)
      have rd := e_read (n + 1) (vOf L) c fn (by have := s.v.1; omega) he h
      have ev : callF defs (n + 2) 4 [.d (box true (L.map fmD))] (wqH h (W L j) kvs) = .ok (.d (.int (vOf L : Nat))) (wqH h (W L j) kvs) := e_vars (n + 1) true L _
      have mk := e_makeA (n + 1) (iT (numOf (vOf L) e.2)) (wqH h (W L j) kvs)
      have eb : b_whole_3 (callF defs (n + 2)) [some (.d S0), some (.d (box true (L.map fmD))), some (.d (.lv ((figR (usL L)).map (sgD L)))), some (.d S3), some (.r h.length), some (.r (h.length + 1)), some (.d (.int (j : Nat))), A, B, C, E] (wqH h (W L j) kvs) =
          .ok (.ret (.d (anD (iT (numOf (vOf L) e.2))))) [some (.d S0), some (.d (box true (L.map fmD))), some (.d (.lv ((figR (usL L)).map (sgD L)))), some (.d S3), some (.r h.length), some (.r (h.length + 1)), some (.d (.int (j : Nat))), some (.d (iT e.1)), B, C, E] (wqH h (W L j) kvs) := by
        generalize wqH h (W L j) kvs = H at *
        generalize iT (numOf (vOf L) e.2) = AN at *
        simp -implicitDefEqProofs [ix, ez, rd, ev, mk]
      rw [eb]
      exact .inl ⟨e, by rw [hX]; exact List.mem_append_left _ he, hz, _, _, by rw [hv], by simp⟩
    · rw [decide_eq_false hz] at ez
      have hG := nextG L e (W L j)
      have hN : W L (j + 1) = nextW L e (W L j) := by rw [W, hg]
      obtain ⟨kvs', A', B', C', c', q⟩ := l_wh1 (S0 := S0) (S1 := box true (L.map fmD)) (S2 := .lv ((figR (usL L)).map (sgD L))) (S3 := S3) (S6 := .int (j : Nat)) (h := h) (n + 1) (L := L) e (by omega) (figR (usL L)) (W L j) kvs B C E c he (by omega)
      rw [hG, ← hN] at c' q
      have eb : b_whole_3 (callF defs (n + 2)) [some (.d S0), some (.d (box true (L.map fmD))), some (.d (.lv ((figR (usL L)).map (sgD L)))), some (.d S3), some (.r h.length), some (.r (h.length + 1)), some (.d (.int (j : Nat))), A, B, C, E] (wqH h (W L j) kvs) =
          .ok .nx [some (.d S0), some (.d (box true (L.map fmD))), some (.d (.lv ((figR (usL L)).map (sgD L)))), some (.d S3), some (.r h.length), some (.r (h.length + 1)), some (.d (.int ((j + 1 : Nat) : Int))), some (.d (iT e.1)), A', B', C'] (wqH h (W L (j + 1)) kvs') := by
        generalize wqH h (W L j) kvs = H at *
        generalize wqH h (W L (j + 1)) kvs' = H' at *
        have ej : ((j : Nat) : Int) + 1 = ((j + 1 : Nat) : Int) := by omega
        simp -implicitDefEqProofs [ix, ez, q]
      rw [eb]
      dsimp only
      refine ⟨j + 1, kvs', some (.d (iT e.1)), clr1 (h.length + 2) A', clr1 (h.length + 2) B', clr1 (h.length + 2) C', by omega, by simp, c', fun i hi a ha => ?_, by simp⟩
      rcases (by omega : i < j ∨ i = j) with q | rfl
      · refine nz i q a ?_
        obtain ⟨Y, hY⟩ := W_grow L j 1
        rw [hY, List.getElem?_append_left (by omega)] at ha
        exact ha
      · obtain ⟨Y, hY⟩ := W_grow L i 1
        rw [hY, List.getElem?_append_left (by omega), hg] at ha
        cases ha
        exact hz
end
theorem same_turns {L L' : List Fm} (e : L'.map (·.1) = L.map (·.1)) (r : List Int) : turns L' r = turns L r := by
  unfold turns
  rw [same_us e]
  congr 1
  funext g
  rw [same_sums e]
theorem same_st {L L' : List Fm} (e : L'.map (·.1) = L.map (·.1)) : stR L' = stR L := by
  have h := congrArg (List.map fun x : Int × List Int => x.1) e
  rw [List.map_map, List.map_map] at h
  exact h
theorem same_W {L L' : List Fm} (e : L'.map (·.1) = L.map (·.1)) : ∀ j, W L' j = W L j
  | 0 => by unfold W; rw [same_st e]
  | j + 1 => by
    unfold W
    rw [same_W e j]
    unfold nextW
    simp only [same_turns e]
theorem same_len {L L' : List Fm} (e : L'.map (·.1) = L.map (·.1)) : L'.length = L.length := by
  have := congrArg List.length e
  simpa using this
theorem same_vOf {L L' : List Fm} (e : L'.map (·.1) = L.map (·.1)) : vOf L' = vOf L := by
  rw [← usL_len, ← usL_len, same_us e]
/-! ### the rows in order -/
theorem pds_ints : ∀ l : List Int, D.pds (l.map D.int) = l.map PyData.int
  | [] => rfl
  | i :: l => by rw [List.map_cons, D.pds, pds_ints l]; rfl
theorem alike_T (a b : List Int) : PySem.W.alike (iT a).pd (iT b).pd = true := by
  unfold iT
  rw [D.pd, D.pd, pds_ints, pds_ints]
  show PySem.W.alikeAll _ _ = true
  exact PySem.W.alike_ints a b
theorem so_ok {R : List (List Int)} {m : Nat} (hm : 1 ≤ m) (hR : ∀ r ∈ R, r.length = m) (hz : R.length ≤ 1000000) : sortOk (R.map iT) = true := by
  unfold sortOk
  have a1 : (R.map iT).all shp = true := List.all_eq_true.mpr fun d hd => by
    obtain ⟨r, _, rfl⟩ := List.mem_map.mp hd
    exact shp_T r
  have a2 : ((R.map iT).all fun a => (R.map iT).all fun b => PySem.W.alike a.pd b.pd) = true := List.all_eq_true.mpr fun d hd => List.all_eq_true.mpr fun d' hd' => by
    obtain ⟨r, _, rfl⟩ := List.mem_map.mp hd
    obtain ⟨r', _, rfl⟩ := List.mem_map.mp hd'
    exact alike_T r r'
  have a3 : (R.map iT).all tup1 = true := List.all_eq_true.mpr fun d hd => by
    obtain ⟨r, hr, rfl⟩ := List.mem_map.mp hd
    have := hR r hr
    cases r with
    | nil => rw [List.length_nil] at this; omega
    | cons c r => rfl
  rw [a1, a2, a3, Nat.ble_eq_true_of_le (les (by rw [List.length_map]; exact hz))]
  rfl
theorem n_sortR {k : Nat} {ds : List D} {h : Hs} (e : h[k]? = some (.lst ds)) (ok : sortOk ds = true) : nSorted [.r k] h = some (.d (.lv (sortD ds)), h) := by
  unfold nSorted lstOf
  simp only [e]
  rw [if_pos ok]
theorem n_sortL {ds : List D} {h : Hs} (ok : sortOk ds = true) : nSorted [.d (.lv ds)] h = some (.d (.lv (sortD ds)), h) := by
  unfold nSorted lstOf
  dsimp only
  rw [if_pos ok]
theorem ap_dt1 {σ : Lo} {h : Hs} {f : SemE} {r : List Int} (e : f σ (h ++ [.dt []]) = .ok (.d (iT r)) (h ++ [.dt []])) : eDt1 f (eK .non) σ h = .ok (.r h.length) (h ++ [.dt [(kT r, .non)]]) := by
  unfold eDt1
  rw [e]
  simp [toD]
theorem e_wholeS (n : Nat) (b : Bool) {L : List Fm} {v : Nat} (s : Sy v L) (hv : vOf L = v) {j0 : Nat} (hl : 1 ≤ L.length ∨ zr L ∈ TS L j0) (hj0 : j0 ≤ 400000) (h0 : (TS L j0).length ≤ j0) (h1 : (TS L j0).length ≤ 400000) (h : Hs) :
    ∃ res, callF defs (n + 3) 10 [.d (box b (L.map fmD))] h = .ok (.d res) h ∧
      ((∃ e ∈ W L j0, e.1 = zr L ∧ res = anD (iT (numOf v e.2))) ∨ (zr L ∉ TS L j0 ∧ res = crD (.tup (sortD ((TS L j0).map iT))))) := by
  rw [callF_at (md := ⟨1, 11, false, m_whole⟩) rfl rfl]
  have em : (L.map tgF).map (·.1) = L.map (·.1) := by rw [List.map_map]; rfl
  have ec := e_check n b L s.vs (by have := s.ln; omega) (by have := s.vl; omega) h
  have s' := same_sy em s
  have ev := same_vOf em
  have es := same_st em
  have el := same_len em
  have ew := same_W em
  have et : ∀ j, TS (L.map tgF) j = TS L j := fun j => by unfold TS; rw [ew]
  have ez : zr (L.map tgF) = zr L := by unfold zr; rw [el]
  generalize L.map tgF = L' at *
  have ef : callF defs (n + 2) 7 [.d (box true (L'.map fmD))] h = .ok (.d (.lv ((figR (usL L')).map (sgD L')))) h := e_figs n s' h
  have e5 : callF defs (n + 2) 5 [.d (box true (L'.map fmD))] h = .ok (.d (iT (stR L'))) h := e_start (n + 1) true L' h (lts (by have := s'.ln; omega))
  have c : Came (W L' 0) [(kT (stR L'), D.non)] := by
    have l := Lst.nil.put (stR L') .non
    have lp : putD [] (kT (stR L')) D.non = [(kT (stR L'), D.non)] := rfl
    rw [lp] at l
    refine ⟨l, fun e he => ?_⟩
    have := List.mem_singleton.mp he
    subst this
    exact .inl ⟨rfl, by unfold valD; simp⟩
  obtain ⟨r, q, hr⟩ := l_wh (S0 := box b (L.map fmD)) (S3 := iT (stR L')) (h := h) n s' (by rw [ev]; exact hv) hj0 (by rw [et]; exact h0) (by rw [et]; exact h1) (fig_lt (by rw [usL_len]; exact s'.v.1)) _ c
  have d1 : eDt1 (eVar 3) (eK .non) [some (.d (box b (L.map fmD))), some (.d (box true (L'.map fmD))), some (.d (.lv ((figR (usL L')).map (sgD L')))), some (.d (iT (stR L'))), none, none, none, none, none, none, none] h = .ok (.r h.length) (h ++ [.dt [(kT (stR L'), .non)]]) := ap_dt1 (by simp)
  have hw : wqH h (W L' 0) [(kT (stR L'), D.non)] = h ++ [.dt [(kT (stR L'), .non)], .lst [iT (stR L')]] := rfl
  rw [hw] at q
  have hb : m_whole (callF defs (n + 2)) (startL 11 [.d (box b (L.map fmD))]) h = ss r (sRt (eMk (callF defs (n + 2)) 14 3 [] (aCons (eN nTuple (aCons (eN nSorted (aCons (eVar 5) aNil)) aNil)) aNil))) := by
    simp -implicitDefEqProofs [startL, ec, ef, e5, d1, q]
  rcases hr with ⟨e, he, hz, σ', h', rfl, tk⟩ | ⟨hz, kvs', X, A, B, C, E, rfl⟩
  · refine ⟨_, ?_, .inl ⟨e, by rw [← ew]; exact he, by rw [hz, ez], rfl⟩⟩
    show fin false h.length (m_whole (callF defs (n + 2)) (startL 11 [.d (box b (L.map fmD))]) h) = _
    rw [hb]
    show Res.ok (Vl.d _) (h'.take h.length) = _
    rw [tk]
  · refine ⟨_, ?_, .inr ⟨by rw [← ez, ← et]; exact hz, rfl⟩⟩
    show fin false h.length (m_whole (callF defs (n + 2)) (startL 11 [.d (box b (L.map fmD))]) h) = _
    rw [hb]
    have so := so_ok (R := TS L j0) (hl.resolve_right (by rw [← ez, ← et]; exact hz)) (fun r hr => TS_ln hr) (by omega)
    have ns := n_sortR (k := h.length + 1) (h := wqH h (W L' j0) kvs') (ds := (TS L j0).map iT) (by rw [← et]; simp [TS]) so
    have mk := e_make (n + 1) (.tup (sortD ((TS L j0).map iT))) (wqH h (W L' j0) kvs')
    have tk : (wqH h (W L' j0) kvs').take h.length = h := by simp
    generalize wqH h (W L' j0) kvs' = H at *
    generalize sortD ((TS L j0).map iT) = SD at *
    simp -implicitDefEqProofs [ns, mk, tk]
end K28

namespace K28
open PySem PySem.Spec Mi
/-! ### numbers as words -/
def kw : Nat → List Int → List (List Int)
  | 0, _ => []
  | k + 1, N => if N.all (· == 0) = true then [] else N.map (· % 2) :: kw k (N.map (· / 2))
def FitU : List Bool → List Int → Prop
  | [], [] => True
  | u :: us, n :: N => (0 ≤ n ∧ (u = false → n = 0)) ∧ FitU us N
  | _, _ => False
def OkR : List Bool → List Int → Prop
  | [], [] => True
  | u :: us, g :: r => (g = 0 ∨ (g = 1 ∧ u = true)) ∧ OkR us r
  | _, _ => False
def Lt2 (k : Nat) (N : List Int) : Prop := ∀ n ∈ N, n.toNat < 2 ^ k
theorem FitU.len : ∀ {us : List Bool} {N : List Int}, FitU us N → N.length = us.length
  | [], [], _ => rfl
  | [], _ :: _, h => h.elim
  | _ :: _, [], h => h.elim
  | u :: us, n :: N, h => by rw [List.length_cons, List.length_cons, h.2.len]
theorem FitU.nn : ∀ {us : List Bool} {N : List Int}, FitU us N → ∀ n ∈ N, 0 ≤ n
  | [], [], _, n, hn => nomatch hn
  | [], _ :: _, h, _, _ => h.elim
  | _ :: _, [], h, _, _ => h.elim
  | u :: us, a :: N, h, n, hn => by
    rcases List.mem_cons.mp hn with rfl | hn
    · exact h.1.1
    · exact h.2.nn n hn
theorem FitU.half : ∀ {us : List Bool} {N : List Int}, FitU us N → FitU us (N.map (· / 2)) ∧ OkR us (N.map (· % 2))
  | [], [], _ => ⟨trivial, trivial⟩
  | [], _ :: _, h => h.elim
  | _ :: _, [], h => h.elim
  | u :: us, n :: N, h => by
    obtain ⟨h1, h2⟩ := h.2.half
    obtain ⟨⟨a, b⟩, _⟩ := h
    refine ⟨⟨⟨(by show (0 : Int) ≤ n / 2; omega), fun q => (by have := b q; show n / 2 = 0; omega)⟩, h1⟩, ?_, h2⟩
    cases u with
    | false => have := b rfl; subst this; exact .inl rfl
    | true => rcases Int.emod_two_eq n with e | e
              · exact .inl e
              · exact .inr ⟨e, rfl⟩
theorem kw_ok : ∀ (k : Nat) {us : List Bool} {N : List Int}, FitU us N → ∀ r ∈ kw k N, OkR us r
  | 0, _, _, _, r, hr => nomatch hr
  | k + 1, us, N, h, r, hr => by
    unfold kw at hr
    obtain ⟨h1, h2⟩ := h.half
    split at hr
    · cases hr
    · rcases List.mem_cons.mp hr with rfl | hr
      · exact h2
      · exact kw_ok k h1 r hr
theorem all0 {N : List Int} (h : N.all (· == 0) = true) : N = List.replicate N.length 0 := List.eq_replicate_iff.mpr ⟨rfl, fun n hn => by
  have := List.all_eq_true.mp h n hn
  simpa using this⟩
theorem num2_half : ∀ N : List Int, num2 (N.map (· / 2)) (N.map (· % 2)) = N
  | [] => rfl
  | n :: N => by
    have ih := num2_half N
    unfold num2 at *
    rw [List.map_cons, List.map_cons, List.zipWith_cons_cons, ih]
    congr 1
    omega
theorem num_kw : ∀ (k : Nat) (N : List Int), (∀ n ∈ N, 0 ≤ n) → Lt2 k N → numOf N.length (kw k N) = N
  | 0, N, h, l => by
    show List.replicate N.length 0 = N
    exact (List.eq_replicate_iff.mpr ⟨rfl, fun n hn => by have := l n hn; have := h n hn; rw [Nat.pow_zero] at *; omega⟩).symm
  | k + 1, N, h, l => by
    unfold kw
    split
    · rename_i z
      exact (all0 z).symm
    · show num2 (numOf N.length (kw k (N.map (· / 2)))) (N.map (· % 2)) = N
      have ih := num_kw k (N.map (· / 2)) (fun n hn => by
        obtain ⟨m, hm, rfl⟩ := List.mem_map.mp hn
        have := h m hm
        omega) fun n hn => by
        obtain ⟨m, hm, rfl⟩ := List.mem_map.mp hn
        have h1 := h m hm
        have h2 := l m hm
        rw [Nat.pow_succ] at h2
        generalize 2 ^ k = z at *
        omega
      rw [List.length_map] at ih
      rw [ih, num2_half]
theorem sle_cons (g : List Int) {a b : List (List Int)} (h : sle a b) : sle (g :: a) (g :: b) := by
  rcases h with rfl | h
  · exact .inl rfl
  · refine .inr (sl_iff.mpr ?_)
    rw [List.length_cons, List.length_cons]
    rcases sl_iff.mp h with h | ⟨e, h⟩
    · exact .inl (by omega)
    · refine .inr ⟨by omega, ?_⟩
      unfold ltW lexB
      rw [if_pos rfl]
      exact h
theorem half_num2 : ∀ {N g : List Int}, N.length = g.length → Bit g → (num2 N g).map (· % 2) = g ∧ (num2 N g).map (· / 2) = N
  | [], [], _, _ => ⟨rfl, rfl⟩
  | [], _ :: _, h, _ => by cases h
  | _ :: _, [], h, _ => by cases h
  | n :: N, b :: g, h, hb => by
    obtain ⟨h1, h2⟩ := half_num2 (N := N) (g := g) (by simpa using h) fun i hi => hb i (List.mem_cons_of_mem _ hi)
    unfold num2 at *
    rw [List.zipWith_cons_cons, List.map_cons, List.map_cons, h1, h2]
    rcases hb b List.mem_cons_self with rfl | rfl
    · exact ⟨by congr 1; omega, by congr 1; omega⟩
    · exact ⟨by congr 1; omega, by congr 1; omega⟩
theorem strip (v : Nat) : ∀ (w : List (List Int)) (k : Nat), (∀ g ∈ w, g.length = v ∧ Bit g) → sle (kw k (numOf v w)) w
  | w, 0, _ => nil_sle w
  | [], k + 1, _ => by
    unfold kw
    have : (numOf v []).all (· == 0) = true := by
      show (List.replicate v (0 : Int)).all (· == 0) = true
      rw [List.all_eq_true]
      intro x hx
      rw [(List.mem_replicate.mp hx).2]; rfl
    rw [if_pos this]
    exact .inl rfl
  | g :: w, k + 1, h => by
    unfold kw
    split
    · exact nil_sle _
    · have hg := h g List.mem_cons_self
      have ih := strip v w k fun x hx => h x (List.mem_cons_of_mem _ hx)
      have nl := num_len v w fun x hx => (h x (List.mem_cons_of_mem _ hx)).1
      show sle ((num2 (numOf v w) g).map (· % 2) :: kw k ((num2 (numOf v w) g).map (· / 2))) (g :: w)
      obtain ⟨a, b⟩ := half_num2 (N := numOf v w) (g := g) (by rw [nl, hg.1]) hg.2
      rw [a, b]
      exact sle_cons g ih
theorem kw_len : ∀ (m k : Nat) (N : List Int), (∀ n ∈ N, 0 ≤ n) → Lt2 m N → (kw k N).length ≤ m
  | m, 0, N, _, _ => Nat.zero_le _
  | 0, k + 1, N, h, l => by
    unfold kw
    have : N.all (· == 0) = true := List.all_eq_true.mpr fun n hn => by
      have h1 := l n hn
      have h2 := h n hn
      rw [Nat.pow_zero] at h1
      have : n = 0 := by omega
      rw [this]; rfl
    rw [if_pos this]
    exact Nat.le_refl _
  | m + 1, k + 1, N, h, l => by
    unfold kw
    split
    · exact Nat.zero_le _
    · rw [List.length_cons]
      have := kw_len m k (N.map (· / 2)) (fun n hn => by
        obtain ⟨m, hm, rfl⟩ := List.mem_map.mp hn
        have := h m hm
        omega) fun n hn => by
        obtain ⟨m', hm, rfl⟩ := List.mem_map.mp hn
        have h1 := h m' hm
        have h2 := l m' hm
        rw [Nat.pow_succ] at h2
        generalize 2 ^ m = z at *
        omega
      omega
/-! ### which figure rows there are -/
theorem mem_ext {us : List Bool} : ∀ {rows : List (List Int)} {r : List Int}, r ∈ us.foldl extR rows ↔ ∃ r0 ∈ rows, ∃ s, r = r0 ++ s ∧ OkR us s := by
  induction us with
  | nil =>
    intro rows r
    constructor
    · intro h
      exact ⟨r, h, [], by simp, trivial⟩
    · rintro ⟨r0, h, s, rfl, hs⟩
      cases s with
      | nil => simpa using h
      | cons a s => exact hs.elim
  | cons u us ih =>
    intro rows r
    rw [List.foldl_cons, ih]
    constructor
    · rintro ⟨r1, h1, s, rfl, hs⟩
      unfold extR at h1
      obtain ⟨r0, h0, h1⟩ := List.mem_flatMap.mp h1
      obtain ⟨g, hg, rfl⟩ := List.mem_map.mp h1
      refine ⟨r0, h0, g :: s, by simp, ?_, hs⟩
      cases u with
      | false =>
        have : g = 0 := by simpa using hg
        exact .inl this
      | true =>
        have : g = 0 ∨ g = 1 := by simpa using hg
        rcases this with h | h
        · exact .inl h
        · exact .inr ⟨h, rfl⟩
    · rintro ⟨r0, h0, s, rfl, hs⟩
      cases s with
      | nil => exact hs.elim
      | cons g s =>
        refine ⟨r0 ++ [g], ?_, s, by simp, hs.2⟩
        unfold extR
        refine List.mem_flatMap.mpr ⟨r0, h0, List.mem_map.mpr ⟨g, ?_, rfl⟩⟩
        rcases hs.1 with rfl | ⟨rfl, rfl⟩
        · cases u <;> simp
        · simp
theorem mem_fig {us : List Bool} {r : List Int} : r ∈ figR us ↔ OkR us r := by
  unfold figR
  rw [mem_ext]
  constructor
  · rintro ⟨r0, h0, s, rfl, hs⟩
    have := List.mem_singleton.mp h0
    subst this
    exact hs
  · intro h
    exact ⟨[], by simp, r, rfl, h⟩
theorem num_fit {us : List Bool} {v : Nat} (hv : us.length = v) : ∀ w : List (List Int), (∀ g ∈ w, OkR us g) → FitU us (numOf v w)
  | [], _ => by
    subst hv
    show FitU us (List.replicate us.length 0)
    have z : ∀ us : List Bool, FitU us (List.replicate us.length 0) := fun us => by
      induction us with
      | nil => trivial
      | cons u us ih => exact ⟨⟨by omega, fun _ => rfl⟩, ih⟩
    exact z us
  | g :: w, h => by
    have ih := num_fit hv w fun x hx => h x (List.mem_cons_of_mem _ hx)
    have hg := h g List.mem_cons_self
    show FitU us (num2 (numOf v w) g)
    generalize numOf v w = N at *
    clear h hv
    induction us generalizing N g with
    | nil =>
      cases N with
      | nil => cases g with
        | nil => trivial
        | cons a g => exact hg.elim
      | cons a N => exact ih.elim
    | cons u us ih2 =>
      cases N with
      | nil => exact ih.elim
      | cons n N => cases g with
        | nil => exact hg.elim
        | cons a g =>
          unfold num2
          rw [List.zipWith_cons_cons]
          refine ⟨⟨?_, fun q => ?_⟩, ih2 g hg.2 N ih.2⟩
          · have := ih.1.1
            rcases hg.1 with rfl | ⟨rfl, _⟩ <;> omega
          · have := ih.1.2 q
            rcases hg.1 with rfl | ⟨_, z⟩
            · omega
            · rw [q] at z; cases z
/-! ### the least answer -/
theorem sol_word {L : List Fm} {N : List Int} (hf : FitU (usL L) N) (hb : Lt2 hugeE N) (hs : Solves L (stR L) N) : runW L (stR L) (kw hugeE N) = some (zr L) ∧ ∀ g ∈ kw hugeE N, g ∈ figR (usL L) := by
  have fg : ∀ g ∈ kw hugeE N, g ∈ figR (usL L) := fun g hg => mem_fig.mpr (kw_ok hugeE hf g hg)
  have nl : N.length = vOf L := by rw [hf.len, usL_len]
  have nk := num_kw hugeE N hf.nn hb
  rw [nl] at nk
  refine ⟨(run_zero L (vOf L) (kw hugeE N) (stR L) (by unfold stR; rw [List.length_map]) fun g hg => by rw [fig_ln _ g (fg g hg), usL_len]).mpr (by rw [nk]; exact hs), fg⟩
theorem no_sol {L : List Fm} {j0 : Nat} (h0 : (TS L j0).length ≤ j0) (hz : zr L ∉ TS L j0) {N : List Int} (hf : FitU (usL L) N) (hb : Lt2 hugeE N) : ¬ Solves L (stR L) N := fun hs => by
  obtain ⟨h1, h2⟩ := sol_word hf hb hs
  obtain ⟨e, he, q, _⟩ := reach_all (W_inv L j0) (by rw [← TS_len]; exact h0) _ _ _ rfl h2 h1
  exact hz (by rw [← q]; exact List.mem_map.mpr ⟨e, he, rfl⟩)
structure Ans (L : List Fm) (N : List Int) : Prop where
  fit : FitU (usL L) N
  lt : Lt2 hugeE N
  sol : Solves L (stR L) N
  min : ∀ N', FitU (usL L) N' → Lt2 hugeE N' → Solves L (stR L) N' → sle (kw hugeE N) (kw hugeE N')
theorem is_ans {L : List Fm} {j0 : Nat} (h0 : (TS L j0).length ≤ j0) (h1 : (TS L j0).length ≤ 400000) {e : WE} (he : e ∈ W L j0) (hz : e.1 = zr L) : Ans L (numOf (vOf L) e.2) := by
  have I := W_inv L j0
  rw [TS_len] at h0 h1
  have F := W_fine h1
  have fg := I.g.fg e he
  have rn := I.g.rn e he
  rw [hz] at rn
  refine ⟨num_fit (usL_len L) e.2 fun g hg => mem_fig.mp (fg g hg), fun n hn => ?_, (run_zero L (vOf L) e.2 (stR L) (by unfold stR; rw [List.length_map]) fun g hg => (F.fg e he g hg).1).mp rn, fun N' hf hb hs => ?_⟩
  · obtain ⟨a, b⟩ := num_bd (vOf L) e.2 (fun g hg => (F.fg e he g hg).2) n hn
    have : 2 ^ e.2.length ≤ 2 ^ hugeE := Nat.pow_le_pow_right (by omega) (F.ln e he)
    have : n.toNat = n.natAbs := by omega
    rw [this]
    exact Nat.lt_of_lt_of_le b ‹_›
  · obtain ⟨q1, q2⟩ := sol_word hf hb hs
    obtain ⟨e', he', r1, r2⟩ := reach_all I h0 _ _ _ rfl q2 q1
    have ee : e' = e := by
      obtain ⟨i, hi, rfl⟩ := List.mem_iff_getElem.mp he
      obtain ⟨k, hk, rfl⟩ := List.mem_iff_getElem.mp he'
      have nd := List.pairwise_iff_getElem.mp I.g.nd
      rcases (by omega : k < i ∨ k = i ∨ i < k) with z | rfl | z
      · have := nd k i (by rw [List.length_map]; exact hk) (by rw [List.length_map]; exact hi) z
        rw [List.getElem_map, List.getElem_map] at this
        exact absurd (r1.trans hz.symm) this
      · rfl
      · have := nd i k (by rw [List.length_map]; exact hi) (by rw [List.length_map]; exact hk) z
        rw [List.getElem_map, List.getElem_map] at this
        exact absurd (hz.trans r1.symm) this
    rw [ee] at r2
    exact (strip (vOf L) e.2 hugeE fun g hg => F.fg e he g hg).tr r2
end K28

namespace K28
open PySem PySem.Spec Mi
/-! ### how many rows there can be -/
theorem nodup_le {α : Type} [DecidableEq α] : ∀ (l m : List α), l.Nodup → (∀ x ∈ l, x ∈ m) → l.length ≤ m.length
  | [], m, _, _ => Nat.zero_le _
  | x :: l, m, h, hm => by
    obtain ⟨h1, h2⟩ := List.nodup_cons.mp h
    have hx := hm x List.mem_cons_self
    have ih := nodup_le l (m.erase x) h2 fun y hy => by
      have : y ≠ x := fun q => h1 (by rw [← q]; exact hy)
      exact (List.mem_erase_of_ne this).mpr (hm y (List.mem_cons_of_mem _ hy))
    have := List.length_erase_of_mem hx
    have := List.length_pos_iff.mpr (List.ne_nil_of_mem hx)
    rw [List.length_cons]
    omega
def posS : List Int → Int
  | [] => 0
  | f :: fs => (if 0 < f then f else 0) + posS fs
def negS : List Int → Int
  | [] => 0
  | f :: fs => (if f < 0 then -f else 0) + negS fs
theorem pos_nn : ∀ l, 0 ≤ posS l
  | [] => Int.le_refl _
  | f :: fs => by have := pos_nn fs; unfold posS; split <;> omega
theorem neg_nn : ∀ l, 0 ≤ negS l
  | [] => Int.le_refl _
  | f :: fs => by have := neg_nn fs; unfold negS; split <;> omega
theorem dot_in (Z : Int) : ∀ (fs N : List Int), (∀ n ∈ N, 0 ≤ n ∧ n ≤ Z) → 0 ≤ Z → -(negS fs * Z) ≤ dotA 0 fs N ∧ dotA 0 fs N ≤ posS fs * Z
  | [], N, _, hZ => by simp [dotA, posS, negS]
  | f :: fs, [], _, hZ => by
    have h1 := Int.mul_nonneg (pos_nn (f :: fs)) hZ
    have h2 := Int.mul_nonneg (neg_nn (f :: fs)) hZ
    simp only [dotA]
    omega
  | f :: fs, n :: N, hn, hZ => by
    have ih := dot_in Z fs N (fun x hx => hn x (List.mem_cons_of_mem _ hx)) hZ
    obtain ⟨a, b⟩ := hn n List.mem_cons_self
    unfold dotA posS negS
    rw [dotA_add, Int.add_mul, Int.add_mul]
    rcases (by omega : 0 < f ∨ f = 0 ∨ f < 0) with q | rfl | q
    · rw [if_pos q, if_neg (by omega : ¬ f < 0)]
      have h1 : 0 ≤ f * n := Int.mul_nonneg (by omega) a
      have h2 : f * n ≤ f * Z := Int.mul_le_mul_of_nonneg_left b (by omega)
      omega
    · rw [if_neg (by omega), if_neg (by omega)]
      simp only [Int.zero_mul]
      omega
    · rw [if_neg (by omega : ¬ 0 < f), if_pos q]
      have h1 : 0 ≤ (-f) * n := Int.mul_nonneg (by omega) a
      have h2 : (-f) * n ≤ (-f) * Z := Int.mul_le_mul_of_nonneg_left b (by omega)
      rw [Int.neg_mul] at h1 h2
      omega
/-- Z times the row behind is the row ahead and the products -/
def Lead (Z : Int) (N : List Int) : List Fm → List Int → List Int → Prop
  | [], [], [] => True
  | x :: L, c :: r, d :: r' => Z * d = c + dotA 0 x.1.2 N ∧ Lead Z N L r r'
  | _, _, _ => False
theorem lead_turn {g : List Int} : ∀ {L : List Fm} {r r' : List Int}, r.length = L.length → turn r (sumsD L g) = some r' → Lead 2 g L r r'
  | [], [], r', _, e => by unfold turn at e; cases e; exact trivial
  | [], _ :: _, _, h, _ => by cases h
  | _ :: _, [], _, h, _ => by cases h
  | x :: L, c :: r, r', h, e => by
    have e : (if (c + dotA 0 x.1.2 g) % 2 = 0 then (turn r (sumsD L g)).map (((c + dotA 0 x.1.2 g) / 2) :: ·) else none) = some r' := e
    split at e
    · rename_i ev
      obtain ⟨q, e1, rfl⟩ := Option.map_eq_some_iff.mp e
      exact ⟨by omega, lead_turn (by simpa using h) e1⟩
    · cases e
theorem lead_comp {Z : Int} {N g : List Int} (hN : N.length = g.length) : ∀ {L : List Fm} {r r1 r' : List Int}, Lead 2 g L r r1 → Lead Z N L r1 r' → Lead (2 * Z) (num2 N g) L r r'
  | [], [], [], [], _, _ => trivial
  | x :: L, c :: r, d :: r1, e :: r', h1, h2 => by
    refine ⟨?_, lead_comp hN h1.2 h2.2⟩
    have a := h1.1
    have b := h2.1
    rw [dot_num x.1.2 N g hN, Int.mul_assoc, b]
    omega
  | [], [], [], _ :: _, _, h => h.elim
  | [], [], _ :: _, _, h, _ => h.elim
  | [], _ :: _, _, _, h, _ => h.elim
  | _ :: _, [], _, _, h, _ => h.elim
  | _ :: _, _ :: _, [], _, h, _ => h.elim
  | _ :: _, _ :: _, _ :: _, [], _, h => h.elim
theorem lead_nil {v : Nat} : ∀ {L : List Fm} {r : List Int}, r.length = L.length → Lead 1 (List.replicate v 0) L r r
  | [], [], _ => trivial
  | [], _ :: _, h => by cases h
  | _ :: _, [], h => by cases h
  | x :: L, c :: r, h => ⟨by rw [dot_zero]; omega, lead_nil (by simpa using h)⟩
theorem lead_run {v : Nat} {L : List Fm} : ∀ (w : List (List Int)) {r r' : List Int}, r.length = L.length → (∀ g ∈ w, g.length = v) → runW L r w = some r' → Lead (2 ^ w.length) (numOf v w) L r r'
  | [], r, r', h, _, e => by cases e; exact lead_nil h
  | g :: w, r, r', h, hw, e => by
    obtain ⟨q, e1, e2⟩ := Option.bind_eq_some_iff.mp e
    have l1 := lead_turn h e1
    have ql := turn_len (by rw [sumsD_len]; exact h) e1
    have l2 := lead_run w (by omega) (fun x hx => hw x (List.mem_cons_of_mem _ hx)) e2
    have hN := num_len v w fun x hx => hw x (List.mem_cons_of_mem _ hx)
    have := lead_comp (by rw [hN, hw g List.mem_cons_self]) l1 l2
    rw [List.length_cons, Int.pow_succ, Int.mul_comm]
    exact this
def cube (S : Nat) : List Int → List (List Int)
  | [] => [[]]
  | a :: as => (List.range (S + 1)).flatMap fun i : Nat => (cube S as).map fun r => (a + (i : Int)) :: r
theorem flat_len {α β : Type} {f : α → List β} {n : Nat} : ∀ {l : List α}, (∀ a ∈ l, (f a).length ≤ n) → (l.flatMap f).length ≤ l.length * n
  | [], _ => by simp
  | a :: l, h => by
    have := flat_len (f := f) (n := n) (l := l) fun b hb => h b (List.mem_cons_of_mem _ hb)
    have := h a List.mem_cons_self
    rw [List.flatMap_cons, List.length_append, List.length_cons, Nat.succ_mul]
    omega
theorem cube_len (S : Nat) : ∀ as : List Int, (cube S as).length ≤ (S + 1) ^ as.length
  | [] => Nat.le_refl _
  | a :: as => by
    have ih := cube_len S as
    unfold cube
    have := flat_len (f := fun i : Nat => (cube S as).map fun r => (a + (i : Int)) :: r) (n := (S + 1) ^ as.length) (l := List.range (S + 1)) fun i _ => by rw [List.length_map]; exact ih
    rw [List.length_range] at this
    rw [List.length_cons, Nat.pow_succ, Nat.mul_comm]
    exact this
theorem mem_cube {S : Nat} {a d : Int} {as r : List Int} (h1 : a ≤ d) (h2 : d ≤ a + (S : Int)) (h : r ∈ cube S as) : d :: r ∈ cube S (a :: as) := by
  unfold cube
  refine List.mem_flatMap.mpr ⟨(d - a).toNat, List.mem_range.mpr (by omega), List.mem_map.mpr ⟨r, h, ?_⟩⟩
  congr 1
  omega
def lowA (Z : Int) (x : Fm) : Int := -((negS x.1.2 * (Z - 1) - x.1.1) / Z)
theorem low_ok {Z c d p n : Int} (hZ : 1 ≤ Z) (h1 : c - n * (Z - 1) ≤ Z * d) (h2 : Z * d ≤ c + p * (Z - 1)) (hp : 0 ≤ p) (hn : 0 ≤ n) : -((n * (Z - 1) - c) / Z) ≤ d ∧ d ≤ -((n * (Z - 1) - c) / Z) + (n + p) := by
  have q1 := Int.mul_ediv_add_emod (n * (Z - 1) - c) Z
  have q2 := Int.emod_nonneg (n * (Z - 1) - c) (by omega : Z ≠ 0)
  have q3 := Int.emod_lt_of_pos (n * (Z - 1) - c) (by omega : 0 < Z)
  generalize (n * (Z - 1) - c) / Z = q at *
  generalize (n * (Z - 1) - c) % Z = m at *
  constructor
  · rcases (by omega : -q ≤ d ∨ d + q ≤ -1) with h | h
    · exact h
    · have := Int.mul_le_mul_of_nonneg_left h (by omega : (0 : Int) ≤ Z)
      rw [Int.mul_add, Int.mul_neg, Int.mul_one] at this
      omega
  · rcases (by omega : d ≤ -q + (n + p) ∨ 1 ≤ d + q - (n + p)) with h | h
    · exact h
    · have := Int.mul_le_mul_of_nonneg_left h (by omega : (0 : Int) ≤ Z)
      rw [Int.mul_sub, Int.mul_add, Int.mul_add, Int.mul_one, Int.mul_comm Z n, Int.mul_comm Z p] at this
      rw [Int.mul_sub, Int.mul_one] at h1 h2 q1
      have e1 : n * Z - n = n * Z - n := rfl
      omega
def SumLe (S : Nat) (L : List Fm) : Prop := ∀ x ∈ L, negS x.1.2 + posS x.1.2 ≤ (S : Int)
theorem lead_cube {Z : Int} (hZ : 1 ≤ Z) {N : List Int} (hN : ∀ n ∈ N, 0 ≤ n ∧ n ≤ Z - 1) {S : Nat} : ∀ {L : List Fm} {r' : List Int}, SumLe S L → Lead Z N L (stR L) r' → r' ∈ cube S (L.map (lowA Z))
  | [], [], _, _ => List.mem_singleton.mpr rfl
  | [], _ :: _, _, h => h.elim
  | _ :: _, [], _, h => h.elim
  | x :: L, d :: r', hS, h => by
    obtain ⟨h1, h2⟩ := h
    have h1 : Z * d = x.1.1 + dotA 0 x.1.2 N := h1
    have ih := lead_cube hZ hN (fun y hy => hS y (List.mem_cons_of_mem _ hy)) h2
    obtain ⟨a, b⟩ := dot_in (Z - 1) x.1.2 N hN (by omega)
    have s := hS x List.mem_cons_self
    obtain ⟨c1, c2⟩ := low_ok (d := d) (c := x.1.1) hZ (by rw [h1]; omega) (by rw [h1]; omega) (pos_nn x.1.2) (neg_nn x.1.2)
    exact mem_cube c1 (by unfold lowA; omega) ih
theorem lead_deep {Z : Int} {N : List Int} (hN : ∀ n ∈ N, 0 ≤ n ∧ n ≤ Z - 1) {S : Nat} : ∀ {L : List Fm} {r' : List Int}, SumLe S L → (∀ x ∈ L, x.1.1.natAbs < Z) → Lead Z N L (stR L) r' → r' ∈ cube (2 * S) (L.map fun _ => -(S : Int))
  | [], [], _, _, _ => List.mem_singleton.mpr rfl
  | [], _ :: _, _, _, h => h.elim
  | _ :: _, [], _, _, h => h.elim
  | x :: L, d :: r', hS, hc, h => by
    obtain ⟨h1, h2⟩ := h
    have h1 : Z * d = x.1.1 + dotA 0 x.1.2 N := h1
    have ih := lead_deep hN (fun y hy => hS y (List.mem_cons_of_mem _ hy)) (fun y hy => hc y (List.mem_cons_of_mem _ hy)) h2
    have cz := hc x List.mem_cons_self
    obtain ⟨a, b⟩ := dot_in (Z - 1) x.1.2 N hN (by omega)
    have s := hS x List.mem_cons_self
    have p1 := pos_nn x.1.2
    have n1 := neg_nn x.1.2
    rw [Int.mul_sub, Int.mul_one] at a b
    have e1 : posS x.1.2 * Z ≤ S * Z := Int.mul_le_mul_of_nonneg_right (by omega) (by omega)
    have e2 : negS x.1.2 * Z ≤ S * Z := Int.mul_le_mul_of_nonneg_right (by omega) (by omega)
    refine mem_cube ?_ ?_ ih
    · rcases (by omega : -(S : Int) ≤ d ∨ d + S ≤ -1) with h | h
      · exact h
      · have := Int.mul_le_mul_of_nonneg_left h (by omega : (0 : Int) ≤ Z)
        rw [Int.mul_add, Int.mul_neg, Int.mul_one, Int.mul_comm Z (S : Int)] at this
        omega
    · rcases (by omega : d ≤ -(S : Int) + ((2 * S : Nat) : Int) ∨ 1 ≤ d - S) with h | h
      · exact h
      · have := Int.mul_le_mul_of_nonneg_left h (by omega : (0 : Int) ≤ Z)
        rw [Int.mul_sub, Int.mul_one, Int.mul_comm Z (S : Int)] at this
        omega
def allR (K S : Nat) (L : List Fm) : List (List Int) := ((List.range K).flatMap fun k => cube S (L.map (lowA ((2 : Int) ^ k)))) ++ cube (2 * S) (L.map fun _ => -(S : Int))
theorem allR_len (K S : Nat) (L : List Fm) : (allR K S L).length ≤ K * (S + 1) ^ L.length + (2 * S + 1) ^ L.length := by
  unfold allR
  rw [List.length_append]
  have h1 := flat_len (f := fun k : Nat => cube S (L.map (lowA ((2 : Int) ^ k)))) (n := (S + 1) ^ L.length) (l := List.range K) fun k _ => by
    have := cube_len S (L.map (lowA ((2 : Int) ^ k)))
    rw [List.length_map] at this
    exact this
  have h2 := cube_len (2 * S) (L.map fun _ => -(S : Int))
  rw [List.length_map] at h2
  rw [List.length_range] at h1
  omega
/-- the search never lists more rows than that -/
theorem few_rows {L : List Fm} {K S : Nat} (hS : SumLe S L) (hc : ∀ x ∈ L, x.1.1.natAbs < 2 ^ K) (j : Nat) : (TS L j).length ≤ K * (S + 1) ^ L.length + (2 * S + 1) ^ L.length := by
  refine Nat.le_trans (nodup_le _ (allR K S L) (W_inv L j).g.nd fun r hr => ?_) (allR_len K S L)
  obtain ⟨e, he, rfl⟩ := List.mem_map.mp hr
  have G := (W_inv L j).g
  have fl : ∀ g ∈ e.2, g.length = vOf L ∧ Bit g := fun g hg => ⟨by rw [fig_ln _ g (G.fg e he g hg), usL_len], fig_bit _ g (G.fg e he g hg)⟩
  have ld := lead_run (v := vOf L) e.2 (by unfold stR; rw [List.length_map]) (fun g hg => (fl g hg).1) (G.rn e he)
  have bd := num_bd (vOf L) e.2 fun g hg => (fl g hg).2
  have pw : ((2 ^ e.2.length : Nat) : Int) = (2 : Int) ^ e.2.length := by simp
  have p1 : 1 ≤ 2 ^ e.2.length := Nat.one_le_two_pow
  have hN : ∀ n ∈ numOf (vOf L) e.2, 0 ≤ n ∧ n ≤ (2 : Int) ^ e.2.length - 1 := fun n hn => by
    obtain ⟨a, b⟩ := bd n hn
    rw [← pw]
    omega
  unfold allR
  rcases Nat.lt_or_ge e.2.length K with h | h
  · refine List.mem_append_left _ (List.mem_flatMap.mpr ⟨e.2.length, List.mem_range.mpr h, ?_⟩)
    exact lead_cube (by rw [← pw]; omega) hN hS ld
  · refine List.mem_append_right _ (lead_deep hN hS (fun x hx => ?_) ld)
    have := hc x hx
    have : 2 ^ K ≤ 2 ^ e.2.length := Nat.pow_le_pow_right (by omega) h
    rw [← pw]
    omega
end K28

namespace K28
open PySem PySem.Spec Mi
/-! ### figures -/
def bitsF : Nat → Int → List Int
  | 0, _ => []
  | k + 1, n => if n = 0 then [] else n % 2 :: bitsF k (n / 2)
theorem l_fig (call : CallT) (h : Hs) : ∀ (js : List D) (N : Int) (acc : List Int) (C : Option Vl), acc.length + js.length ≤ 1000 →
    ∃ N' C', forL (gNm 2) (b__law_figures_1 call) js [some (.d (.int N)), some (.r h.length), C] (h ++ [.lst (acc.map D.int)]) = .ok .nx [some (.d (.int N')), some (.r h.length), C'] (h ++ [.lst ((acc ++ bitsF js.length N).map D.int)])
  | [], N, acc, C, _ => ⟨N, C, by simp [forL, bitsF]⟩
  | j :: js, N, acc, C, hz => by
    rw [List.length_cons] at hz
    by_cases e : N = 0
    · subst e
      refine ⟨0, some (.d j), ?_⟩
      rw [List.length_cons]
      unfold bitsF
      simp -implicitDefEqProofs [forL]
    · obtain ⟨N', C', ih⟩ := l_fig call h js (N / 2) (acc ++ [N % 2]) (some (.d j)) (by rw [List.length_append, List.length_singleton]; omega)
      refine ⟨N', C', ?_⟩
      rw [List.length_cons]
      unfold bitsF
      rw [if_neg e]
      have lz : acc.length < sizeLine := lts (by omega)
      have d2 : cDivW N 2 = true := cd (by omega) (by decide)
      simp only [List.map_append, List.map_cons, List.map_nil, List.append_assoc, List.singleton_append, List.nil_append, List.cons_append] at ih
      simp -implicitDefEqProofs [forL, e, lz, d2, ih]
theorem e_figures (n : Nat) (N : Int) (h : Hs) : callF defs (n + 1) 19 [.d (.int N)] h = .ok (.d (.lv ((bitsF 400 N).map D.int))) h := by
  rw [callF_at (md := ⟨1, 3, false, m__law_figures⟩) rfl rfl]
  obtain ⟨N', C', q⟩ := l_fig (callF defs n) h (rngD 0 400) N [] none (by rw [zero_add_rng, List.length_map, List.length_range]; decide)
  have rg : rngR [.d (.int 400)] (h ++ [.lst []]) = .ok (rngD 0 400) (h ++ [.lst []]) := rngR_nat (k := 400) (by omega)
  have rl : (rngD 0 400).length = 400 := by rw [zero_add_rng, List.length_map, List.length_range]
  rw [rl, List.nil_append, List.map_nil] at q
  generalize rngD 0 400 = RD at *
  generalize (bitsF 400 N).map D.int = BD at *
  have fr : ∀ σ, fin false h.length (.ok (.ret (.r h.length)) σ (h ++ [.lst BD])) = .ok (.d (.lv BD)) h := fun σ => by
    rw [fin_retR (xs := BD) (by simp)]
    simp
  simp -implicitDefEqProofs [startL, rg, q, fr]
/-! ### the key -/
def mx : List Nat → Nat
  | [] => 0
  | a :: l => max a (mx l)
theorem maxI_mx : ∀ (l : List Nat) (a : Nat), maxI ((a : Int) :: l.map fun b : Nat => (b : Int)) = ((max a (mx l) : Nat) : Int)
  | [], a => by
    show (a : Int) = _
    unfold mx; omega
  | b :: l, a => by
    have ih := maxI_mx l b
    show max (a : Int) (maxI ((b : Int) :: l.map fun b : Nat => (b : Int))) = _
    rw [ih, mx]
    omega
def mostF (k : Nat) (N : List Int) : Nat := mx (N.map fun n => (bitsF k n).length)
def rowsF (k : Nat) (N : List Int) : List (List Int) := (List.range (mostF k N)).map fun t => N.map fun n => (bitsF k n).getD t 0
theorem most_zero {k : Nat} : ∀ {N : List Int}, N.all (· == 0) = true → mostF k N = 0
  | [], _ => rfl
  | n :: N, h => by
    rw [List.all_cons, Bool.and_eq_true] at h
    have n0 : n = 0 := by simpa using h.1
    have ih := most_zero (k := k) h.2
    unfold mostF at *
    rw [List.map_cons, mx, ih, n0]
    have : bitsF k 0 = [] := by cases k <;> simp [bitsF]
    rw [this]; rfl
theorem bits_half (k : Nat) (n : Int) : (bitsF (k + 1) n).length = if n = 0 then 0 else (bitsF k (n / 2)).length + 1 := by
  show (if n = 0 then [] else n % 2 :: bitsF k (n / 2)).length = _
  split <;> simp
theorem bits_0 (k : Nat) : bitsF k 0 = [] := by cases k <;> simp [bitsF]
theorem most_or {k : Nat} : ∀ N : List Int, mostF (k + 1) N = mostF k (N.map (· / 2)) + 1 ∨ (N.all (· == 0) = true ∧ mostF (k + 1) N = 0 ∧ mostF k (N.map (· / 2)) = 0)
  | [] => .inr ⟨rfl, rfl, rfl⟩
  | n :: N => by
    have ih := most_or (k := k) N
    have b := bits_half k n
    unfold mostF at *
    rw [List.map_cons, List.map_cons, List.map_cons, mx, mx, b]
    by_cases n0 : n = 0
    · rw [if_pos n0, n0, show (0 : Int) / 2 = 0 from rfl, bits_0, List.length_nil]
      rcases ih with ih | ⟨z, i1, i2⟩
      · exact .inl (by omega)
      · exact .inr ⟨by rw [List.all_cons, z]; rfl, by omega, by omega⟩
    · rw [if_neg n0]
      rcases ih with ih | ⟨z, i1, i2⟩ <;> exact .inl (by omega)
theorem most_half {k : Nat} {N : List Int} (h : ¬ N.all (· == 0) = true) : mostF (k + 1) N = mostF k (N.map (· / 2)) + 1 := by
  rcases most_or (k := k) N with q | ⟨q, _⟩
  · exact q
  · exact absurd q h
theorem rows_kw : ∀ (k : Nat) (N : List Int), rowsF k N = kw k N
  | 0, N => by
    unfold kw rowsF
    have : mostF 0 N = 0 := by
      unfold mostF
      induction N with
      | nil => rfl
      | cons n N ih => rw [List.map_cons, mx, ih]; rfl
    rw [this]; rfl
  | k + 1, N => by
    unfold kw
    by_cases z : N.all (· == 0) = true
    · rw [if_pos z]
      unfold rowsF
      rw [most_zero z]; rfl
    · rw [if_neg z, ← rows_kw k]
      unfold rowsF
      rw [most_half z, List.range_succ_eq_map, List.map_cons, List.map_map]
      congr 1
      · refine List.map_congr_left fun n _ => ?_
        unfold bitsF
        split
        · rename_i h; rw [h]; rfl
        · rfl
      · refine List.map_congr_left fun t _ => ?_
        rw [List.map_map]
        refine List.map_congr_left fun n _ => ?_
        show (bitsF (k + 1) n).getD (t + 1) 0 = (bitsF k (n / 2)).getD t 0
        rw [bitsF]
        split
        · rename_i h
          rw [h, show (0 : Int) / 2 = 0 from rfl, bits_0]; rfl
        · rfl
theorem most_kw (k : Nat) (N : List Int) : mostF k N = (kw k N).length := by
  rw [← rows_kw]
  unfold rowsF
  rw [List.length_map, List.length_range]
theorem bits_le : ∀ (k : Nat) (n : Int), (bitsF k n).length ≤ k
  | 0, _ => Nat.le_refl _
  | k + 1, n => by
    rw [bits_half]
    split
    · omega
    · have := bits_le k (n / 2); omega
theorem mx_le {m : Nat} : ∀ {l : List Nat}, (∀ a ∈ l, a ≤ m) → mx l ≤ m
  | [], _ => Nat.zero_le _
  | a :: l, h => by
    have := mx_le (m := m) (l := l) fun b hb => h b (List.mem_cons_of_mem _ hb)
    have := h a List.mem_cons_self
    rw [mx]; omega
theorem most_bd (k : Nat) (N : List Int) : mostF k N ≤ k := mx_le fun a ha => by
  obtain ⟨n, _, rfl⟩ := List.mem_map.mp ha
  exact bits_le k n
end K28

namespace K28
open PySem PySem.Spec Mi
def solB (L : List Fm) (N : List Int) : Bool := L.all fun x => dotA x.1.1 x.1.2 N == 0
theorem sol_iff (L : List Fm) (N : List Int) : solB L N = true ↔ Solves L (stR L) N := by
  unfold solB Solves stR
  rw [List.zip_map', List.all_eq_true]
  constructor
  · intro h p hp
    obtain ⟨x, hx, rfl⟩ := List.mem_map.mp hp
    have := h x hx
    rw [dotA_add] at this
    simpa using this
  · intro h x hx
    have := h (x.1.1, x.1.2) (List.mem_map.mpr ⟨x, hx, rfl⟩)
    rw [dotA_add]
    simpa using this
theorem key_inj {a b : List Int} (ha : ∀ n ∈ a, 0 ≤ n) (hb : ∀ n ∈ b, 0 ≤ n) (la : Lt2 hugeE a) (lb : Lt2 hugeE b) (hl : a.length = b.length) (h : kw hugeE a = kw hugeE b) : a = b := by
  have h1 := num_kw hugeE a ha la
  have h2 := num_kw hugeE b hb lb
  rw [h, hl] at h1
  exact h1.symm.trans h2
theorem Lt2.up {m k : Nat} {N : List Int} (h : Lt2 m N) (hm : m ≤ k) : Lt2 k N := fun n hn => Nat.lt_of_lt_of_le (h n hn) (Nat.pow_le_pow_right (by omega) hm)
end K28

namespace K28
open PySem PySem.Spec Mi
theorem o_neR {n : Nat} {d : D} (h : Hs) (sm : Sm n d) (hn : n ≤ 64) : oNe (.d d) (.d d) h = some (.d (.bl false), h) := by
  rw [o_neS sm sm hn hn]
  have : PyData.eqv d.pd d.pd = true := sm.ok.2.2
  rw [this]; rfl
theorem o_eqR {n : Nat} {d : D} (h : Hs) (sm : Sm n d) (hn : n ≤ 64) : oEq (.d d) (.d d) h = some (.d (.bl true), h) := by
  rw [o_eqS sm sm hn hn]
  have : PyData.eqv d.pd d.pd = true := sm.ok.2.2
  rw [this]
/-! ### whole numbers, the fault of an answer -/
theorem e_lwhole (n : Nat) (i : Int) (h : Hs) : callF defs (n + 1) 28 [.d (.int i)] h = .ok (.d (.bl true)) h := by
  rw [callF_at (md := ⟨1, 1, false, m__law_is_whole⟩) rfl rfl]
  simp [startL, lookT]
theorem e_wholes (n : Nat) (N : List Int) {v : Nat} (hN : N.length = v) (hv : v ≤ 1000) (h : Hs) : callF defs (n + 2) 29 [.d (iT N), .d (.int (v : Nat))] h = .ok (.d (.bl true)) h := by
  subst hN
  rw [callF_at (md := ⟨2, 3, false, m__law_wholes⟩) rfl rfl]
  have c := cmpL_on (vs := [2]) (g := gNm 2) (t := tNo (tTru (eCl (callF defs (n + 1)) 28 [] (aCons (eVar 2) aNil)))) (f := eK (.int 1)) (σ := [some (.d (iT N)), some (.d (.int (N.length : Nat))), none]) (h := h) D.int (fun _ => false) (fun _ => .int 1) N [] (by rw [List.length_nil]; exact lts (by omega)) fun i _ h' => ⟨_, rfl, by
    have := e_lwhole n i h'
    simp -implicitDefEqProofs [wipeL, this], fun _ => rfl⟩
  rw [List.filter_eq_nil_iff.mpr (fun _ _ => by simp), List.nil_append, List.map_nil] at c
  have le := lc_end h []
  have oe := o_eqN (n := 0) (l := []) h (fun x hx => nomatch hx) (by omega)
  unfold iT at *
  simp -implicitDefEqProofs [startL, lookT, c, le, oe]
end K28

namespace K28
open PySem PySem.Spec Mi
/-! ### equal systems -/
abbrev Fo := Int × List Int
structure LinF (v : Nat) (φ : Fo → Int) : Prop where
  mul : ∀ (m c : Int) (f : List Int), φ (c * m, f.map (· * m)) = φ (c, f) * m
  add : ∀ (c d : Int) (f g : List Int), f.length = v → g.length = v → φ (c + d, List.zipWith (· + ·) f g) = φ (c, f) + φ (d, g)
def Zer (φ : Fo → Int) (F : List Fo) : Prop := ∀ p ∈ F, φ p = 0
def Same (v : Nat) (F F' : List Fo) : Prop := ∀ φ, LinF v φ → (Zer φ F ↔ Zer φ F')
theorem Same.rfl' {v : Nat} {F : List Fo} : Same v F F := fun _ _ => Iff.rfl
theorem Same.tr {v : Nat} {F G H : List Fo} (h1 : Same v F G) (h2 : Same v G H) : Same v F H := fun φ l => (h1 φ l).trans (h2 φ l)
theorem same_mem {v : Nat} {F G : List Fo} (h : ∀ p, p ∈ F ↔ p ∈ G) : Same v F G := fun φ _ => ⟨fun z p hp => z p ((h p).mpr hp), fun z p hp => z p ((h p).mp hp)⟩
theorem zer_set {φ : Fo → Int} {F : List Fo} {w : Nat} (hw : w < F.length) (p : Fo) : Zer φ (F.set w p) ↔ φ p = 0 ∧ ∀ i (hi : i < F.length), i ≠ w → φ F[i] = 0 := by
  constructor
  · intro z
    refine ⟨z p ?_, fun i hi ne => z _ ?_⟩
    · exact List.mem_iff_getElem.mpr ⟨w, by rw [List.length_set]; exact hw, by simp⟩
    · exact List.mem_iff_getElem.mpr ⟨i, by rw [List.length_set]; exact hi, by rw [List.getElem_set_ne (Ne.symm ne)]⟩
  · rintro ⟨h1, h2⟩ q hq
    obtain ⟨i, hi, rfl⟩ := List.mem_iff_getElem.mp hq
    by_cases e : i = w
    · subst e; rw [List.getElem_set_self]; exact h1
    · rw [List.getElem_set_ne (Ne.symm e)]
      exact h2 i (by rw [List.length_set] at hi; exact hi) e
theorem zer_at {φ : Fo → Int} {F : List Fo} {w : Nat} (hw : w < F.length) : Zer φ F ↔ φ F[w] = 0 ∧ ∀ i (hi : i < F.length), i ≠ w → φ F[i] = 0 := by
  have := zer_set (φ := φ) hw F[w]
  rw [List.set_getElem_self] at this
  exact this
theorem same_scale {v : Nat} {F : List Fo} {w : Nat} (hw : w < F.length) {m : Int} (hm : m ≠ 0) : Same v F (F.set w (F[w].1 * m, F[w].2.map (· * m))) := fun φ l => by
  rw [zer_at hw, zer_set hw, l.mul]
  constructor
  · rintro ⟨a, b⟩
    refine ⟨?_, b⟩
    have a : φ (F[w].1, F[w].2) = 0 := a
    rw [a, Int.zero_mul]
  · rintro ⟨a, b⟩
    rcases Int.mul_eq_zero.mp a with h | h
    · exact ⟨h, b⟩
    · exact absurd h hm
theorem same_add {v : Nat} {F : List Fo} (hF : ∀ p ∈ F, p.2.length = v) {w o : Nat} (hw : w < F.length) (ho : o < F.length) (ne : o ≠ w) : Same v F (F.set w (F[w].1 + F[o].1, List.zipWith (· + ·) F[w].2 F[o].2)) := fun φ l => by
  rw [zer_at hw, zer_set hw, l.add _ _ _ _ (hF _ (List.getElem_mem hw)) (hF _ (List.getElem_mem ho))]
  constructor
  · rintro ⟨a, b⟩
    have a : φ (F[w].1, F[w].2) = 0 := a
    have c : φ (F[o].1, F[o].2) = 0 := b o ho ne
    exact ⟨by rw [a, c]; rfl, b⟩
  · rintro ⟨a, b⟩
    have c : φ (F[o].1, F[o].2) = 0 := b o ho ne
    rw [c, Int.add_zero] at a
    exact ⟨a, b⟩
theorem same_dup {v : Nat} {F : List Fo} {p : Fo} (hp : p ∈ F) : Same v F (F ++ [p]) := same_mem fun q => by
  rw [List.mem_append, List.mem_singleton]
  exact ⟨.inl, fun h => h.elim id fun e => by rw [e]; exact hp⟩
theorem same_rot {v : Nat} {F : List Fo} (w : Nat) : Same v F (F.drop w ++ F.take w) := same_mem fun q => by
  rw [List.mem_append]
  constructor
  · intro h
    rw [← List.take_append_drop w F] at h
    exact (List.mem_append.mp h).symm
  · rintro (h | h)
    · exact List.mem_of_mem_drop h
    · exact List.mem_of_mem_take h
theorem dot_mul (m : Int) : ∀ (f N : List Int), dotA 0 (f.map (· * m)) N = dotA 0 f N * m
  | [], N => by simp [dotA]
  | f :: fs, [] => by simp [dotA]
  | f :: fs, n :: N => by
    have ih := dot_mul m fs N
    rw [List.map_cons]
    unfold dotA
    rw [dotA_add, dotA_add fs N, ih, Int.add_mul, Int.zero_add, Int.zero_add, Int.mul_assoc, Int.mul_comm m n, ← Int.mul_assoc]
theorem dot_add2 : ∀ (f g N : List Int), f.length = g.length → dotA 0 (List.zipWith (· + ·) f g) N = dotA 0 f N + dotA 0 g N
  | [], [], N, _ => by simp [dotA]
  | [], _ :: _, _, h => by cases h
  | _ :: _, [], _, h => by cases h
  | f :: fs, g :: gs, [], _ => by simp [dotA]
  | f :: fs, g :: gs, n :: N, h => by
    have ih := dot_add2 fs gs N (by simpa using h)
    rw [List.zipWith_cons_cons]
    unfold dotA
    rw [dotA_add, dotA_add fs N, dotA_add gs N, ih, Int.add_mul]
    omega
theorem lin_sol (v : Nat) (N : List Int) : LinF v fun p => dotA p.1 p.2 N := ⟨fun m c f => by
    show dotA (c * m) (f.map (· * m)) N = dotA c f N * m
    rw [dotA_add, dotA_add f N c, dot_mul, Int.add_mul], fun c d f g h1 h2 => by
    show dotA (c + d) (List.zipWith (· + ·) f g) N = dotA c f N + dotA d g N
    rw [dotA_add, dotA_add f N c, dotA_add g N d, dot_add2 f g N (by omega)]
    omega⟩
theorem getD_mul (m : Int) : ∀ (f : List Int) (i : Nat), (f.map (· * m)).getD i 0 = f.getD i 0 * m
  | [], i => by simp
  | f :: fs, 0 => by simp
  | f :: fs, i + 1 => by simpa using getD_mul m fs i
theorem getD_add : ∀ (f g : List Int) (i : Nat), f.length = g.length → (List.zipWith (· + ·) f g).getD i 0 = f.getD i 0 + g.getD i 0
  | [], [], i, _ => by simp
  | [], _ :: _, _, h => by cases h
  | _ :: _, [], _, h => by cases h
  | f :: fs, g :: gs, 0, _ => by simp
  | f :: fs, g :: gs, i + 1, h => by simpa using getD_add fs gs i (by simpa using h)
theorem lin_col (v i : Nat) : LinF v fun p => p.2.getD i 0 := ⟨fun m c f => getD_mul m f i, fun c d f g h1 h2 => getD_add f g i (by omega)⟩
def mkF (F : List Fo) : List Fm := F.map fun p => (p, true, true)
theorem mkF_map (F : List Fo) : (mkF F).map (·.1) = F := by unfold mkF; rw [List.map_map]; exact List.map_id _
theorem same_sol {v : Nat} {F G : List Fo} (h : Same v F G) (N : List Int) : Solves (mkF F) (stR (mkF F)) N ↔ Solves (mkF G) (stR (mkF G)) N := by
  have key : ∀ F : List Fo, solB (mkF F) N = true ↔ Zer (fun p => dotA p.1 p.2 N) F := fun F => by
    unfold solB mkF Zer
    rw [List.all_eq_true]
    constructor
    · intro h p hp
      have := h (p, true, true) (List.mem_map.mpr ⟨p, hp, rfl⟩)
      simpa using this
    · intro h x hx
      obtain ⟨p, hp, rfl⟩ := List.mem_map.mp hx
      have := h p hp
      simpa using this
  rw [← sol_iff, ← sol_iff, key, key]
  exact h _ (lin_sol v N)
theorem same_used {v : Nat} {F G : List Fo} (h : Same v F G) (i : Nat) : usedAt (mkF F) i = usedAt (mkF G) i := by
  have key : ∀ F : List Fo, usedAt (mkF F) i = false ↔ Zer (fun p => p.2.getD i 0) F := fun F => by
    unfold usedAt mkF Zer
    rw [List.any_eq_false]
    constructor
    · intro h p hp
      have := h (p, true, true) (List.mem_map.mpr ⟨p, hp, rfl⟩)
      simpa using this
    · intro h x hx
      obtain ⟨p, hp, rfl⟩ := List.mem_map.mp hx
      have := h p hp
      simpa using this
  have hh := (key F).trans ((h _ (lin_col v i)).trans (key G).symm)
  cases a : usedAt (mkF F) i <;> cases b : usedAt (mkF G) i <;> simp_all
/-- what a small system is -/
structure Sml3 (v C : Nat) (F : List Fo) : Prop where
  l0 : 1 ≤ F.length
  l3 : F.length ≤ 3
  ln : ∀ p ∈ F, p.2.length = v
  sm : ∀ p ∈ F, negS p.2 + posS p.2 ≤ 24
  cc : ∀ p ∈ F, p.1.natAbs ≤ C
theorem abs_ps : ∀ f : List Int, ∀ i ∈ f, (i.natAbs : Int) ≤ negS f + posS f
  | [], i, hi => nomatch hi
  | x :: f, i, hi => by
    have p := pos_nn f
    have n := neg_nn f
    unfold negS posS
    rcases List.mem_cons.mp hi with rfl | hi
    · split <;> split <;> omega
    · have := abs_ps f i hi
      split <;> split <;> omega
theorem Sml3.sy {v C : Nat} {F : List Fo} (s : Sml3 v C F) (hv : v ≤ 10) : Sy v (mkF F) := ⟨by unfold mkF; rw [List.length_map]; have := s.l3; omega, hv, fun x hx => by
    obtain ⟨p, hp, rfl⟩ := List.mem_map.mp hx
    exact s.ln p hp, fun x hx i hi => by
    obtain ⟨p, hp, rfl⟩ := List.mem_map.mp hx
    have := abs_ps p.2 i hi
    have := s.sm p hp
    exact big (n := 10) (by have : (2 : Nat) ^ 10 = 1024 := by decide
                            omega) (by decide)⟩
theorem Sml3.vOf {v C : Nat} {F : List Fo} (s : Sml3 v C F) : vOf (mkF F) = v := by
  have h := s.l0
  cases F with
  | nil => rw [List.length_nil] at h; omega
  | cons p F => exact s.ln p List.mem_cons_self
theorem same_usL {v C D : Nat} {F G : List Fo} (s : Sml3 v C F) (t : Sml3 v D G) (h : Same v F G) : usL (mkF F) = usL (mkF G) := by
  unfold usL
  rw [s.vOf, t.vOf]
  exact List.map_congr_left fun i _ => same_used h i
/-- equal systems have one answer -/
theorem ans_same {v C D : Nat} {F G : List Fo} (s : Sml3 v C F) (t : Sml3 v D G) (h : Same v F G) {N M : List Int} (A : Ans (mkF F) N) (B : Ans (mkF G) M) : N = M := by
  have us := same_usL s t h
  have fN : FitU (usL (mkF G)) N := by rw [← us]; exact A.fit
  have fM : FitU (usL (mkF F)) M := by rw [us]; exact B.fit
  have h1 := A.min M fM B.lt ((same_sol h M).mpr B.sol)
  have h2 := B.min N fN A.lt ((same_sol h N).mp A.sol)
  exact key_inj A.fit.nn B.fit.nn A.lt B.lt (by rw [A.fit.len, fM.len]) (h1.anti h2)
theorem small_rows {v C : Nat} {F : List Fo} (s : Sml3 v C F) (hC : C < 2 ^ 11) (j : Nat) : (TS (mkF F) j).length ≤ 289524 := by
  have fr := few_rows (L := mkF F) (K := 11) (S := 24) (fun x hx => by
    obtain ⟨p, hp, rfl⟩ := List.mem_map.mp hx
    exact s.sm p hp) (fun x hx => by
    obtain ⟨p, hp, rfl⟩ := List.mem_map.mp hx
    have := s.cc p hp
    exact Nat.lt_of_le_of_lt this hC) j
  have l3 := s.l3
  have ll : (mkF F).length = F.length := by unfold mkF; rw [List.length_map]
  rw [ll] at fr
  have a : (24 + 1) ^ F.length ≤ (24 + 1) ^ 3 := Nat.pow_le_pow_right (by omega) l3
  have b : (2 * 24 + 1) ^ F.length ≤ (2 * 24 + 1) ^ 3 := Nat.pow_le_pow_right (by omega) l3
  have c : (24 + 1) ^ 3 = 15625 := by decide
  have d : (2 * 24 + 1) ^ 3 = 117649 := by decide
  rw [c] at a
  rw [d] at b
  omega
end K28

namespace K28
open PySem PySem.Spec Mi
def fT (p : Fo) : D := .tup [.int p.1, .tup (p.2.map D.int)]
theorem mkF_D (F : List Fo) : (mkF F).map fmD = F.map fT := by unfold mkF; rw [List.map_map]; rfl
def absI (i : Int) : Int := if i < 0 then -i else i
theorem n_abs (i : Int) (h : Hs) : nAbs [.d (.int i)] h = some (.d (.int (absI i)), h) := rfl
theorem n_sum (l : List Int) (h : Hs) : nSum [.d (.lv (l.map D.int))] h = some (.d (.int l.sum), h) := by
  unfold nSum lstOf
  dsimp only
  rw [intsOf_map]; rfl
theorem abs_sum : ∀ f : List Int, (f.map absI).sum = negS f + posS f
  | [] => rfl
  | x :: f => by
    rw [List.map_cons, List.sum_cons, abs_sum f]
    show absI x + (negS f + posS f) = ((if x < 0 then -x else 0) + negS f) + ((if 0 < x then x else 0) + posS f)
    generalize negS f = a
    generalize posS f = b
    unfold absI
    split <;> split <;> omega
theorem getR {src : O} {R : Hs} {g : Nat} : (src :: R)[g + 1]? = R[g]? := rfl
theorem fT0 (p : Fo) (h : Hs) : oIx (.d (fT p)) (.d (.int 0)) h = some (.d (.int p.1), h) := rfl
theorem fT1 (p : Fo) (h : Hs) : oIx (.d (fT p)) (.d (.int 1)) h = some (.d (.tup (p.2.map D.int)), h) := rfl
def P6 (call : CallT) : SemS := (sIf (tBl (eBin oLe (eN nSum (aCons (eLc false [13] (iSeq (eBin oIx (eVar 8) (eK (.int 1)))) (gNm 13) tYs (eN nAbs (aCons (eVar 13) aNil))) aNil)) (eK (.int 24))))
      (sAs (eVar 8) (gSt (eVar 2) (eVar 4)))
      sNil)
def P5 (call : CallT) : SemS := (sIf (tBl (eBin (oEqF false) (eVar 7) (eK (.int 0))))
      (sSq (sAs (eBin oIx (eLv (aCons (eUn oNeg (eK (.int 1))) (aCons (eK (.int 2)) (aCons (eUn oNeg (eK (.int 2))) (aCons (eK (.int 3)) aNil))))) (eCl call 17 [] (aCons (eVar 0) (aCons (eK (.int 4)) aNil)))) (gNm 9))
      (sAs (eTup (aCons (eBin oMulI (eVar 5) (eVar 9)) (aCons (eN nTuple (aCons (eLc false [13] (iSeq (eVar 6)) (gNm 13) tYs (eBin oMulI (eVar 13) (eVar 9))) aNil)) aNil))) (gNm 8)))
      (sIf (tAn (tBl (eBin (oEqF false) (eVar 7) (eK (.int 1)))) (tBl (eBin oLt (eN nLen (aCons (eVar 2) aNil)) (eK (.int 3)))))
      (sAs (eBin oAddM (eVar 2) (eLv (aCons (eBin oIx (eVar 2) (eVar 4)) aNil))) (gNm 2))
      (sIf (tBl (eBin (oEqF false) (eVar 7) (eK (.int 2))))
      (sSq (sAs (eBin oAddM (eSl (eVar 2) (oSome (eVar 4)) oNone) (eSl (eVar 2) oNone (oSome (eVar 4)))) (gNm 2))
      (sAs (eBin oIx (eVar 2) (eVar 4)) (gNm 8)))
      (sSq (sAs (eCl call 17 [] (aCons (eVar 0) (aCons (eN nLen (aCons (eVar 2) aNil)) aNil))) (gNm 10))
      (sIf (tBl (eBin oNe (eVar 10) (eVar 4)))
      (sSq (sAs (eBin oIx (eVar 2) (eVar 10)) (gTp 2 (gCo (gNm 11) (gCo (gNm 12) gNi))))
      (sAs (eTup (aCons (eBin oAdd (eVar 5) (eVar 11)) (aCons (eN nTuple (aCons (eLc false [14, 15] (iZpB (aCons (eVar 6) (aCons (eVar 12) aNil))) (gTp 2 (gCo (gNm 14) (gCo (gNm 15) gNi))) tYs (eBin oAdd (eVar 14) (eVar 15))) aNil)) aNil))) (gNm 8)))
      sNil)))))
def P1 (call : CallT) (q : SemS) : SemS := (sSq (sAs (eCl call 17 [] (aCons (eVar 0) (aCons (eN nLen (aCons (eVar 2) aNil)) aNil))) (gNm 4))
      (sSq (sAs (eBin oIx (eVar 2) (eVar 4)) (gTp 2 (gCo (gNm 5) (gCo (gNm 6) gNi))))
      (sSq (sAs (eCl call 17 [] (aCons (eVar 0) (aCons (eK (.int 4)) aNil))) (gNm 7))
      (sSq (sAs (eTup (aCons (eVar 5) (aCons (eVar 6) aNil))) (gNm 8))
      q))))
theorem body_eq (call : CallT) : b__law_equal_system_1 call = P1 call (sSq (P5 call) (P6 call)) := rfl
section
variable {S : D} {A3 A5 A6 A7 A9 A10 A11 A12 A13 A14 A15 : Option Vl}
theorem e_guard (call : CallT) (g w : Nat) (p : Fo) (FD : List D) (src : O) (R : Hs) (hg : R[g]? = some (.lst FD)) (hw : w < FD.length) (hp : p.2.length ≤ 1000) :
    P6 call [some (.r 0), some (.d S), some (.r (g + 1)), A3, some (.d (.int (w : Nat))), A5, A6, A7, some (.d (fT p)), A9, A10, A11, A12, A13, A14, A15] (src :: R) =
      .ok .nx [some (.r 0), some (.d S), some (.r (g + 1)), A3, some (.d (.int (w : Nat))), A5, A6, A7, some (.d (fT p)), A9, A10, A11, A12, A13, A14, A15] (src :: (if negS p.2 + posS p.2 ≤ 24 then R.set g (.lst (FD.set w (fT p))) else R)) := by
  unfold P6
  have c1 := cmpL_all (vs := [13]) (g := gNm 13) (f := eN nAbs (aCons (eVar 13) aNil)) (σ := [some (.r 0), some (.d S), some (.r (g + 1)), A3, some (.d (.int (w : Nat))), A5, A6, A7, some (.d (fT p)), A9, A10, A11, A12, A13, A14, A15]) (h := src :: R) D.int (fun f => .int (absI f)) p.2 (lts (by omega)) fun f _ h2 => ⟨_, rfl, by
    have na := n_abs f h2
    simp -implicitDefEqProofs [wipeL, na]⟩
  have em : (p.2.map fun f => D.int (absI f)) = (p.2.map absI).map D.int := by rw [List.map_map]; rfl
  rw [em] at c1
  have le := lc_end (src :: R) ((p.2.map absI).map D.int)
  have ns := n_sum (p.2.map absI) (src :: R)
  rw [abs_sum] at ns
  have f1 := fT1 p (src :: R)
  have ixn : L2.ixN FD.length (w : Int) = some w := by
    unfold L2.ixN
    simp [hw]
  simp only [List.length_cons, List.cons_append] at c1 le
  generalize (p.2.map absI).map D.int = AD at *
  generalize p.2.map D.int = PD at *
  generalize fT p = FP at *
  by_cases q : negS p.2 + posS p.2 ≤ 24
  · rw [if_pos q]
    simp -implicitDefEqProofs [f1, c1, le, ns, q, hg, ixn, toD]
  · rw [if_neg q]
    simp -implicitDefEqProofs [f1, c1, le, ns, q]
theorem e_kind0 (n k g w : Nat) (p : Fo) (FD : List D) {src : O} (hs : Src k src) (hk : k < 900000) (R : Hs) (hp : p.2.length ≤ 1000) (sp : Sml p.2) (cp : p.1.natAbs < huge) :
    ∃ (m : Int) (src' : O), m ≠ 0 ∧ m.natAbs ≤ 3 ∧ Src (k + 1) src' ∧ P5 (callF defs (n + 1)) [some (.r 0), some (.d S), some (.r (g + 1)), A3, some (.d (.int (w : Nat))), some (.d (.int p.1)), some (.d (.tup (p.2.map D.int))), some (.d (.int 0)), some (.d (fT p)), A9, A10, A11, A12, A13, A14, A15] (src :: R) =
      .ok .nx [some (.r 0), some (.d S), some (.r (g + 1)), A3, some (.d (.int (w : Nat))), some (.d (.int p.1)), some (.d (.tup (p.2.map D.int))), some (.d (.int 0)), some (.d (fT (p.1 * m, p.2.map (· * m)))), some (.d (.int m)), A10, A11, A12, A13, A14, A15] (src' :: R) := by
  obtain ⟨u, hu, src', s', e1⟩ := k_take n k (by omega) hs 4 (by omega) (by omega) R
  have e1' : callF defs (n + 1) 17 [.r 0, .d (.int 4)] (src :: R) = .ok (.d (.int (u : Int))) (src' :: R) := e1
  obtain ⟨m, m0, m3, ix⟩ : ∃ m : Int, m ≠ 0 ∧ m.natAbs ≤ 3 ∧ L2.atI [D.int (-1), D.int 2, D.int (-2), D.int 3] (u : Int) = some (.int m) := by
    rcases (by omega : u = 0 ∨ u = 1 ∨ u = 2 ∨ u = 3) with rfl | rfl | rfl | rfl
    · exact ⟨-1, by omega, by omega, rfl⟩
    · exact ⟨2, by omega, by omega, rfl⟩
    · exact ⟨-2, by omega, by omega, rfl⟩
    · exact ⟨3, by omega, by omega, rfl⟩
  refine ⟨m, src', m0, m3, s', ?_⟩
  have sm : m.natAbs < huge := big (n := 2) (by omega) (by decide)
  have c1 := cmpL_all (vs := [13]) (g := gNm 13) (f := eBin oMulI (eVar 13) (eVar 9)) (σ := [some (.r 0), some (.d S), some (.r (g + 1)), A3, some (.d (.int (w : Nat))), some (.d (.int p.1)), some (.d (.tup (p.2.map D.int))), some (.d (.int 0)), some (.d (fT p)), some (.d (.int m)), A10, A11, A12, A13, A14, A15]) (h := src' :: R) D.int (fun f => .int (f * m)) p.2 (lts (by omega)) fun f hf h2 => ⟨_, rfl, by
    have cm := cm4 (sp f hf) sm
    simp -implicitDefEqProofs [wipeL, cm]⟩
  have em : (p.2.map fun f => D.int (f * m)) = (p.2.map (· * m)).map D.int := by rw [List.map_map]; rfl
  rw [em] at c1
  have le := lc_end (src' :: R) ((p.2.map (· * m)).map D.int)
  have cm0 := cm4 cp sm
  have fe : fT (p.1 * m, p.2.map (· * m)) = .tup [.int (p.1 * m), .tup ((p.2.map (· * m)).map D.int)] := rfl
  rw [fe]
  have neg1 : ∀ h, oNeg (.d (.int 1)) h = some (.d (.int (-1)), h) := fun _ => rfl
  have neg2 : ∀ h, oNeg (.d (.int 2)) h = some (.d (.int (-2)), h) := fun _ => rfl
  simp only [List.length_cons, List.cons_append] at c1 le
  unfold P5
  generalize (p.2.map (· * m)).map D.int = AD at *
  generalize p.2.map D.int = PD at *
  generalize fT p = FP at *
  simp -implicitDefEqProofs [neg1, neg2, e1', ix, cm0, c1, le]
theorem e_kind1 (call : CallT) (g w : Nat) (p : Fo) (F : List Fo) (src : O) (R : Hs) (hg : R[g]? = some (.lst (F.map fT))) (hw : w < F.length) (h3 : F.length < 3) :
    P5 call [some (.r 0), some (.d S), some (.r (g + 1)), A3, some (.d (.int (w : Nat))), A5, A6, some (.d (.int 1)), some (.d (fT p)), A9, A10, A11, A12, A13, A14, A15] (src :: R) =
      .ok .nx [some (.r 0), some (.d S), some (.r (R.length + 1)), A3, some (.d (.int (w : Nat))), A5, A6, some (.d (.int 1)), some (.d (fT p)), A9, A10, A11, A12, A13, A14, A15] (src :: (R ++ [.lst ((F ++ [F[w]]).map fT)])) := by
  have at1 : (src :: R)[g + 1]? = some (.lst (F.map fT)) := hg
  have nl := n_lenR at1
  rw [List.length_map] at nl
  have ix : oIx (.r (g + 1)) (.d (.int (w : Int))) (src :: R) = some (.d (fT F[w]), src :: R) := by
    rw [o_ixR (xs := F.map fT) at1, atI_nat, List.getElem?_map, List.getElem?_eq_getElem hw]; rfl
  have ls : lstOf (.r (g + 1)) (src :: R) = some (F.map fT) := by
    unfold lstOf
    dsimp only
    rw [at1]
  have ad := ap_addM (x := .r (g + 1)) (y := .d (.lv [fT F[w]])) (h := src :: R) ls rfl (les (by rw [List.length_map]; simp; omega))
  have em : (F ++ [F[w]]).map fT = F.map fT ++ [fT F[w]] := by rw [List.map_append]; rfl
  rw [em]
  have h3' : ((F.length : Nat) : Int) < 3 := by omega
  unfold P5
  generalize fT F[w] = FW at *
  generalize F.map fT = FD at *
  simp only [List.length_cons, List.cons_append] at ad
  simp -implicitDefEqProofs [nl, h3', ix, ad]
theorem e_kind2 (call : CallT) (g w : Nat) (p : Fo) (F : List Fo) (src : O) (R : Hs) (hg : R[g]? = some (.lst (F.map fT))) (hw : w < F.length) (h3 : F.length ≤ 3) (q : Fo) (hq : (F.drop w ++ F.take w)[w]? = some q) :
    P5 call [some (.r 0), some (.d S), some (.r (g + 1)), A3, some (.d (.int (w : Nat))), A5, A6, some (.d (.int 2)), some (.d (fT p)), A9, A10, A11, A12, A13, A14, A15] (src :: R) =
      .ok .nx [some (.r 0), some (.d S), some (.r (R.length + 1)), A3, some (.d (.int (w : Nat))), A5, A6, some (.d (.int 2)), some (.d (fT q)), A9, A10, A11, A12, A13, A14, A15] (src :: (R ++ [.lst ((F.drop w ++ F.take w).map fT)])) := by
  have at1 : (src :: R)[g + 1]? = some (.lst (F.map fT)) := hg
  have ls : lstOf (.r (g + 1)) (src :: R) = some (F.map fT) := by
    unfold lstOf
    dsimp only
    rw [at1]
  have s1 : slO (.r (g + 1)) (some (w : Int)) none (src :: R) = some (.d (.lv ((F.drop w).map fT)), src :: R) := by
    unfold slO
    dsimp only
    rw [ls]
    dsimp only
    rw [cut_from, List.map_drop]
  have s2 : slO (.r (g + 1)) none (some (w : Int)) (src :: R) = some (.d (.lv ((F.take w).map fT)), src :: R) := by
    unfold slO
    dsimp only
    rw [ls]
    dsimp only
    rw [cut_to, List.map_take]
  have ad := ap_addM (x := .d (.lv ((F.drop w).map fT))) (y := .d (.lv ((F.take w).map fT))) (h := src :: R) rfl rfl (les (by rw [List.length_map, List.length_map, List.length_drop, List.length_take]; omega))
  rw [← List.map_append] at ad
  have at2 : (src :: (R ++ [O.lst ((F.drop w ++ F.take w).map fT)]))[R.length + 1]? = some (.lst ((F.drop w ++ F.take w).map fT)) := by simp
  have ix : oIx (.r (R.length + 1)) (.d (.int (w : Int))) (src :: (R ++ [O.lst ((F.drop w ++ F.take w).map fT)])) = some (.d (fT q), src :: (R ++ [O.lst ((F.drop w ++ F.take w).map fT)])) := by
    rw [o_ixR (xs := (F.drop w ++ F.take w).map fT) at2, atI_nat, List.getElem?_map, hq]; rfl
  unfold P5
  generalize fT q = FQ at *
  generalize (F.drop w ++ F.take w).map fT = FD at *
  generalize (F.drop w).map fT = F1 at *
  generalize (F.take w).map fT = F2 at *
  simp only [List.length_cons, List.cons_append] at ad
  simp -implicitDefEqProofs [s1, s2, ad, ix]
theorem zw_ints (f g : List Int) : ((List.zip f g).map fun p => D.int (p.1 + p.2)) = (List.zipWith (· + ·) f g).map D.int := by
  rw [← List.map_uncurry_zip_eq_zipWith, List.map_map]
  rfl
theorem e_kind3 (n k g w : Nat) (u : Nat) (hu : u = 3 ∨ u = 1) (p : Fo) (F : List Fo) {src : O} (hs : Src k src) (hk : k < 900000) (R : Hs) (hg : R[g]? = some (.lst (F.map fT))) (hl : F.length ≤ 3) (h0 : 1 ≤ F.length) (hu3 : u = 1 → ¬ F.length < 3) (hp : p.2.length ≤ 1000) :
    ∃ (o : Nat) (ho : o < F.length) (src' : O), Src (k + 1) src' ∧ ∃ B10 B11 B12 : Option Vl, P5 (callF defs (n + 1)) [some (.r 0), some (.d S), some (.r (g + 1)), A3, some (.d (.int (w : Nat))), some (.d (.int p.1)), some (.d (.tup (p.2.map D.int))), some (.d (.int (u : Nat))), some (.d (fT p)), A9, A10, A11, A12, A13, A14, A15] (src :: R) =
      .ok .nx [some (.r 0), some (.d S), some (.r (g + 1)), A3, some (.d (.int (w : Nat))), some (.d (.int p.1)), some (.d (.tup (p.2.map D.int))), some (.d (.int (u : Nat))), some (.d (fT (if o = w then p else (p.1 + F[o].1, List.zipWith (· + ·) p.2 F[o].2)))), A9, B10, B11, B12, A13, A14, A15] (src' :: R) := by
  obtain ⟨o, ho, src', s', e1⟩ := k_take n k (by omega) hs F.length (by omega) (by omega) R
  refine ⟨o, ho, src', s', ?_⟩
  have at1 : (src :: R)[g + 1]? = some (.lst (F.map fT)) := hg
  have nl := n_lenR at1
  have nl' := n_lenR (h := src' :: R) (k := g + 1) (xs := F.map fT) hg
  rw [List.length_map] at nl
  have e1' : callF defs (n + 1) 17 [.r 0, .d (.int (F.length : Nat))] (src :: R) = .ok (.d (.int (o : Int))) (src' :: R) := e1
  have u0 : ¬ (u : Int) = 0 := by omega
  have u2 : ¬ (u : Int) = 2 := by omega
  have ix : oIx (.r (g + 1)) (.d (.int (o : Int))) (src' :: R) = some (.d (fT F[o]), src' :: R) := by
    rw [o_ixR (k := g + 1) (h := src' :: R) (xs := F.map fT) hg, atI_nat, List.getElem?_map, List.getElem?_eq_getElem ho]; rfl
  have oe : ∀ h, oNe (.d (.int (o : Int))) (.d (.int (w : Int))) h = some (.d (.bl (!decide ((o : Int) = (w : Int)))), h) := fun h => by simp
  have uu : (u = 3 ∧ ¬ (u : Int) = 1) ∨ (u = 1 ∧ ¬ ((F.length : Nat) : Int) < 3) := by
    rcases hu with h | h
    · exact .inl ⟨h, by omega⟩
    · exact .inr ⟨h, by have := hu3 h; omega⟩
  unfold P5
  by_cases ow : o = w
  · rw [if_pos ow]
    have ow' : (o : Int) = (w : Int) := by omega
    refine ⟨some (.d (.int (o : Nat))), A11, A12, ?_⟩
    generalize fT p = FP at *
    generalize p.2.map D.int = PD at *
    generalize F.map fT = FD at *
    rcases uu with ⟨rfl, u1⟩ | ⟨rfl, l3⟩
    · simp -implicitDefEqProofs [nl, e1', ow']
    · simp -implicitDefEqProofs [nl, l3, e1', ow']
  · rw [if_neg ow]
    have ow' : ¬ (o : Int) = (w : Int) := by omega
    refine ⟨some (.d (.int (o : Nat))), some (.d (.int F[o].1)), some (.d (.tup (F[o].2.map D.int))), ?_⟩
    have c1 := cmpL_all (vs := [14, 15]) (g := gTp 2 (gCo (gNm 14) (gCo (gNm 15) gNi))) (f := eBin oAdd (eVar 14) (eVar 15)) (σ := [some (.r 0), some (.d S), some (.r (g + 1)), A3, some (.d (.int (w : Nat))), some (.d (.int p.1)), some (.d (.tup (p.2.map D.int))), some (.d (.int (u : Nat))), some (.d (fT p)), A9, some (.d (.int (o : Nat))), some (.d (.int F[o].1)), some (.d (.tup (F[o].2.map D.int))), A13, A14, A15]) (h := src' :: R)
      (fun p : Int × Int => D.tup [.int p.1, .int p.2]) (fun p => .int (p.1 + p.2)) (List.zip p.2 F[o].2) (lts (by rw [List.length_zip]; omega)) fun x hx h' => ⟨_, rfl, by simp -implicitDefEqProofs [wipeL]⟩
    rw [← zip_ints, zw_ints] at c1
    have le := lc_end (src' :: R) ((List.zipWith (· + ·) p.2 F[o].2).map D.int)
    have fe : fT (p.1 + F[o].1, List.zipWith (· + ·) p.2 F[o].2) = .tup [.int (p.1 + F[o].1), .tup ((List.zipWith (· + ·) p.2 F[o].2).map D.int)] := rfl
    rw [fe]
    have fo : fT F[o] = .tup [.int F[o].1, .tup (F[o].2.map D.int)] := rfl
    rw [fo] at ix
    simp only [List.length_cons, List.cons_append] at c1 le
    generalize (List.zipWith (· + ·) p.2 F[o].2).map D.int = ZD at *
    generalize F[o].2.map D.int = OD at *
    generalize F[o].1 = oc at *
    generalize fT p = FP at *
    generalize p.2.map D.int = PD at *
    generalize F.map fT = FD at *
    rcases uu with ⟨rfl, u1⟩ | ⟨rfl, l3⟩
    · rw [show ((3 : Nat) : Int) = 3 from rfl] at c1
      simp -implicitDefEqProofs [nl, e1', ow', ix, c1, le]
    · rw [show ((1 : Nat) : Int) = 1 from rfl] at c1
      simp -implicitDefEqProofs [nl, l3, e1', ow', ix, c1, le]
end
end K28

namespace K28
open PySem PySem.Spec Mi
theorem Sml3.up {v C D : Nat} {F : List Fo} (s : Sml3 v C F) (h : C ≤ D) : Sml3 v D F := ⟨s.l0, s.l3, s.ln, s.sm, fun p hp => Nat.le_trans (s.cc p hp) h⟩
theorem Sml3.set {v C : Nat} {F : List Fo} (s : Sml3 v C F) {p : Fo} (h1 : p.2.length = v) (h2 : negS p.2 + posS p.2 ≤ 24) (h3 : p.1.natAbs ≤ C) (w : Nat) : Sml3 v C (F.set w p) := by
  have mm : ∀ q ∈ F.set w p, q ∈ F ∨ q = p := fun q hq => List.mem_or_eq_of_mem_set hq
  refine ⟨by rw [List.length_set]; exact s.l0, by rw [List.length_set]; exact s.l3, fun q hq => ?_, fun q hq => ?_, fun q hq => ?_⟩
  · rcases mm q hq with h | rfl
    · exact s.ln q h
    · exact h1
  · rcases mm q hq with h | rfl
    · exact s.sm q h
    · exact h2
  · rcases mm q hq with h | rfl
    · exact s.cc q h
    · exact h3
section
variable {S : D}
/-- behind the guard -/
theorem g_end (call : CallT) {v C : Nat} (hv : v ≤ 10) {F F1 : List Fo} {p : Fo} {w g m : Nat} (s1 : Sml3 v C F1) (hw : w < F1.length) (l1 : p.2.length = v) (c1 : p.1.natAbs ≤ C) (e1 : Same v F F1) (e2 : Same v F (F1.set w p)) (src : O) (R : Hs) (hg : R[g]? = some (.lst (F1.map fT))) (hm : m ≤ g) (A3 A5 A6 A7 A9 A10 A11 A12 A13 A14 A15 : Option Vl) :
    ∃ (F' : List Fo) (R' : Hs), Sml3 v C F' ∧ Same v F F' ∧ R'[g]? = some (.lst (F'.map fT)) ∧ R'.take m = R.take m ∧
      P6 call [some (.r 0), some (.d S), some (.r (g + 1)), A3, some (.d (.int (w : Nat))), A5, A6, A7, some (.d (fT p)), A9, A10, A11, A12, A13, A14, A15] (src :: R) = .ok .nx [some (.r 0), some (.d S), some (.r (g + 1)), A3, some (.d (.int (w : Nat))), A5, A6, A7, some (.d (fT p)), A9, A10, A11, A12, A13, A14, A15] (src :: R') := by
  have ge := e_guard (S := S) (A3 := A3) (A5 := A5) (A6 := A6) (A7 := A7) (A9 := A9) (A10 := A10) (A11 := A11) (A12 := A12) (A13 := A13) (A14 := A14) (A15 := A15) call g w p (F1.map fT) src R hg (by rw [List.length_map]; exact hw) (by omega)
  by_cases q : negS p.2 + posS p.2 ≤ 24
  · rw [if_pos q] at ge
    refine ⟨F1.set w p, R.set g (.lst ((F1.map fT).set w (fT p))), s1.set l1 q c1 w, e2, ?_, ?_, ge⟩
    · have hl := (List.getElem?_eq_some_iff.mp hg).1
      rw [List.getElem?_set_self hl, List.map_set]
    · rw [List.take_set_of_le hm]
  · rw [if_neg q] at ge
    exact ⟨F1, R, s1, e1, hg, rfl, ge⟩
theorem k_eqt (n k v C g m : Nat) {F : List Fo} (s : Sml3 v C F) (hv : v ≤ 10) (hC : C ≤ 2000) {src : O} (hs : Src k src) (hk : k + 10 ≤ 900000) (R : Hs) (hg : R[g]? = some (.lst (F.map fT))) (hm : m ≤ g) (A3 A4 A5 A6 A7 A8 A9 A10 A11 A12 A13 A14 A15 : Option Vl) :
    ∃ (F' : List Fo) (src' : O) (R' : Hs) (g' : Nat) (B4 B5 B6 B7 B8 B9 B10 B11 B12 B13 B14 B15 : Option Vl), Sml3 v (3 * C) F' ∧ Same v F F' ∧ Src (k + 3) src' ∧ R'[g']? = some (.lst (F'.map fT)) ∧ m ≤ g' ∧ R'.take m = R.take m ∧
      b__law_equal_system_1 (callF defs (n + 1)) [some (.r 0), some (.d S), some (.r (g + 1)), A3, A4, A5, A6, A7, A8, A9, A10, A11, A12, A13, A14, A15] (src :: R) =
        .ok .nx [some (.r 0), some (.d S), some (.r (g' + 1)), A3, B4, B5, B6, B7, B8, B9, B10, B11, B12, B13, B14, B15] (src' :: R') := by
  have l0 := s.l0
  have l3 := s.l3
  obtain ⟨w, hw, src1, s1, e1⟩ := k_take n k (by omega) hs F.length (by omega) (by omega) R
  obtain ⟨u, hu, src2, s2, e2⟩ := k_take n (k + 1) (by omega) s1 4 (by omega) (by omega) R
  have e1' : callF defs (n + 1) 17 [.r 0, .d (.int (F.length : Nat))] (src :: R) = .ok (.d (.int (w : Int))) (src1 :: R) := e1
  have e2' : callF defs (n + 1) 17 [.r 0, .d (.int 4)] (src1 :: R) = .ok (.d (.int (u : Int))) (src2 :: R) := e2
  have nl := n_lenR (h := src :: R) (k := g + 1) (xs := F.map fT) hg
  rw [List.length_map] at nl
  have ix : oIx (.r (g + 1)) (.d (.int (w : Int))) (src1 :: R) = some (.d (fT F[w]), src1 :: R) := by
    rw [o_ixR (k := g + 1) (h := src1 :: R) (xs := F.map fT) hg, atI_nat, List.getElem?_map, List.getElem?_eq_getElem hw]; rfl
  have fm := List.getElem_mem hw
  have p1 := s.ln _ fm
  have p2 := s.sm _ fm
  have p3 := s.cc _ fm
  have sml : Sml F[w].2 := fun i hi => by
    have := abs_ps F[w].2 i hi
    exact big (n := 10) (by have : (2 : Nat) ^ 10 = 1024 := by decide
                            omega) (by decide)
  have cml : F[w].1.natAbs < huge := big (n := 11) (by have : (2 : Nat) ^ 11 = 2048 := by decide
                                                       omega) (by decide)
  have set0 : F.set w F[w] = F := List.set_getElem_self hw
  have P : ∀ q, P1 (callF defs (n + 1)) q [some (.r 0), some (.d S), some (.r (g + 1)), A3, A4, A5, A6, A7, A8, A9, A10, A11, A12, A13, A14, A15] (src :: R) = q [some (.r 0), some (.d S), some (.r (g + 1)), A3, some (.d (.int (w : Nat))), some (.d (.int F[w].1)), some (.d (.tup (F[w].2.map D.int))), some (.d (.int (u : Nat))), some (.d (fT F[w])), A9, A10, A11, A12, A13, A14, A15] (src2 :: R) := fun q => by
    have fe : fT F[w] = .tup [.int F[w].1, .tup (F[w].2.map D.int)] := rfl
    rw [fe] at ix ⊢
    unfold P1
    generalize F[w].2.map D.int = PD at *
    generalize F[w].1 = pc at *
    generalize F.map fT = FD at *
    simp -implicitDefEqProofs [nl, e1', ix, e2']
  rw [body_eq, P, ap_sq]
  generalize hp : F[w] = p at *
  rcases (by omega : u = 0 ∨ u = 2 ∨ ((u = 3 ∨ u = 1) ∧ (u = 1 → ¬ F.length < 3)) ∨ (u = 1 ∧ F.length < 3)) with rfl | rfl | ⟨hu1, hu2⟩ | ⟨rfl, h3⟩
  · obtain ⟨mm, src3, m0, m3, s3, q⟩ := e_kind0 (S := S) (A3 := A3) (A9 := A9) (A10 := A10) (A11 := A11) (A12 := A12) (A13 := A13) (A14 := A14) (A15 := A15) n (k + 2) g w p (F.map fT) s2 (by omega) R (by omega) sml cml
    have sc : Same v F (F.set w (p.1 * mm, p.2.map (· * mm))) := by
      have := same_scale (v := v) hw m0
      rw [hp] at this
      exact this
    obtain ⟨F', R', a1, a2, a3, a4, a5⟩ := g_end (S := S) (callF defs (n + 1)) (C := 3 * C) hv (F := F) (F1 := F) (p := (p.1 * mm, p.2.map (· * mm))) (w := w) (g := g) (m := m) (s.up (by omega)) hw (by rw [List.length_map]; exact p1) (by
      show (p.1 * mm).natAbs ≤ 3 * C
      rw [Int.natAbs_mul, Nat.mul_comm]
      exact Nat.mul_le_mul m3 p3) .rfl' sc src3 R hg hm A3 (some (.d (.int p.1))) (some (.d (.tup (p.2.map D.int)))) (some (.d (.int 0))) (some (.d (.int mm))) A10 A11 A12 A13 A14 A15
    refine ⟨F', src3, R', g, some (.d (.int (w : Nat))), some (.d (.int p.1)), some (.d (.tup (p.2.map D.int))), some (.d (.int 0)), some (.d (fT (p.1 * mm, p.2.map (· * mm)))), some (.d (.int mm)), A10, A11, A12, A13, A14, A15, a1, a2, s3, a3, hm, a4, ?_⟩
    rw [show ((0 : Nat) : Int) = 0 from rfl, q, ss_nx, a5]
  · obtain ⟨q, hq⟩ : ∃ q, (F.drop w ++ F.take w)[w]? = some q := ⟨_, List.getElem?_eq_getElem (by rw [List.length_append, List.length_drop, List.length_take]; omega)⟩
    have qm := List.mem_of_getElem? hq
    have qF : q ∈ F := by
      rcases List.mem_append.mp qm with h | h
      · exact List.mem_of_mem_drop h
      · exact List.mem_of_mem_take h
    have ek := e_kind2 (S := S) (A3 := A3) (A5 := some (.d (.int p.1))) (A6 := some (.d (.tup (p.2.map D.int)))) (A9 := A9) (A10 := A10) (A11 := A11) (A12 := A12) (A13 := A13) (A14 := A14) (A15 := A15) (callF defs (n + 1)) g w p F src2 R hg hw l3 q hq
    have sr : Sml3 v (3 * C) (F.drop w ++ F.take w) := by
      have mm : ∀ x ∈ F.drop w ++ F.take w, x ∈ F := fun x hx => by
        rcases List.mem_append.mp hx with h | h
        · exact List.mem_of_mem_drop h
        · exact List.mem_of_mem_take h
      exact ⟨by rw [List.length_append, List.length_drop, List.length_take]; omega, by rw [List.length_append, List.length_drop, List.length_take]; omega, fun x hx => s.ln x (mm x hx), fun x hx => s.sm x (mm x hx), fun x hx => by have := s.cc x (mm x hx); omega⟩
    have hwr : w < (F.drop w ++ F.take w).length := (List.getElem?_eq_some_iff.mp hq).1
    have qs : (F.drop w ++ F.take w).set w q = F.drop w ++ F.take w := by
      obtain ⟨h1, h2⟩ := List.getElem?_eq_some_iff.mp hq
      rw [← h2]
      exact List.set_getElem_self h1
    have hl := (List.getElem?_eq_some_iff.mp hg).1
    obtain ⟨F', R', a1, a2, a3, a4, a5⟩ := g_end (S := S) (callF defs (n + 1)) (C := 3 * C) hv (F := F) (F1 := F.drop w ++ F.take w) (p := q) (w := w) (g := R.length) (m := m) sr hwr (s.ln q qF) (by have := s.cc q qF; omega) (same_rot w) (by rw [qs]; exact same_rot w) src2 (R ++ [.lst ((F.drop w ++ F.take w).map fT)]) (by simp) (by omega) A3 (some (.d (.int p.1))) (some (.d (.tup (p.2.map D.int)))) (some (.d (.int 2))) A9 A10 A11 A12 A13 A14 A15
    refine ⟨F', src2, R', R.length, some (.d (.int (w : Nat))), some (.d (.int p.1)), some (.d (.tup (p.2.map D.int))), some (.d (.int 2)), some (.d (fT q)), A9, A10, A11, A12, A13, A14, A15, a1, a2, s2.up (by omega), a3, by omega, by rw [a4, List.take_append_of_le_length (by omega)], ?_⟩
    rw [show ((2 : Nat) : Int) = 2 from rfl, ek, ss_nx, a5]
  · obtain ⟨o, ho, src3, s3, B10, B11, B12, q⟩ := e_kind3 (S := S) (A3 := A3) (A9 := A9) (A10 := A10) (A11 := A11) (A12 := A12) (A13 := A13) (A14 := A14) (A15 := A15) n (k + 2) g w u hu1 p F s2 (by omega) R hg l3 l0 hu2 (by omega)
    have fo := List.getElem_mem ho
    have o1 := s.ln _ fo
    have o3 := s.cc _ fo
    obtain ⟨F', R', a1, a2, a3, a4, a5⟩ := g_end (S := S) (callF defs (n + 1)) (C := 3 * C) hv (F := F) (F1 := F) (p := if o = w then p else (p.1 + F[o].1, List.zipWith (· + ·) p.2 F[o].2)) (w := w) (g := g) (m := m) (s.up (by omega)) hw (by
      split
      · exact p1
      · show (List.zipWith (· + ·) p.2 F[o].2).length = v
        rw [List.length_zipWith]; omega) (by
      split
      · omega
      · show (p.1 + F[o].1).natAbs ≤ 3 * C
        omega) .rfl' (by
      split
      · rw [set0]; exact .rfl'
      · rename_i ow
        have := same_add s.ln hw ho ow
        rw [hp] at this
        exact this) src3 R hg hm A3 (some (.d (.int p.1))) (some (.d (.tup (p.2.map D.int)))) (some (.d (.int (u : Nat)))) A9 B10 B11 B12 A13 A14 A15
    refine ⟨F', src3, R', g, some (.d (.int (w : Nat))), some (.d (.int p.1)), some (.d (.tup (p.2.map D.int))), some (.d (.int (u : Nat))), some (.d (fT (if o = w then p else (p.1 + F[o].1, List.zipWith (· + ·) p.2 F[o].2)))), A9, B10, B11, B12, A13, A14, A15, a1, a2, s3, a3, hm, a4, ?_⟩
    rw [q, ss_nx, a5]
  · have ek := e_kind1 (S := S) (A3 := A3) (A5 := some (.d (.int p.1))) (A6 := some (.d (.tup (p.2.map D.int)))) (A9 := A9) (A10 := A10) (A11 := A11) (A12 := A12) (A13 := A13) (A14 := A14) (A15 := A15) (callF defs (n + 1)) g w p F src2 R hg hw h3
    rw [hp] at ek
    have pF : p ∈ F := by rw [← hp]; exact List.getElem_mem hw
    have sr : Sml3 v (3 * C) (F ++ [p]) := by
      have mm : ∀ x ∈ F ++ [p], x ∈ F := fun x hx => by
        rcases List.mem_append.mp hx with h | h
        · exact h
        · rw [List.mem_singleton.mp h]; exact pF
      exact ⟨by rw [List.length_append]; omega, by rw [List.length_append, List.length_singleton]; omega, fun x hx => s.ln x (mm x hx), fun x hx => s.sm x (mm x hx), fun x hx => by have := s.cc x (mm x hx); omega⟩
    have hwr : w < (F ++ [p]).length := by rw [List.length_append]; omega
    have qs : (F ++ [p]).set w p = F ++ [p] := by
      rw [List.set_append_left _ _ hw, set0]
    have hl := (List.getElem?_eq_some_iff.mp hg).1
    obtain ⟨F', R', a1, a2, a3, a4, a5⟩ := g_end (S := S) (callF defs (n + 1)) (C := 3 * C) hv (F := F) (F1 := F ++ [p]) (p := p) (w := w) (g := R.length) (m := m) sr hwr p1 (by omega) (same_dup pF) (by rw [qs]; exact same_dup pF) src2 (R ++ [.lst ((F ++ [p]).map fT)]) (by simp) (by omega) A3 (some (.d (.int p.1))) (some (.d (.tup (p.2.map D.int)))) (some (.d (.int 1))) A9 A10 A11 A12 A13 A14 A15
    refine ⟨F', src2, R', R.length, some (.d (.int (w : Nat))), some (.d (.int p.1)), some (.d (.tup (p.2.map D.int))), some (.d (.int 1)), some (.d (fT p)), A9, A10, A11, A12, A13, A14, A15, a1, a2, s2.up (by omega), a3, by omega, by rw [a4, List.take_append_of_le_length (by omega)], ?_⟩
    rw [show ((1 : Nat) : Int) = 1 from rfl, ek, ss_nx, a5]
end
end K28

namespace K28
open PySem PySem.Spec Mi
theorem ap_fn (it : SemI) (gg : SemG) (body : SemS) (σ : Lo) (h : Hs) : sForN it gg body σ h = sb (it σ h) σ fun ds h1 => forN gg body ds σ h1 := rfl
theorem k_equal (n k v C : Nat) {F : List Fo} (s : Sml3 v C F) (hv : v ≤ 10) (hC : C ≤ 600) {src : O} (hs : Src k src) (hk : k + 100 ≤ 900000) (t : Hs) :
    ∃ (G : List Fo) (src' : O), Sml3 v (9 * C) G ∧ Same v F G ∧ Src (k + 10) src' ∧ callF defs (n + 2) 30 [.r 0, .d (.lv (F.map fT))] (src :: t) = .ok (.d (.lv (G.map fT))) (src' :: t) := by
  rw [callF_at (md := ⟨2, 16, false, m__law_equal_system⟩) rfl rfl]
  obtain ⟨u, hu, src1, s1, e1⟩ := k_take n k (by omega) hs 2 (by omega) (by omega) (t ++ [.lst (F.map fT)])
  have e1' : callF defs (n + 1) 17 [.r 0, .d (.int 2)] (src :: (t ++ [.lst (F.map fT)])) = .ok (.d (.int (u : Int))) (src1 :: (t ++ [.lst (F.map fT)])) := e1
  have lm : nListM [.d (.lv (F.map fT))] (src :: t) = some (.r (t.length + 1), src :: (t ++ [.lst (F.map fT)])) := rfl
  have fr : ∀ (σ : Lo) (s' : O) (R' : Hs) (g' : Nat) (l : List D), R'[g']? = some (.lst l) → t.length ≤ g' → R'.take t.length = t → fin false (t.length + 1) (.ok (.ret (.r (g' + 1))) σ (s' :: R')) = .ok (.d (.lv l)) (s' :: t) := fun σ s' R' g' l h1 h2 h3 => by
    rw [fin_retR (k := g' + 1) (h := s' :: R') (xs := l) h1]
    show Res.ok _ (((s' :: R').set (g' + 1) O.dead).take (t.length + 1)) = _
    rw [List.set_cons_succ, List.take_succ_cons, List.take_set_of_le h2, h3]
  obtain ⟨F1, src2, R1, g1, B4, B5, B6, B7, B8, B9, B10, B11, B12, B13, B14, B15, q1, q2, q3, q4, q5, q6, q7⟩ := k_eqt (S := .lv (F.map fT)) n (k + 1) v C t.length t.length s hv (by omega) s1 (by omega) (t ++ [.lst (F.map fT)]) (by simp) (Nat.le_refl _) (some (.d (.int 0))) none none none none none none none none none none none none
  have tk : (t ++ [O.lst (F.map fT)]).take t.length = t := by simp
  rw [tk] at q6
  have rg0 := rngR_nat (k := 1 + u) (h := src1 :: (t ++ [.lst (F.map fT)])) (by omega)
  have ew : (1 : Int) + (u : Int) = ((1 + u : Nat) : Int) := by omega
  rw [← ew] at rg0
  rcases (by omega : u = 0 ∨ u = 1) with rfl | rfl
  · refine ⟨F1, src2, q1.up (by omega), q2, q3.up (by omega), ?_⟩
    have rd : rngD 0 (1 + 0) = [D.int 0] := rfl
    rw [rd] at rg0
    have fr0 := fun σ => fr σ src2 R1 g1 (F1.map fT) q4 q5 q6
    generalize F.map fT = FD at *
    generalize F1.map fT = FD1 at *
    have rg1 : rngR [.d (.int 1)] (src1 :: (t ++ [.lst FD])) = .ok [.int 0] (src1 :: (t ++ [.lst FD])) := rg0
    have e1z : callF defs (n + 1) 17 [.r 0, .d (.int 2)] (src :: (t ++ [.lst FD])) = .ok (.d (.int 0)) (src1 :: (t ++ [.lst FD])) := e1'
    simp -implicitDefEqProofs [-ab__law_equal_system_1, startL, lm, ap_fn, e1z, rg1, forN, q7, fr0]
  · obtain ⟨F2, src3, R2, g2, C4, C5, C6, C7, C8, C9, C10, C11, C12, C13, C14, C15, r1, r2, r3, r4, r5, r6, r7⟩ := k_eqt (S := .lv (F.map fT)) n (k + 1 + 3) v (3 * C) g1 t.length q1 hv (by omega) q3 (by omega) R1 q4 q5 (some (.d (.int 1))) B4 B5 B6 B7 B8 B9 B10 B11 B12 B13 B14 B15
    rw [q6] at r6
    refine ⟨F2, src3, r1.up (by omega), q2.tr r2, r3.up (by omega), ?_⟩
    have rd : rngD 0 (1 + 1) = [D.int 0, D.int 1] := rfl
    rw [rd] at rg0
    have fr0 := fun σ => fr σ src3 R2 g2 (F2.map fT) r4 r5 r6
    generalize F.map fT = FD at *
    generalize F1.map fT = FD1 at *
    generalize F2.map fT = FD2 at *
    have rg1 : rngR [.d (.int (1 + 1))] (src1 :: (t ++ [.lst FD])) = .ok [.int 0, .int 1] (src1 :: (t ++ [.lst FD])) := rg0
    have rg2 : rngR [.d (.int 2)] (src1 :: (t ++ [.lst FD])) = .ok [.int 0, .int 1] (src1 :: (t ++ [.lst FD])) := rg0
    have e1z : callF defs (n + 1) 17 [.r 0, .d (.int 2)] (src :: (t ++ [.lst FD])) = .ok (.d (.int 1)) (src1 :: (t ++ [.lst FD])) := e1'
    simp -implicitDefEqProofs [-ab__law_equal_system_1, startL, lm, ap_fn, e1z, rg1, rg2, forN, q7, r7, fr0]
/-! ### systems drawn -/
def Fac (v fc : Nat) (F : List Fo) : Prop := ∀ p ∈ F, p.2.length = v ∧ ∀ f ∈ p.2, f.natAbs ≤ fc
theorem sum_le : ∀ (f : List Int) (fc : Nat), (∀ x ∈ f, x.natAbs ≤ fc) → negS f + posS f ≤ ((fc * f.length : Nat) : Int)
  | [], fc, _ => by simp [negS, posS]
  | x :: f, fc, h => by
    have ih := sum_le f fc fun y hy => h y (List.mem_cons_of_mem _ hy)
    have hx := h x List.mem_cons_self
    unfold negS posS
    rw [List.length_cons, Nat.mul_succ]
    split <;> split <;> omega
theorem fT_mk (c : Int) (fs : List Int) : fT (c, fs) = .tup [.int c, .tup (fs.map D.int)] := rfl
theorem l_sysF (n v : Nat) (hv : v ≤ 4) (t : Hs) (A : D) : ∀ (js : List Nat) (k : Nat) (src : O) (acc : List Fo), Src k src → k + 5 * js.length ≤ 900000 → acc.length + js.length ≤ 100 →
    (Fac v 2 acc ∧ ∀ p ∈ acc, p.1.natAbs ≤ 9) → ∀ C E,
    ∃ (L : List Fo) (src' : O) (C' E' : Option Vl), L.length = acc.length + js.length ∧ Src (k + 5 * js.length) src' ∧ (Fac v 2 L ∧ ∀ p ∈ L, p.1.natAbs ≤ 9) ∧
      forL (gNm 6) (b__law_system_1 (callF defs (n + 1))) (js.map fun i : Nat => D.int (i : Int)) [some (.r 0), some (.d A), some (.d (.int (v : Nat))), some (.d (.int 2)), some (.d (.int 9)), some (.r (t.length + 1)), C, E, none] (src :: (t ++ [.lst (acc.map fT)])) =
        .ok .nx [some (.r 0), some (.d A), some (.d (.int (v : Nat))), some (.d (.int 2)), some (.d (.int 9)), some (.r (t.length + 1)), C', E', none] (src' :: (t ++ [.lst (L.map fT)]))
  | [], k, src, acc, hs, _, _, ha, C, E => ⟨acc, src, C, E, by simp, hs.up (by simp), ha, by simp [forL]⟩
  | j :: js, k, src, acc, hs, hk, hz, ha, C, E => by
    rw [List.length_cons] at hk hz
    obtain ⟨zs, src1, z1, z2, s1, c⟩ := cmpL_drawM (vs := [8]) (g := gNm 8) (f := eBin oSub (eCl (callF defs (n + 1)) 17 [] (aCons (eVar 0) (aCons (eBin oAdd (eBin oMulI (eK (.int 2)) (eVar 3)) (eK (.int 1))) aNil))) (eVar 3))
      (σ := [some (.r 0), some (.d A), some (.d (.int (v : Nat))), some (.d (.int 2)), some (.d (.int 9)), some (.r (t.length + 1)), some (.d (.int (j : Nat))), E, none]) (fun i : Nat => D.int (i : Int)) (fun z : Nat × Int => D.int z.2) (·.1) (fun z => z.2.natAbs ≤ 2) 1 (t ++ [.lst (acc.map fT)]) (List.range v) k src [] (fun i _ k src h' hk hs => by
        obtain ⟨w, hw, src1, s1, e1⟩ := k_take n k (by omega) hs 5 (by omega) (by omega) h'
        have e1' : callF defs (n + 1) 17 [.r 0, .d (.int 5)] (src :: h') = .ok (.d (.int (w : Int))) (src1 :: h') := e1
        have cm6 : cMulW 2 2 = true := by decide +kernel
        refine ⟨_, (i, (w : Int) - 2), src1, fun h => rfl, rfl, by show ((w : Int) - 2).natAbs ≤ 2; omega, s1, ?_⟩
        simp [wipeL, cm6, e1']) hs (by rw [List.length_range]; omega) (by rw [List.length_nil, List.length_range]; omega)
    rw [List.length_range] at s1
    obtain ⟨w, hw, src2, s2, e2⟩ := k_take n (k + 1 * v) (by omega) s1 19 (by omega) (by omega) (t ++ [.lst (acc.map fT)])
    have e2' : callF defs (n + 1) 17 [.r 0, .d (.int 19)] (src1 :: (t ++ [.lst (acc.map fT)])) = .ok (.d (.int (w : Int))) (src2 :: (t ++ [.lst (acc.map fT)])) := e2
    have cm18 : cMulW 2 9 = true := by decide +kernel
    have rg := rngR_nat (k := v) (h := src :: (t ++ [.lst (acc.map fT)])) (by omega)
    rw [zero_add_rng] at rg
    have zl : zs.length = v := by
      have := congrArg List.length z1
      simpa using this
    have le := lc_endS src1 (t ++ [.lst (acc.map fT)]) (zs.map fun z => D.int z.2)
    have hm : (zs.map fun z => D.int z.2) = (zs.map (·.2)).map D.int := by rw [List.map_map]; rfl
    rw [List.nil_append] at c
    rw [hm] at c le
    have fs3 : ∀ f ∈ zs.map (·.2), f.natAbs ≤ 2 := fun f hf => by
      obtain ⟨z, hz, rfl⟩ := List.mem_map.mp hf
      exact z2 z hz
    have fl : (zs.map (·.2)).length = v := by rw [List.length_map, zl]
    generalize zs.map (·.2) = fs at *
    obtain ⟨L, src3, C', E', h1, h2, h3, h4⟩ := l_sysF n v hv t A js (k + 5) src2 (acc ++ [((w : Int) - 9, fs)]) (s2.up (by omega)) (by omega) (by rw [List.length_append, List.length_singleton]; omega) ⟨(fun x hx => by
      rcases List.mem_append.mp hx with hx | hx
      · exact ha.1 x hx
      · have := List.mem_singleton.mp hx
        subst this
        exact ⟨fl, fs3⟩), fun x hx => by
      rcases List.mem_append.mp hx with hx | hx
      · exact ha.2 x hx
      · have := List.mem_singleton.mp hx
        subst this
        show ((w : Int) - 9).natAbs ≤ 9; omega⟩ (some (.d (.int (j : Nat)))) (some (.d (.tup (fs.map D.int))))
    refine ⟨L, src3, C', E', by rw [h1, List.length_append, List.length_singleton, List.length_cons]; omega, h2.up (by rw [List.length_cons]; omega), h3, ?_⟩
    rw [List.map_append, List.map_cons, List.map_nil, fT_mk] at h4
    have lz : (acc.map fT).length < sizeLine := lts (by rw [List.length_map]; omega)
    generalize acc.map fT = AC at *
    rw [List.length_append, List.length_singleton] at c le
    simp only [List.append_assoc, List.cons_append, List.nil_append] at c le
    rw [List.map_cons, ← h4]
    simp [forL, rg, c, le, e2', cm18, lz]
theorem k_systemF (n k v : Nat) {src : O} (hs : Src k src) (hv : v ≤ 4) (hk : k + 100 ≤ 900000) (t : Hs) :
    ∃ (L : List Fo) (src' : O), Fac v 2 L ∧ (∀ p ∈ L, p.1.natAbs ≤ 9) ∧ 1 ≤ L.length ∧ L.length ≤ 2 ∧ Src (k + 100) src' ∧ callF defs (n + 2) 24 [.r 0, .d (.int 2), .d (.int (v : Nat)), .d (.int 2), .d (.int 9)] (src :: t) = .ok (.d (.lv (L.map fT))) (src' :: t) := by
  rw [callF_at (md := ⟨5, 9, false, m__law_system⟩) rfl rfl]
  obtain ⟨w, hw, src1, s1, e1⟩ := k_take n k (by omega) hs 2 (by omega) (by omega) (t ++ [.lst []])
  have e1' : callF defs (n + 1) 17 [.r 0, .d (.int 2)] (src :: (t ++ [.lst []])) = .ok (.d (.int (w : Int))) (src1 :: (t ++ [.lst []])) := e1
  obtain ⟨L, src2, C', E', h1, h2, h3, h4⟩ := l_sysF n v hv t (.int 2) (List.range (1 + w)) (k + 1) src1 [] s1 (by rw [List.length_range]; omega) (by rw [List.length_nil, List.length_range]; omega) ⟨(fun x hx => by cases hx), fun x hx => by cases hx⟩ none none
  rw [List.length_range] at h1 h2
  rw [List.length_nil, Nat.zero_add] at h1
  rw [List.map_nil] at h4
  have rg := rngR_nat (k := 1 + w) (h := src1 :: (t ++ [.lst []])) (by omega)
  rw [zero_add_rng] at rg
  have ew : (1 : Int) + (w : Int) = ((1 + w : Nat) : Int) := by omega
  rw [← ew] at rg
  have fr : ∀ σ l, fin false (t.length + 1) (.ok (.ret (.r (t.length + 1))) σ (src2 :: (t ++ [O.lst l]))) = .ok (.d (.lv l)) (src2 :: t) := fun σ l => by
    rw [fin_retR (xs := l) (by simp)]
    simp
  refine ⟨L, src2, h3.1, h3.2, by omega, by omega, h2.up (by omega), ?_⟩
  simp -implicitDefEqProofs [startL, e1', rg, h4, fr]
end K28

namespace K28
open PySem PySem.Spec Mi
theorem e_valueL (n : Nat) (c : Int) (fs gs : List Int) (h : Hs) (hf : Sml fs) (hg : Sml gs) : callF defs (n + 1) 18 [.d (.tup [.int c, .tup (fs.map D.int)]), .d (.lv (gs.map D.int))] h = .ok (.d (.int (dotA c fs gs))) h := by
  rw [callF_at (md := ⟨2, 5, false, m__law_value⟩) rfl rfl]
  obtain ⟨C', E', q⟩ := l_value (callF defs n) h (.tup [.int c, .tup (fs.map D.int)]) (.lv (gs.map D.int)) fs gs c hf hg none none
  have x0 : ∀ a b : D, L2.atI [a, b] 0 = some a := fun _ _ => rfl
  have x1 : ∀ a b : D, L2.atI [a, b] 1 = some b := fun _ _ => rfl
  simp -implicitDefEqProofs [startL, x0, x1, q]
theorem e_valueF (n : Nat) (p : Fo) (gs : List Int) (h : Hs) (hf : Sml p.2) (hg : Sml gs) : callF defs (n + 1) 18 [.d (fT p), .d (iT gs)] h = .ok (.d (.int (dotA p.1 p.2 gs))) h := by
  rw [callF_at (md := ⟨2, 5, false, m__law_value⟩) rfl rfl]
  obtain ⟨C', E', q⟩ := l_value (callF defs n) h (fT p) (iT gs) p.2 gs p.1 hf hg none none
  have f0 := fT0 p
  have f1 := fT1 p
  generalize fT p = FX at *
  unfold iT at q ⊢
  simp -implicitDefEqProofs [startL, f0, f1, q]
theorem sm10 {i : Nat} (h : i ≤ 1000) : i < huge := by
  have e : (2 : Nat) ^ 10 = 1024 := by decide
  exact big (n := 10) (by omega) (by decide)
theorem fac_sml {fc : Nat} (h4 : fc ≤ 4) {fs : List Int} (h : ∀ f ∈ fs, f.natAbs ≤ fc) : Sml fs := fun i hi => sm10 (by have := h i hi; omega)
theorem l_madeF (n v fc : Nat) (h4 : fc ≤ 4) (hv : v ≤ 4) (t : Hs) (A : D) (N : List Int) (hN : N.length = v) (sN : Sml N) : ∀ (js : List Nat) (k : Nat) (src : O) (acc : List Fo), Src k src → k + 5 * js.length ≤ 900000 → acc.length + js.length ≤ 100 →
    (Fac v fc acc ∧ ∀ p ∈ acc, p.1 = -dotA 0 p.2 N) → ∀ C E,
    ∃ (L : List Fo) (src' : O) (C' E' : Option Vl), L.length = acc.length + js.length ∧ Src (k + 5 * js.length) src' ∧ (Fac v fc L ∧ ∀ p ∈ L, p.1 = -dotA 0 p.2 N) ∧
      forL (gNm 5) (b__law_made_system_1 (callF defs (n + 1))) (js.map fun i : Nat => D.int (i : Int)) [some (.r 0), some (.d A), some (.d (.int (fc : Nat))), some (.d (.lv (N.map D.int))), some (.r (t.length + 1)), C, E, none] (src :: (t ++ [.lst (acc.map fT)])) =
        .ok .nx [some (.r 0), some (.d A), some (.d (.int (fc : Nat))), some (.d (.lv (N.map D.int))), some (.r (t.length + 1)), C', E', none] (src' :: (t ++ [.lst (L.map fT)]))
  | [], k, src, acc, hs, _, _, ha, C, E => ⟨acc, src, C, E, by simp, hs.up (by simp), ha, by simp [forL]⟩
  | j :: js, k, src, acc, hs, hk, hz, ha, C, E => by
    rw [List.length_cons] at hk hz
    obtain ⟨zs, src1, z1, z2, s1, c⟩ := cmpL_drawM (vs := [7]) (g := gNm 7) (f := eBin oSub (eCl (callF defs (n + 1)) 17 [] (aCons (eVar 0) (aCons (eBin oAdd (eBin oMulI (eK (.int 2)) (eVar 2)) (eK (.int 1))) aNil))) (eVar 2))
      (σ := [some (.r 0), some (.d A), some (.d (.int (fc : Nat))), some (.d (.lv (N.map D.int))), some (.r (t.length + 1)), some (.d (.int (j : Nat))), E, none]) D.int (fun z : Int × Int => D.int z.2) (·.1) (fun z => z.2.natAbs ≤ fc) 1 (t ++ [.lst (acc.map fT)]) N k src [] (fun i _ k src h' hk hs => by
        obtain ⟨w, hw, src1, s1, e1⟩ := k_take n k (by omega) hs (2 * fc + 1) (by omega) (by omega) h'
        have ew : ((2 * fc + 1 : Nat) : Int) = 2 * (fc : Int) + 1 := by omega
        rw [ew] at e1
        have cm6 : cMulW 2 (fc : Int) = true := cm4 (sm10 (by decide)) (sm10 (by omega))
        refine ⟨_, (i, (w : Int) - fc), src1, fun h => rfl, rfl, by show ((w : Int) - fc).natAbs ≤ fc; omega, s1, ?_⟩
        simp -implicitDefEqProofs [wipeL, cm6, e1]) hs (by omega) (by rw [List.length_nil]; omega)
    have zl : zs.length = v := by
      have := congrArg List.length z1
      rw [List.length_map] at this
      omega
    have le := lc_endS src1 (t ++ [.lst (acc.map fT)]) (zs.map fun z => D.int z.2)
    have hm : (zs.map fun z => D.int z.2) = (zs.map (·.2)).map D.int := by rw [List.map_map]; rfl
    rw [List.nil_append] at c
    rw [hm] at c le
    have fs3 : ∀ f ∈ zs.map (·.2), f.natAbs ≤ fc := fun f hf => by
      obtain ⟨z, hz, rfl⟩ := List.mem_map.mp hf
      exact z2 z hz
    have fl : (zs.map (·.2)).length = v := by rw [List.length_map, zl]
    generalize zs.map (·.2) = fs at *
    have ev := e_valueL n 0 fs N (src1 :: (t ++ [.lst (acc.map fT)])) (fac_sml h4 fs3) sN
    obtain ⟨L, src3, C', E', h1, h2, h3, h4'⟩ := l_madeF n v fc h4 hv t A N hN sN js (k + 5) src1 (acc ++ [(-(dotA 0 fs N), fs)]) (s1.up (by omega)) (by omega) (by rw [List.length_append, List.length_singleton]; omega) ⟨(fun x hx => by
      rcases List.mem_append.mp hx with hx | hx
      · exact ha.1 x hx
      · have := List.mem_singleton.mp hx
        subst this
        exact ⟨fl, fs3⟩), fun x hx => by
      rcases List.mem_append.mp hx with hx | hx
      · exact ha.2 x hx
      · have := List.mem_singleton.mp hx
        subst this
        rfl⟩ (some (.d (.int (j : Nat)))) (some (.d (.tup (fs.map D.int))))
    refine ⟨L, src3, C', E', by rw [h1, List.length_append, List.length_singleton, List.length_cons]; omega, h2.up (by rw [List.length_cons]; omega), h3, ?_⟩
    rw [List.map_append, List.map_cons, List.map_nil, fT_mk] at h4'
    have lz : (acc.map fT).length < sizeLine := lts (by rw [List.length_map]; omega)
    generalize acc.map fT = AC at *
    rw [List.length_append, List.length_singleton] at c le
    simp only [List.append_assoc, List.cons_append, List.nil_append] at c le
    rw [List.map_cons, ← h4']
    generalize dotA 0 fs N = dt at *
    generalize fs.map D.int = FD at *
    generalize N.map D.int = ND at *
    simp -implicitDefEqProofs [forL, c, le, ev, lz]
theorem k_madeF (n k v fc m : Nat) (h4 : fc ≤ 4) (hm : 1 ≤ m) (hm3 : m ≤ 3) (N : List Int) (hN : N.length = v) (sN : Sml N) {src : O} (hs : Src k src) (hv : v ≤ 4) (hk : k + 100 ≤ 900000) (t : Hs) :
    ∃ (L : List Fo) (src' : O), Fac v fc L ∧ (∀ p ∈ L, p.1 = -dotA 0 p.2 N) ∧ L.length = m ∧ Src (k + 100) src' ∧ callF defs (n + 2) 25 [.r 0, .d (.int (m : Nat)), .d (.int (fc : Nat)), .d (.lv (N.map D.int))] (src :: t) = .ok (.d (.lv (L.map fT))) (src' :: t) := by
  rw [callF_at (md := ⟨4, 8, false, m__law_made_system⟩) rfl rfl]
  obtain ⟨L, src2, C', E', h1, h2, h3, h4'⟩ := l_madeF n v fc h4 hv t (.int (m : Nat)) N hN sN (List.range m) k src [] hs (by rw [List.length_range]; omega) (by rw [List.length_nil, List.length_range]; omega) ⟨(fun x hx => by cases hx), fun x hx => by cases hx⟩ none none
  rw [List.length_range] at h1 h2
  rw [List.length_nil, Nat.zero_add] at h1
  rw [List.map_nil] at h4'
  have rg := rngR_nat (k := m) (h := src :: (t ++ [.lst []])) (by omega)
  rw [zero_add_rng] at rg
  have fr : ∀ σ l, fin false (t.length + 1) (.ok (.ret (.r (t.length + 1))) σ (src2 :: (t ++ [O.lst l]))) = .ok (.d (.lv l)) (src2 :: t) := fun σ l => by
    rw [fin_retR (xs := l) (by simp)]
    simp
  refine ⟨L, src2, h3.1, h3.2, by omega, h2.up (by omega), ?_⟩
  simp -implicitDefEqProofs [startL, rg, h4', fr]
end K28

namespace K28
open PySem PySem.Spec Mi
theorem e_ansEq (n : Nat) (N : List Int) (h : Hs) : callF defs (n + 1) 13 [.d (anD (iT N)), .d (anD (iT N))] h = .ok (.d (.bl true)) h := by
  rw [callF_at (md := ⟨2, 2, false, m_Answer__eq_⟩) rfl rfl]
  have lk2 : lookT (.c 2) (isiT isOk isBt 2) = some true := rfl
  have okn : ok_numbers 2 = true := rfl
  have oe := o_eqR h (sm_iT N) (by omega)
  generalize iT N = NN at *
  simp -implicitDefEqProofs [startL, lk2, okn, oe]
theorem o_ans (n : Nat) (N : List Int) (h : Hs) : oEqO false eqTab (callF defs (n + 1)) (.d (anD (iT N))) (.d (anD (iT N))) h = some (.d (.bl true), h) := by
  refine o_eqO h ?_
  have e := e_ansEq n N []
  unfold eqD2
  have et : eqTop eqTab (callF defs (n + 1)) (anD (iT N)) (anD (iT N)) = none := rfl
  rw [et]
  dsimp only
  have l2 : eqTab.lookup 2 = some 13 := rfl
  show (match eqTab.lookup 2, eqTab.lookup 2 with
    | some i, some _ => (match callF defs (n + 1) i [.d (anD (iT N)), .d (anD (iT N))] [] with
      | .ok (.d (.bl b)) _ => if b = true ∨ samef [(0, iT N)] [(0, iT N)] = false then some b else none
      | _ => none)
    | _, _ => none) = some true
  rw [l2]
  dsimp only
  rw [e]
  simp
/-- whole, of any system whose search stays small -/
theorem wh_any (n : Nat) (b : Bool) {v M : Nat} {F : List Fo} (s : Sy v (mkF F)) (hv : vOf (mkF F) = v) (hl : 1 ≤ F.length) (hM : M ≤ 400000) (hT : ∀ j, (TS (mkF F) j).length ≤ M) {Lh : List Fm} (eh : Lh.map (·.1) = F) (h : Hs) :
    ∃ res, callF defs (n + 3) 10 [.d (box b (Lh.map fmD))] h = .ok (.d res) h ∧
      ((∃ N, Ans (mkF F) N ∧ N.length = v ∧ res = anD (iT N)) ∨ (zr (mkF F) ∉ TS (mkF F) M ∧ res = crD (.tup (sortD ((TS (mkF F) M).map iT))))) := by
  have em : Lh.map (·.1) = (mkF F).map (·.1) := by rw [eh, mkF_map]
  have sh := same_sy em s
  have vh := same_vOf em
  have lh : Lh.length = F.length := by rw [← eh, List.length_map]
  have zh : zr Lh = zr (mkF F) := by unfold zr; rw [same_len em]
  have th : ∀ j, TS Lh j = TS (mkF F) j := fun j => by unfold TS; rw [same_W em]
  obtain ⟨res, e, hr⟩ := e_wholeS n b sh (by rw [vh]; exact hv) (j0 := M) (.inl (by omega)) hM (by rw [th]; exact hT M) (by rw [th]; exact Nat.le_trans (hT M) hM) h
  refine ⟨res, e, ?_⟩
  rcases hr with ⟨a, ha, hz, rfl⟩ | ⟨hz, rfl⟩
  · rw [same_W em] at ha
    rw [zh] at hz
    have A := is_ans (L := mkF F) (j0 := M) (hT M) (Nat.le_trans (hT M) hM) ha hz
    rw [hv] at A
    exact .inl ⟨_, A, by rw [A.fit.len, usL_len, hv], rfl⟩
  · rw [zh, th] at hz
    rw [th]
    exact .inr ⟨hz, rfl⟩
theorem hand_F (n k : Nat) {src : O} (hs : Src k src) (F : List Fo) (hL : F.length ≤ 100) (hk : k + 300 ≤ 900000) (t : Hs) : ∃ (b : Bool) (Lh : List Fm) (src' : O), Lh.map (·.1) = F ∧ Src (k + 300) src' ∧ callF defs (n + 3) 27 [.r 0, .d (.lv (F.map fT))] (src :: t) = .ok (.d (box b (Lh.map fmD))) (src' :: t) := by
  obtain ⟨b, Lh, src', e1, s', e2⟩ := k_handed n k hs (mkF F) (by unfold mkF; rw [List.length_map]; exact hL) hk t
  rw [mkF_map] at e1
  rw [mkF_D] at e2
  exact ⟨b, Lh, src', e1, s', e2⟩
theorem Sml3.tv {v C : Nat} {F : List Fo} (s : Sml3 v C F) (hC : C < 2 ^ 11) : ∀ j, (TS (mkF F) j).length ≤ 289524 := small_rows s hC
/-- two equal systems: both answers alike, or both shut -/
theorem two_alike {v C D M : Nat} {F G : List Fo} (s : Sml3 v C F) (t : Sml3 v D G) (h : Same v F G) (hM : M ≤ 400000) (hF : ∀ j, (TS (mkF F) j).length ≤ M) {N : List Int} (A : Ans (mkF G) N) (hz : zr (mkF F) ∉ TS (mkF F) M) : False := by
  have fN : FitU (usL (mkF F)) N := by rw [same_usL s t h]; exact A.fit
  exact no_sol (L := mkF F) (j0 := M) (hF M) hz fN A.lt ((same_sol h N).mpr A.sol)
theorem ans_zero {F : List Fo} {N : List Int} (A : Ans (mkF F) N) : ∀ p ∈ F, dotA p.1 p.2 N = 0 := fun p hp => by
  have := List.all_eq_true.mp ((sol_iff (mkF F) N).mpr A.sol) (p, true, true) (List.mem_map.mpr ⟨p, hp, rfl⟩)
  simpa using this
theorem ans_sml {F : List Fo} {N : List Int} (A : Ans (mkF F) N) : Sml N := fun i hi => by
  have h1 := A.lt i hi
  have h2 := A.fit.nn i hi
  have : i.natAbs = i.toNat := by omega
  rw [this]
  exact h1
theorem Sml3.fsml {v C : Nat} {F : List Fo} (s : Sml3 v C F) : ∀ p ∈ F, Sml p.2 := fun p hp i hi => by
  have := abs_ps p.2 i hi
  have := s.sm p hp
  exact sm10 (by omega)
end K28

namespace K28
open PySem PySem.Spec Mi
/-! ### nothing is at fault -/
theorem zeroAt_none : ∀ (R : List (List Int)) (k : Nat), (∀ r ∈ R, r.all (· == 0) = false) → zeroAt k R = none
  | [], k, _ => rfl
  | r :: R, k, h => by
    unfold zeroAt
    rw [h r List.mem_cons_self, if_neg Bool.false_ne_true]
    exact zeroAt_none R (k + 1) fun x hx => h x (List.mem_cons_of_mem _ hx)
theorem openR_none {P : List (List Int)} {L : List Fm} : ∀ (R : List (List Int)) (k : Nat), (∀ r ∈ R, ∀ p ∈ turns L r, p.2 ∈ P) → openR P L k R = none
  | [], k, _ => rfl
  | r :: R, k, h => by
    unfold openR
    have : (figR (usL L)).find? (isOpen P L r) = none := by
      rw [List.find?_eq_none]
      intro g hg
      unfold isOpen
      split
      · rename_i r' e
        have := h r List.mem_cons_self (g, r') (mem_turns.mpr ⟨hg, e⟩)
        simp [this]
      · exact Bool.false_ne_true
    rw [this]
    exact openR_none R (k + 1) fun x hx => h x (List.mem_cons_of_mem _ hx)
theorem fault_non {L : List Fm} {j0 : Nat} (h0 : (TS L j0).length ≤ j0) (hz : zr L ∉ TS L j0) {R : List (List Int)} (hR : ∀ r, r ∈ R ↔ r ∈ TS L j0) : fault L R = .non := by
  have I := W_inv L j0
  unfold fault
  have st : (L.map fun x => x.1.1) ∈ R := by
    rw [hR]
    exact List.mem_map.mpr ⟨_, List.mem_of_getElem? I.st, rfl⟩
  rw [if_pos st, zeroAt_none R 0 fun r hr => by
    have hr := (hR r).mp hr
    rw [all_zero (TS_ln hr)]
    exact decide_eq_false fun q => hz (by rw [q] at hr; exact hr)]
  dsimp only
  rw [openR_none R 0 fun r hr p hp => by
    rw [hR]
    obtain ⟨e, he, rfl⟩ := List.mem_map.mp ((hR r).mp hr)
    obtain ⟨i, hi, rfl⟩ := List.mem_iff_getElem.mp he
    rw [TS_len] at h0
    obtain ⟨e', he', q, _⟩ := I.cl i (by omega) _ (List.getElem?_eq_getElem hi) p hp
    exact List.mem_map.mpr ⟨e', he', q⟩]
theorem all_iT : ∀ {ds : List D}, (∀ d ∈ ds, ∃ r, d = iT r) → ∃ R : List (List Int), ds = R.map iT
  | [], _ => ⟨[], rfl⟩
  | d :: ds, h => by
    obtain ⟨r, rfl⟩ := h d List.mem_cons_self
    obtain ⟨R, rfl⟩ := all_iT fun x hx => h x (List.mem_cons_of_mem _ hx)
    exact ⟨r :: R, rfl⟩
theorem iT_inj {a b : List Int} (h : iT a = iT b) : a = b := by
  unfold iT at h
  exact (List.map_inj_right (fun _ _ e => D.int.inj e)).mp (D.tup.inj h)
theorem sorted_rows (T : List (List Int)) : ∃ R : List (List Int), sortD (T.map iT) = R.map iT ∧ (∀ r, r ∈ R ↔ r ∈ T) ∧ R.length = T.length := by
  have p : (sortD (T.map iT)).Perm (T.map iT) := List.mergeSort_perm _ _
  obtain ⟨R, hR⟩ := all_iT (ds := sortD (T.map iT)) fun d hd => by
    obtain ⟨r, _, rfl⟩ := List.mem_map.mp (p.mem_iff.mp hd)
    exact ⟨r, rfl⟩
  refine ⟨R, hR, fun r => ?_, ?_⟩
  · rw [hR] at p
    have := p.mem_iff (a := iT r)
    constructor
    · intro h
      obtain ⟨r', h', e⟩ := List.mem_map.mp (this.mp (List.mem_map.mpr ⟨r, h, rfl⟩))
      rw [← iT_inj e]; exact h'
    · intro h
      obtain ⟨r', h', e⟩ := List.mem_map.mp (this.mpr (List.mem_map.mpr ⟨r, h, rfl⟩))
      rw [← iT_inj e]; exact h'
  · rw [hR] at p
    have := p.length_eq
    rw [List.length_map, List.length_map] at this
    exact this
theorem e_judgeF (n : Nat) {v M : Nat} {F : List Fo} (s : Sy v (mkF F)) (hM : M ≤ 400000) (hT : ∀ j, (TS (mkF F) j).length ≤ M) (hz : zr (mkF F) ∉ TS (mkF F) M) (h : Hs) :
    callF defs (n + 3) 11 [.d (.lv (F.map fT)), .d (crD (.tup (sortD ((TS (mkF F) M).map iT))))] h = .ok (.d .non) h := by
  obtain ⟨R, hR, hm, hn⟩ := sorted_rows (TS (mkF F) M)
  rw [hR]
  have ej := e_judge n (b := false) s true (R.map fun r => (r, true)) (fun r hr => by
    obtain ⟨x, hx, rfl⟩ := List.mem_map.mp hr
    dsimp only
    exact TS_ln ((hm x).mp hx)) (by rw [List.length_map]; have := hT M; omega) h
  have er : (R.map fun r => (r, true)).map (·.1) = R := by rw [List.map_map]; exact List.map_id _
  have er2 : (R.map fun r => (r, true)).map rwD = R.map iT := by rw [List.map_map]; rfl
  rw [er, er2, fault_non (hT M) hz hm, mkF_D] at ej
  exact ej
section
variable {V1 : D}
theorem t_ans (n k : Nat) {v C : Nat} {F : List Fo} (s : Sml3 v C F) (hv : v ≤ 4) (hC : C ≤ 200) {N : List Int} (A : Ans (mkF F) N) {src : O} (hs : Src k src) (hk : k + 500 ≤ 900000) (t : Hs) (A2 A5 A6 A7 : Option Vl) :
    ∃ (src' : O) (B6 B7 : D), Src (k + 400) src' ∧ b__law_small_round_1 (callF defs (n + 4)) [some (.r 0), some (.d V1), A2, some (.d (.lv (F.map fT))), some (.d (anD (iT N))), A5, A6, A7, none, none] (src :: t) =
      .ok .nx [some (.r 0), some (.d V1), A2, some (.d (.lv (F.map fT))), some (.d (anD (iT N))), A5, some (.d B6), some (.d B7), none, none] (src' :: t) := by
  obtain ⟨G, src1, sg, same, s1, e1⟩ := k_equal (n + 2) k v C s (by omega) (by omega) hs (by omega) t
  obtain ⟨b, Lh, src2, eh, s2, e2⟩ := hand_F (n + 1) (k + 10) s1 G (by have := sg.l3; omega) (by omega) t
  have tv := sg.tv (by have : (2 : Nat) ^ 11 = 2048 := by decide
                       omega)
  have tf := s.tv (by have : (2 : Nat) ^ 11 = 2048 := by decide
                      omega)
  obtain ⟨res, e3, hr⟩ := wh_any (n + 1) b (sg.sy (by omega)) sg.vOf sg.l0 (by omega) tv eh (src2 :: t)
  rcases hr with ⟨M, B, hM, rfl⟩ | ⟨hz, rfl⟩
  · have nm := ans_same s sg same A B
    subst nm
    refine ⟨src2, .lv (G.map fT), anD (iT N), s2.up (by omega), ?_⟩
    have lk2 : lookT (.c 2) (isiT isOk isBt 2) = some true := rfl
    have okn : ok_numbers 2 = true := rfl
    have oa := o_ans (n + 3) N (src2 :: t)
    have one := o_neR (src2 :: t) (sm_iT N) (by omega)
    have c := cmpL_on (vs := [9]) (g := gNm 9) (t := tBl (eBin (oEqF true) (eCl (callF defs (n + 4)) 18 [] (aCons (eVar 9) (aCons (eFd ok_numbers 0 (eVar 7)) aNil))) (eK (.int 0)))) (f := eK (.int 1)) (σ := [some (.r 0), some (.d V1), A2, some (.d (.lv (F.map fT))), some (.d (anD (iT N))), A5, some (.d (.lv (G.map fT))), some (.d (anD (iT N))), none, none]) (h := src2 :: t)
      fT (fun _ => false) (fun _ => .int 1) G [] (by have := sg.l3; rw [List.length_nil]; exact lts (by omega)) fun p hp h' => ⟨_, rfl, by
        have ev := e_valueF (n + 3) p N h' (sg.fsml p hp) (ans_sml B)
        rw [ans_zero B p hp] at ev
        generalize iT N = NN at *
        generalize F.map fT = FD at *
        generalize G.map fT = GD at *
        simp -implicitDefEqProofs [wipeL, ev, okn], fun _ => rfl⟩
    rw [List.filter_eq_nil_iff.mpr (fun _ _ => by simp), List.nil_append, List.map_nil] at c
    have le := lc_end (src2 :: t) []
    have on2 := o_neN (n := 0) (l := []) (src2 :: t) (fun x hx => nomatch hx) (by omega)
    simp only [List.length_cons, List.cons_append] at c le
    generalize iT N = NN at *
    generalize F.map fT = FD at *
    generalize G.map fT = GD at *
    generalize Lh.map fmD = LD at *
    simp -implicitDefEqProofs [e1, e2, e3, lk2, okn, oa, one, c, le, on2]
  · exact (two_alike sg s (fun φ l => (same φ l).symm) (by omega) tv A hz).elim
theorem t_shut (n k : Nat) {v C M : Nat} {F : List Fo} (s : Sml3 v C F) (hv : v ≤ 4) (hC : C ≤ 200) (hM : M ≤ 400000) (hT : ∀ j, (TS (mkF F) j).length ≤ M) (hz : zr (mkF F) ∉ TS (mkF F) M) (Rw : D) {src : O} (hs : Src k src) (hk : k + 500 ≤ 900000) (t : Hs) (A2 A5 A6 A7 : Option Vl) :
    ∃ (src' : O) (B6 B7 : D), Src (k + 400) src' ∧ b__law_small_round_1 (callF defs (n + 4)) [some (.r 0), some (.d V1), A2, some (.d (.lv (F.map fT))), some (.d (crD Rw)), A5, A6, A7, none, none] (src :: t) =
      .ok .nx [some (.r 0), some (.d V1), A2, some (.d (.lv (F.map fT))), some (.d (crD Rw)), A5, some (.d B6), some (.d B7), none, none] (src' :: t) := by
  obtain ⟨G, src1, sg, same, s1, e1⟩ := k_equal (n + 2) k v C s (by omega) (by omega) hs (by omega) t
  obtain ⟨b, Lh, src2, eh, s2, e2⟩ := hand_F (n + 1) (k + 10) s1 G (by have := sg.l3; omega) (by omega) t
  have tv := sg.tv (by have : (2 : Nat) ^ 11 = 2048 := by decide
                       omega)
  obtain ⟨res, e3, hr⟩ := wh_any (n + 1) b (sg.sy (by omega)) sg.vOf sg.l0 (by omega) tv eh (src2 :: t)
  rcases hr with ⟨N, B, hM', rfl⟩ | ⟨hz', rfl⟩
  · exact (two_alike s sg same hM hT B hz).elim
  · refine ⟨src2, .lv (G.map fT), crD (.tup (sortD ((TS (mkF G) 289524).map iT))), s2.up (by omega), ?_⟩
    have ej := e_judgeF (n + 1) (sg.sy (by omega)) (by omega) tv hz' (src2 :: t)
    have lk32 : lookT (.c 3) (isiT isOk isBt 2) = some false := rfl
    have lk33 : lookT (.c 3) (isiT isOk isBt 3) = some true := rfl
    have inn : isNon (.d D.non) = true := rfl
    generalize sortD ((TS (mkF G) 289524).map iT) = SD at *
    generalize F.map fT = FD at *
    generalize G.map fT = GD at *
    generalize Lh.map fmD = LD at *
    simp -implicitDefEqProofs [e1, e2, e3, lk32, lk33, ej, inn]
end
end K28

namespace K28
open PySem PySem.Spec Mi
def tailS (call : CallT) : SemS := (sSq (sAs (eCl call 10 [] (aCons (eCl call 27 [] (aCons (eVar 0) (aCons (eVar 3) aNil))) aNil)) (gNm 4))
      (sSq (sFor (iA1 (aCons (eK (.int 2)) aNil)) (gNm 5)
      (b__law_small_round_1 call))
      (sRt (eK (.bl true)))))
theorem k_tail (n k : Nat) {v : Nat} {F : List Fo} (s : Sml3 v 114 F) (hv : v ≤ 4) {src : O} (hs : Src k src) (hk : k + 1500 ≤ 900000) (t : Hs) (V1 : D) (A2 : Option Vl) :
    ∃ (src' : O) (σ' : Lo), Src (k + 1200) src' ∧ tailS (callF defs (n + 4)) [some (.r 0), some (.d V1), A2, some (.d (.lv (F.map fT))), none, none, none, none, none, none] (src :: t) = .ok (.ret (.d (.bl true))) σ' (src' :: t) := by
  obtain ⟨b, Lh, src1, eh, s1, e1⟩ := hand_F (n + 1) k hs F (by have := s.l3; omega) (by omega) t
  have tv := s.tv (by have : (2 : Nat) ^ 11 = 2048 := by decide
                      omega)
  obtain ⟨res, e2, hr⟩ := wh_any (n + 1) b (s.sy (by omega)) s.vOf s.l0 (by omega) tv eh (src1 :: t)
  have rg : rngR [.d (.int 2)] (src1 :: t) = .ok [.int 0, .int 1] (src1 :: t) := rfl
  have fin2 : ∀ X : D, res = X → (∀ (k : Nat) (src : O), Src k src → k + 500 ≤ 900000 → ∀ A2 A5 A6 A7 : Option Vl, ∃ (src' : O) (B6 B7 : D), Src (k + 400) src' ∧ b__law_small_round_1 (callF defs (n + 4)) [some (.r 0), some (.d V1), A2, some (.d (.lv (F.map fT))), some (.d X), A5, A6, A7, none, none] (src :: t) = .ok .nx [some (.r 0), some (.d V1), A2, some (.d (.lv (F.map fT))), some (.d X), A5, some (.d B6), some (.d B7), none, none] (src' :: t)) →
      ∃ (src' : O) (σ' : Lo), Src (k + 1200) src' ∧ tailS (callF defs (n + 4)) [some (.r 0), some (.d V1), A2, some (.d (.lv (F.map fT))), none, none, none, none, none, none] (src :: t) = .ok (.ret (.d (.bl true))) σ' (src' :: t) := by
    rintro X rfl turn
    obtain ⟨src2, B6, B7, s2, t1⟩ := turn (k + 300) src1 s1 (by omega) A2 (some (.d (.int 0))) none none
    obtain ⟨src3, C6, C7, s3, t2⟩ := turn (k + 300 + 400) src2 s2 (by omega) (clr1 (t.length + 1) A2) (some (.d (.int 1))) (some (.d B6)) (some (.d B7))
    refine ⟨src3, [some (.r 0), some (.d V1), clr1 (t.length + 1) (clr1 (t.length + 1) A2), some (.d (.lv (F.map fT))), some (.d res), some (.d (.int 1)), some (.d C6), some (.d C7), none, none], s3.up (by omega), ?_⟩
    unfold tailS
    generalize F.map fT = FD at *
    generalize Lh.map fmD = LD at *
    simp -implicitDefEqProofs [-ab__law_small_round_1, e1, e2, rg, forL, t1, t2]
  rcases hr with ⟨N, A, hN, rfl⟩ | ⟨hz, rfl⟩
  · exact fin2 _ rfl fun k src hs hk A2 A5 A6 A7 => t_ans n k s hv (by omega) A hs (by omega) t A2 A5 A6 A7
  · exact fin2 _ rfl fun k src hs hk A2 A5 A6 A7 => t_shut n k s hv (by omega) (by omega) tv hz _ hs (by omega) t A2 A5 A6 A7
theorem dot_bd : ∀ (fs N : List Int) (B fc : Nat), (∀ f ∈ fs, f.natAbs ≤ fc) → (∀ n ∈ N, n.natAbs ≤ B) → (dotA 0 fs N).natAbs ≤ fc * B * fs.length
  | [], N, B, fc, _, _ => by simp [dotA]
  | f :: fs, [], B, fc, _, _ => by simp [dotA]
  | f :: fs, n :: N, B, fc, hf, hn => by
    have ih := dot_bd fs N B fc (fun x hx => hf x (List.mem_cons_of_mem _ hx)) fun x hx => hn x (List.mem_cons_of_mem _ hx)
    have h1 := hf f List.mem_cons_self
    have h2 := hn n List.mem_cons_self
    unfold dotA
    rw [dotA_add, List.length_cons, Nat.mul_succ]
    have : (f * n).natAbs ≤ fc * B := by
      rw [Int.natAbs_mul]
      exact Nat.mul_le_mul h1 h2
    omega
theorem sq_go {p q : SemS} {σ σ1 : Lo} {h h1 : Hs} {r : RS} (e : p σ h = .ok .nx σ1 h1) (k : q σ1 h1 = r) : sSq p q σ h = r := by
  rw [ap_sq, e, ss_nx]
  exact k
theorem k_small (n k : Nat) {src : O} (hs : Src k src) (hk : k + 2000 ≤ 900000) (t : Hs) :
    ∃ src', Src (k + 2000) src' ∧ callF defs (n + 5) 31 [.r 0] (src :: t) = .ok (.d (.bl true)) (src' :: t) := by
  rw [callF_at (md := ⟨1, 10, false, m__law_small_round⟩) rfl rfl]
  obtain ⟨u, hu, src1, s1, e1⟩ := k_take (n + 3) k (by omega) hs 3 (by omega) (by omega) t
  obtain ⟨w, hw, src2, s2, e2⟩ := k_take (n + 3) (k + 1) (by omega) s1 2 (by omega) (by omega) t
  have e1' : callF defs (n + 4) 17 [.r 0, .d (.int 3)] (src :: t) = .ok (.d (.int (u : Int))) (src1 :: t) := e1
  have e2' : callF defs (n + 4) 17 [.r 0, .d (.int 2)] (src1 :: t) = .ok (.d (.int (w : Int))) (src2 :: t) := e2
  have eu : (1 : Int) + (u : Int) = ((1 + u : Nat) : Int) := by omega
  rcases (by omega : w = 0 ∨ w = 1) with rfl | rfl
  · obtain ⟨zs, src3, z1, z2, s3, c⟩ := cmpL_drawM (vs := [8]) (g := gNm 8) (f := eCl (callF defs (n + 4)) 17 [] (aCons (eVar 0) (aCons (eK (.int 20)) aNil)))
      (σ := [some (.r 0), some (.d (.int (1 + (u : Int)))), none, none, none, none, none, none, none, none]) (fun i : Nat => D.int (i : Int)) (fun z : Nat × Int => D.int z.2) (·.1) (fun z => z.2.natAbs ≤ 19) 1 t (List.range (1 + u)) (k + 2) src2 [] (fun i _ k src h' hk hs => by
        obtain ⟨x, hx, src1, s1, e1⟩ := k_take (n + 3) k (by omega) hs 20 (by omega) (by omega) h'
        have e1' : callF defs (n + 4) 17 [.r 0, .d (.int 20)] (src :: h') = .ok (.d (.int (x : Int))) (src1 :: h') := e1
        refine ⟨_, (i, (x : Int)), src1, fun h => rfl, rfl, by show ((x : Int)).natAbs ≤ 19; omega, s1, ?_⟩
        simp -implicitDefEqProofs [wipeL, e1']) s2 (by rw [List.length_range]; omega) (by rw [List.length_nil, List.length_range]; omega)
    rw [List.length_range] at s3
    have rg := rngR_nat (k := 1 + u) (h := src2 :: t) (by omega)
    rw [zero_add_rng, ← eu] at rg
    have zl : zs.length = 1 + u := by
      have := congrArg List.length z1
      simpa using this
    have le := lc_endS src3 t (zs.map fun z => D.int z.2)
    have hm : (zs.map fun z => D.int z.2) = (zs.map (·.2)).map D.int := by rw [List.map_map]; rfl
    rw [List.nil_append] at c
    rw [hm] at c le
    have nb : ∀ i ∈ zs.map (·.2), i.natAbs ≤ 19 := fun f hf => by
      obtain ⟨z, hz, rfl⟩ := List.mem_map.mp hf
      exact z2 z hz
    have nl : (zs.map (·.2)).length = 1 + u := by rw [List.length_map, zl]
    generalize zs.map (·.2) = N at *
    obtain ⟨y, hy, src4, s4, e4⟩ := k_take (n + 3) (k + 2 + 1 * (1 + u)) (by omega) s3 2 (by omega) (by omega) t
    have e4' : callF defs (n + 4) 17 [.r 0, .d (.int 2)] (src3 :: t) = .ok (.d (.int (y : Int))) (src4 :: t) := e4
    obtain ⟨F, src5, fa, fd, fl, s5, e5⟩ := k_madeF (n + 2) (k + 2 + 1 * (1 + u) + 1) (1 + u) 2 (1 + y) (by omega) (by omega) (by omega) N nl (fun i hi => sm10 (by have := nb i hi; omega)) s4 (by omega) (by omega) t
    have ey : (1 : Int) + (y : Int) = ((1 + y : Nat) : Int) := by omega
    rw [← ey] at e5
    have e5' : callF defs (n + 4) 25 [.r 0, .d (.int (1 + (y : Int))), .d (.int 2), .d (.lv (N.map D.int))] (src4 :: t) = .ok (.d (.lv (F.map fT))) (src5 :: t) := e5
    have sm : Sml3 (1 + u) 114 F := ⟨by omega, by omega, fun p hp => (fa p hp).1, fun p hp => by
      have := sum_le p.2 2 (fa p hp).2
      have := (fa p hp).1
      omega, fun p hp => by
      have := dot_bd p.2 N 19 2 (fa p hp).2 nb
      have := (fa p hp).1
      rw [fd p hp]
      omega⟩
    obtain ⟨src6, σ', s6, e6⟩ := k_tail n (k + 2 + 1 * (1 + u) + 1 + 100) sm (by omega) s5 (by omega) t (.int (1 + (u : Int))) (some (.d (.lv (N.map D.int))))
    refine ⟨src6, s6.up (by omega), ?_⟩
    unfold tailS at e6
    generalize N.map D.int = ND at *
    generalize F.map fT = FD at *
    have e2z : callF defs (n + 4) 17 [.r 0, .d (.int 2)] (src1 :: t) = .ok (.d (.int 0)) (src2 :: t) := e2'
    have hb : m__law_small_round (callF defs (n + 4)) (startL 10 [.r 0]) (src :: t) = .ok (.ret (.d (.bl true))) σ' (src6 :: t) := by
      rw [am__law_small_round]
      refine sq_go (σ1 := [some (.r 0), some (.d (.int (1 + (u : Int)))), none, none, none, none, none, none, none, none]) (h1 := src1 :: t) (by simp -implicitDefEqProofs [startL, e1']) ?_
      refine sq_go (σ1 := [some (.r 0), some (.d (.int (1 + (u : Int)))), some (.d (.lv ND)), some (.d (.lv FD)), none, none, none, none, none, none]) (h1 := src5 :: t) (by simp -implicitDefEqProofs [e2z, rg, c, le, e4', e5']) ?_
      exact e6
    show fin false (src :: t).length (m__law_small_round (callF defs (n + 4)) (startL 10 [.r 0]) (src :: t)) = _
    rw [hb]
    simp [fin, retV, toD]
  · obtain ⟨F, src5, fa, fd, fl0, fl, s5, e5⟩ := k_systemF (n + 2) (k + 2) (1 + u) s2 (by omega) (by omega) t
    rw [← eu] at e5
    have sm : Sml3 (1 + u) 114 F := ⟨by omega, by omega, fun p hp => (fa p hp).1, fun p hp => by
      have := sum_le p.2 2 (fa p hp).2
      have := (fa p hp).1
      omega, fun p hp => by have := fd p hp; omega⟩
    obtain ⟨src6, σ', s6, e6⟩ := k_tail n (k + 2 + 100) sm (by omega) s5 (by omega) t (.int (1 + (u : Int))) none
    refine ⟨src6, s6.up (by omega), ?_⟩
    unfold tailS at e6
    generalize F.map fT = FD at *
    have e2z : callF defs (n + 4) 17 [.r 0, .d (.int 2)] (src1 :: t) = .ok (.d (.int 1)) (src2 :: t) := e2'
    have hb : m__law_small_round (callF defs (n + 4)) (startL 10 [.r 0]) (src :: t) = .ok (.ret (.d (.bl true))) σ' (src6 :: t) := by
      rw [am__law_small_round]
      refine sq_go (σ1 := [some (.r 0), some (.d (.int (1 + (u : Int)))), none, none, none, none, none, none, none, none]) (h1 := src1 :: t) (by simp -implicitDefEqProofs [startL, e1']) ?_
      refine sq_go (σ1 := [some (.r 0), some (.d (.int (1 + (u : Int)))), none, some (.d (.lv FD)), none, none, none, none, none, none]) (h1 := src5 :: t) (by simp -implicitDefEqProofs [e2z, e5]) ?_
      exact e6
    show fin false (src :: t).length (m__law_small_round (callF defs (n + 4)) (startL 10 [.r 0]) (src :: t)) = _
    rw [hb]
    simp [fin, retV, toD]
end K28

namespace K28
open PySem PySem.Spec Mi
/-! ### one great equation -/
structure One (v : Nat) (F : List Fo) : Prop where
  l1 : F.length = 1
  fa : Fac v 4 F
  cc : ∀ p ∈ F, p.1.natAbs < 2 ^ 110
theorem One.sy {v : Nat} {F : List Fo} (o : One v F) (hv : v ≤ 2) : Sy v (mkF F) := ⟨by unfold mkF; rw [List.length_map, o.l1]; omega, by omega, fun x hx => by
    obtain ⟨p, hp, rfl⟩ := List.mem_map.mp hx
    exact (o.fa p hp).1, fun x hx i hi => by
    obtain ⟨p, hp, rfl⟩ := List.mem_map.mp hx
    exact sm10 (by have := (o.fa p hp).2 i hi; omega)⟩
theorem One.vOf {v : Nat} {F : List Fo} (o : One v F) : vOf (mkF F) = v := by
  have h := o.l1
  cases F with
  | nil => cases h
  | cons p F => exact (o.fa p List.mem_cons_self).1
theorem One.rows {v : Nat} {F : List Fo} (o : One v F) (hv : v ≤ 2) (j : Nat) : (TS (mkF F) j).length ≤ 1007 := by
  have fr := few_rows (L := mkF F) (K := 110) (S := 8) (fun x hx => by
    obtain ⟨p, hp, rfl⟩ := List.mem_map.mp hx
    have := sum_le p.2 4 (o.fa p hp).2
    have := (o.fa p hp).1
    show negS p.2 + posS p.2 ≤ _
    omega) (fun x hx => by
    obtain ⟨p, hp, rfl⟩ := List.mem_map.mp hx
    exact o.cc p hp) j
  have ll : (mkF F).length = 1 := by unfold mkF; rw [List.length_map, o.l1]
  rw [ll] at fr
  have a : 110 * (8 + 1) ^ 1 + (2 * 8 + 1) ^ 1 = 1007 := by decide
  rw [a] at fr
  exact fr
/-- the numbers that count -/
def zap : List Bool → List Int → List Int
  | u :: us, n :: N => (if u = true then n else 0) :: zap us N
  | _, _ => []
theorem zap_fit : ∀ {us : List Bool} {N : List Int}, N.length = us.length → (∀ n ∈ N, 0 ≤ n) → FitU us (zap us N)
  | [], [], _, _ => trivial
  | [], _ :: _, h, _ => by cases h
  | _ :: _, [], h, _ => by cases h
  | u :: us, n :: N, h, hn => by
    refine ⟨⟨?_, fun q => ?_⟩, zap_fit (by simpa using h) fun x hx => hn x (List.mem_cons_of_mem _ hx)⟩
    · have := hn n List.mem_cons_self
      split <;> omega
    · rw [q]; rfl
theorem zap_mem : ∀ {us : List Bool} {N : List Int}, ∀ x ∈ zap us N, x = 0 ∨ x ∈ N
  | [], _, x, hx => nomatch hx
  | _ :: _, [], x, hx => nomatch hx
  | u :: us, n :: N, x, hx => by
    rcases List.mem_cons.mp hx with rfl | hx
    · cases u
      · exact .inl rfl
      · exact .inr List.mem_cons_self
    · rcases zap_mem x hx with h | h
      · exact .inl h
      · exact .inr (List.mem_cons_of_mem _ h)
theorem dot_zap : ∀ (f N : List Int), f.length = N.length → dotA 0 f (zap (f.map fun x => !(x == 0)) N) = dotA 0 f N
  | [], [], _ => rfl
  | [], _ :: _, h => by cases h
  | _ :: _, [], h => by cases h
  | f :: fs, n :: N, h => by
    have ih := dot_zap fs N (by simpa using h)
    rw [List.map_cons]
    unfold zap dotA
    rw [dotA_add, dotA_add fs N, ih]
    by_cases q : f = 0
    · subst q; simp
    · simp [q]
theorem us_one {v : Nat} {p : Fo} (h : p.2.length = v) : usL (mkF [p]) = p.2.map fun x => !(x == 0) := by
  unfold usL
  have hv : vOf (mkF [p]) = p.2.length := rfl
  rw [hv]
  refine List.ext_getElem (by simp) fun i h1 h2 => ?_
  rw [List.getElem_map, List.getElem_map, List.getElem_range]
  have hi : i < p.2.length := by simpa using h1
  unfold usedAt mkF
  simp only [List.map_cons, List.map_nil, List.any_cons, List.any_nil, Bool.or_false]
  rw [List.getD_eq_getElem?_getD, List.getElem?_eq_getElem hi]
  rfl
theorem great_ok {v : Nat} {F : List Fo} (o : One v F) (hv : v ≤ 2) {N : List Int} (hN : N.length = v) (nn : ∀ n ∈ N, 0 ≤ n) (lN : Lt2 100 N) (hF : ∀ p ∈ F, p.1 = -dotA 0 p.2 N) :
    ∃ N', FitU (usL (mkF F)) N' ∧ Lt2 100 N' ∧ Solves (mkF F) (stR (mkF F)) N' ∧ (∀ x ∈ N', x = 0 ∨ x ∈ N) := by
  obtain ⟨p, rfl⟩ : ∃ p, F = [p] := by
    have h := o.l1
    match F, h with
    | [p], _ => exact ⟨p, rfl⟩
  have hl := (o.fa p List.mem_cons_self).1
  have us := us_one hl
  refine ⟨zap (usL (mkF [p])) N, zap_fit (by rw [us, List.length_map, hl, hN]) nn, fun x hx => ?_, ?_, fun x hx => zap_mem x hx⟩
  · rcases zap_mem x hx with rfl | h
    · exact Nat.two_pow_pos 100
    · exact lN x h
  · rw [← sol_iff]
    unfold solB mkF
    rw [List.all_eq_true]
    intro x hx
    have := List.mem_singleton.mp hx
    subst this
    show (dotA p.1 p.2 (zap (usL (mkF [p])) N) == 0) = true
    rw [us, dotA_add, dot_zap p.2 N (by omega), hF p List.mem_cons_self]
    simp
    omega
theorem fit_all : ∀ N : List Int, (∀ n ∈ N, 0 ≤ n) → FitU (List.replicate N.length true) N
  | [], _ => trivial
  | a :: N, nn => ⟨⟨nn a List.mem_cons_self, fun q => by cases q⟩, fit_all N fun x hx => nn x (List.mem_cons_of_mem _ hx)⟩
/-- the answer has no more figures than the numbers it was made from -/
theorem great_most {v : Nat} {F : List Fo} (o : One v F) (hv : v ≤ 2) {N : List Int} (hN : N.length = v) (nn : ∀ n ∈ N, 0 ≤ n) (lN : Lt2 100 N) (hF : ∀ p ∈ F, p.1 = -dotA 0 p.2 N) {M : List Int} (A : Ans (mkF F) M) : Lt2 100 M ∧ mostF 400 M ≤ mostF 400 N := by
  obtain ⟨N', f', l', s', z'⟩ := great_ok o hv hN nn lN hF
  have hE : 100 ≤ hugeE := by rw [hugeE_eq]; omega
  have le := (A.min N' f' (l'.up hE) s').len
  have key : ∀ m, Lt2 m N' → Lt2 m M := fun m hm n hn => by
    have k1 := kw_len m hugeE N' f'.nn hm
    have e := num_kw hugeE M A.fit.nn A.lt
    rw [← e] at hn
    have bd := num_bd M.length (kw hugeE M) (fun g hg => fig_bit _ g (mem_fig.mpr (kw_ok hugeE A.fit g hg))) n hn
    have : 2 ^ (kw hugeE M).length ≤ 2 ^ m := Nat.pow_le_pow_right (by omega) (Nat.le_trans le k1)
    omega
  refine ⟨key 100 l', ?_⟩
  rw [most_kw, most_kw]
  refine kw_len _ 400 M A.fit.nn (key _ fun x hx => ?_)
  rcases z' x hx with rfl | h
  · exact Nat.two_pow_pos _
  · have e := num_kw 400 N nn (lN.up (by omega))
    rw [← e] at h
    have nz : ∀ g ∈ kw 400 N, Bit g := by
      have fu := fit_all N nn
      exact fun g hg => fig_bit _ g (mem_fig.mpr (kw_ok 400 fu g hg))
    have bd := num_bd N.length (kw 400 N) nz x h
    omega
theorem great_not {v : Nat} {F : List Fo} (o : One v F) (hv : v ≤ 2) {N : List Int} (hN : N.length = v) (nn : ∀ n ∈ N, 0 ≤ n) (lN : Lt2 100 N) (hF : ∀ p ∈ F, p.1 = -dotA 0 p.2 N) (hz : zr (mkF F) ∉ TS (mkF F) 1007) : False := by
  obtain ⟨N', f', l', s', z'⟩ := great_ok o hv hN nn lN hF
  exact no_sol (L := mkF F) (j0 := 1007) (o.rows hv 1007) hz f' (l'.up (by rw [hugeE_eq]; omega)) s'
end K28

namespace K28
open PySem PySem.Spec Mi
theorem k_takeM (n k : Nat) (hk : k < 1000000) {src : O} (hs : Src k src) (M : Nat) (hM : 0 < M) (hM2 : M < 2 ^ 180) (t : Hs) : ∃ v : Nat, v < M ∧ ∃ src', Src (k + 1) src' ∧ callF defs (n + 1) 17 [.r 0, .d (.int (M : Int))] (src :: t) = .ok (.d (.int (v : Int))) (src' :: t) :=
  e_take rfl n k hk hs M hM hM2 t
theorem n_most (N : List Int) (h0 : N ≠ []) (h : Hs) : nMaxL [.d (.lv (N.map fun n => D.int ((bitsF 400 n).length : Nat)))] h = some (.d (.int (mostF 400 N : Nat)), h) := by
  cases N with
  | nil => exact absurd rfl h0
  | cons a N =>
    unfold nMaxL lstOf
    rw [List.map_cons]
    dsimp only
    have e1 : (D.int ((bitsF 400 a).length : Nat) :: N.map fun n => D.int ((bitsF 400 n).length : Nat)) = (((bitsF 400 a).length : Int) :: (N.map fun n => (bitsF 400 n).length).map fun b : Nat => (b : Int)).map D.int := by
      rw [List.map_cons, List.map_map, List.map_map]; rfl
    rw [e1, intsOf_map, Option.map_some, maxI_mx]
    rfl
theorem k_great (n k : Nat) {src : O} (hs : Src k src) (hk : k + 1000 ≤ 900000) (t : Hs) :
    ∃ src', Src (k + 1000) src' ∧ callF defs (n + 5) 32 [.r 0] (src :: t) = .ok (.d (.bl true)) (src' :: t) := by
  rw [callF_at (md := ⟨1, 7, false, m__law_great_round⟩) rfl rfl]
  obtain ⟨u, hu, src1, s1, e1⟩ := k_take (n + 3) k (by omega) hs 3 (by omega) (by omega) t
  have e1' : callF defs (n + 4) 17 [.r 0, .d (.int 3)] (src :: t) = .ok (.d (.int (u : Int))) (src1 :: t) := e1
  obtain ⟨M, hM0, hM1, ix⟩ : ∃ M : Nat, 0 < M ∧ M ≤ 10 ^ 29 ∧ L2.atI [D.int (10 ^ 29), D.int (10 ^ 12), D.int (10 ^ 20)] (u : Int) = some (.int (M : Nat)) := by
    rcases (by omega : u = 0 ∨ u = 1 ∨ u = 2) with rfl | rfl | rfl
    · exact ⟨10 ^ 29, by decide, by decide, rfl⟩
    · exact ⟨10 ^ 12, by decide, by decide, rfl⟩
    · exact ⟨10 ^ 20, by decide, by decide, rfl⟩
  have hM2 : M < 2 ^ 180 := Nat.lt_of_le_of_lt hM1 (by decide)
  have h100 : (10 : Nat) ^ 29 < 2 ^ 100 := by decide
  have pw : ∀ (j : Int) (h : Hs), (j = 29 ∨ j = 12 ∨ j = 20) → oPow (.d (.int 10)) (.d (.int j)) h = some (.d (.int (10 ^ j.toNat)), h) := fun j h hj => by
    rcases hj with rfl | rfl | rfl <;> rfl
  have p29 : ∀ h, oPow (.d (.int 10)) (.d (.int 29)) h = some (.d (.int (10 ^ 29)), h) := fun h => pw 29 h (.inl rfl)
  have p12 : ∀ h, oPow (.d (.int 10)) (.d (.int 12)) h = some (.d (.int (10 ^ 12)), h) := fun h => pw 12 h (.inr (.inl rfl))
  have p20 : ∀ h, oPow (.d (.int 10)) (.d (.int 20)) h = some (.d (.int (10 ^ 20)), h) := fun h => pw 20 h (.inr (.inr rfl))
  obtain ⟨w, hw, src2, s2, e2⟩ := k_take (n + 3) (k + 1) (by omega) s1 2 (by omega) (by omega) t
  have e2' : callF defs (n + 4) 17 [.r 0, .d (.int 2)] (src1 :: t) = .ok (.d (.int (w : Int))) (src2 :: t) := e2
  obtain ⟨zs, src3, z1, z2, s3, c⟩ := cmpL_drawM (vs := [5]) (g := gNm 5) (f := eCl (callF defs (n + 4)) 17 [] (aCons (eVar 0) (aCons (eVar 1) aNil)))
    (σ := [some (.r 0), some (.d (.int (M : Nat))), none, none, none, none, none]) (fun i : Nat => D.int (i : Int)) (fun z : Nat × Int => D.int z.2) (·.1) (fun z => 0 ≤ z.2 ∧ z.2.toNat < M) 1 t (List.range (1 + w)) (k + 2) src2 [] (fun i _ k src h' hk hs => by
      obtain ⟨x, hx, src1, s1, e1⟩ := k_takeM (n + 3) k (by omega) hs M hM0 hM2 h'
      refine ⟨_, (i, (x : Int)), src1, fun h => rfl, rfl, ⟨by show (0 : Int) ≤ (x : Int); omega, by show ((x : Int)).toNat < M; omega⟩, s1, ?_⟩
      simp -implicitDefEqProofs [wipeL, e1]) s2 (by rw [List.length_range]; omega) (by rw [List.length_nil, List.length_range]; omega)
  rw [List.length_range] at s3
  have rg := rngR_nat (k := 1 + w) (h := src2 :: t) (by omega)
  have ew : (1 : Int) + (w : Int) = ((1 + w : Nat) : Int) := by omega
  rw [zero_add_rng, ← ew] at rg
  have zl : zs.length = 1 + w := by
    have := congrArg List.length z1
    simpa using this
  have le := lc_endS src3 t (zs.map fun z => D.int z.2)
  have hm : (zs.map fun z => D.int z.2) = (zs.map (·.2)).map D.int := by rw [List.map_map]; rfl
  rw [List.nil_append] at c
  rw [hm] at c le
  have nb : ∀ i ∈ zs.map (·.2), 0 ≤ i ∧ i.toNat < M := fun f hf => by
    obtain ⟨z, hz, rfl⟩ := List.mem_map.mp hf
    exact z2 z hz
  have nl : (zs.map (·.2)).length = 1 + w := by rw [List.length_map, zl]
  generalize zs.map (·.2) = N at *
  have nn : ∀ i ∈ N, 0 ≤ i := fun i hi => (nb i hi).1
  have lN : Lt2 100 N := fun i hi => Nat.lt_of_lt_of_le (nb i hi).2 (Nat.le_of_lt (Nat.lt_of_le_of_lt hM1 h100))
  have sN : Sml N := fun i hi => by
    have h1 := lN i hi
    have h2 := nn i hi
    have : i.natAbs = i.toNat := by omega
    rw [this]
    exact big h1 (by decide)
  obtain ⟨F, src5, fa, fd, fl, s5, e5⟩ := k_madeF (n + 2) (k + 2 + 1 * (1 + w)) (1 + w) 4 1 (by omega) (by omega) (by omega) N nl sN s3 (by omega) (by omega) t
  have e5' : callF defs (n + 4) 25 [.r 0, .d (.int 1), .d (.int 4), .d (.lv (N.map D.int))] (src3 :: t) = .ok (.d (.lv (F.map fT))) (src5 :: t) := e5
  have h110 : 4 * 10 ^ 29 * 2 < 2 ^ 110 := by decide
  have o : One (1 + w) F := ⟨fl, fa, fun p hp => by
    have := dot_bd p.2 N (10 ^ 29) 4 (fa p hp).2 fun i hi => by
      have h1 := (nb i hi).2
      have h2 := nn i hi
      omega
    have l := (fa p hp).1
    rw [l] at this
    rw [fd p hp, Int.natAbs_neg]
    have h2 : 4 * 10 ^ 29 * (1 + w) ≤ 4 * 10 ^ 29 * 2 := Nat.mul_le_mul_left _ (by omega)
    exact Nat.lt_of_le_of_lt (Nat.le_trans this h2) h110⟩
  obtain ⟨b, Lh, src6, eh, s6, e6⟩ := hand_F (n + 1) (k + 2 + 1 * (1 + w) + 100) s5 F (by omega) (by omega) t
  obtain ⟨res, e7, hr⟩ := wh_any (n + 1) b (o.sy (by omega)) o.vOf (by omega) (by omega) (o.rows (by omega)) eh (src6 :: t)
  rcases hr with ⟨N', A, hN', rfl⟩ | ⟨hz, rfl⟩
  · obtain ⟨l', mo⟩ := great_most o (by omega) nl nn lN fd A
    obtain ⟨p, rfl⟩ : ∃ p, F = [p] := by
      match F, fl with
      | [p], _ => exact ⟨p, rfl⟩
    refine ⟨src6, s6.up (by omega), ?_⟩
    have lk2 : lookT (.c 2) (isiT isOk isBt 2) = some true := rfl
    have okn : ok_numbers 2 = true := rfl
    have eW := e_wholes (n + 2) N' hN' (by omega) (src6 :: t)
    rw [← ew] at eW
    have nlen : nLen [.d (.lv (N.map D.int))] (src6 :: t) = some (.d (.int (1 + (w : Int))), src6 :: t) := by
      show some (Vl.d (.int ((N.map D.int).length : Nat)), src6 :: t) = _
      rw [List.length_map, nl, ← ew]
    have c6 := cmpL_on (vs := [6]) (g := gNm 6) (t := tBl (eBin oLt (eVar 6) (eK (.int 0)))) (f := eK (.int 1)) (σ := [some (.r 0), some (.d (.int (M : Nat))), some (.d (.lv (N.map D.int))), some (.d (.lv [fT p])), some (.d (anD (iT N'))), none, none]) (h := src6 :: t)
      D.int (fun _ => false) (fun _ => .int 1) N' [] (by rw [List.length_nil]; exact lts (by omega)) fun i hi h' => ⟨_, rfl, by
        have i0 : ¬ i < 0 := by have := A.fit.nn i hi; omega
        simp -implicitDefEqProofs [wipeL, i0], fun _ => rfl⟩
    rw [List.filter_eq_nil_iff.mpr (fun _ _ => by simp), List.nil_append, List.map_nil] at c6
    have le6 := lc_end (src6 :: t) []
    have on6 := o_neN (n := 0) (l := []) (src6 :: t) (fun x hx => nomatch hx) (by omega)
    have ev := e_valueF (n + 3) p N' (src6 :: t) (fac_sml (by omega) (fa p List.mem_cons_self).2) (ans_sml A)
    rw [ans_zero A p List.mem_cons_self] at ev
    have ix0 : L2.atI [fT p] 0 = some (fT p) := rfl
    have c7 := cmpL_all (vs := [6]) (g := gNm 6) (f := eN nLen (aCons (eCl (callF defs (n + 4)) 19 [] (aCons (eVar 6) aNil)) aNil)) (σ := [some (.r 0), some (.d (.int (M : Nat))), some (.d (.lv (N.map D.int))), some (.d (.lv [fT p])), some (.d (anD (iT N'))), none, none]) (h := src6 :: t) D.int (fun n => D.int ((bitsF 400 n).length : Nat)) N' (lts (by omega)) fun x _ h' => ⟨_, rfl, by
      have ef := e_figures (n + 3) x h'
      have nb : nLen [.d (.lv ((bitsF 400 x).map D.int))] h' = some (.d (.int ((bitsF 400 x).length : Nat)), h') := by
        show some (Vl.d (.int (((bitsF 400 x).map D.int).length : Nat)), h') = _
        rw [List.length_map]
      generalize (bitsF 400 x).map D.int = BX at *
      generalize (bitsF 400 x).length = bl at *
      generalize iT N' = NN at *
      generalize N.map D.int = ND at *
      generalize fT p = FP at *
      unfold nLen seqOf at nb
      simp -implicitDefEqProofs [wipeL, ef]
      simpa using nb⟩
    have c8 := cmpL_all (vs := [6]) (g := gNm 6) (f := eN nLen (aCons (eCl (callF defs (n + 4)) 19 [] (aCons (eVar 6) aNil)) aNil)) (σ := [some (.r 0), some (.d (.int (M : Nat))), some (.d (.lv (N.map D.int))), some (.d (.lv [fT p])), some (.d (anD (iT N'))), none, none]) (h := src6 :: t) D.int (fun n => D.int ((bitsF 400 n).length : Nat)) N (lts (by omega)) fun x _ h' => ⟨_, rfl, by
      have ef := e_figures (n + 3) x h'
      have nb : nLen [.d (.lv ((bitsF 400 x).map D.int))] h' = some (.d (.int ((bitsF 400 x).length : Nat)), h') := by
        show some (Vl.d (.int (((bitsF 400 x).map D.int).length : Nat)), h') = _
        rw [List.length_map]
      generalize (bitsF 400 x).map D.int = BX at *
      generalize (bitsF 400 x).length = bl at *
      generalize iT N' = NN at *
      generalize N.map D.int = ND at *
      generalize fT p = FP at *
      unfold nLen seqOf at nb
      simp -implicitDefEqProofs [wipeL, ef]
      simpa using nb⟩
    have m1 := n_most N' (fun q => by rw [q] at hN'; simp at hN'; omega) (src6 :: t)
    have m2 := n_most N (fun q => by rw [q] at nl; simp at nl; omega) (src6 :: t)
    have le7 := lc_end (src6 :: t) (N'.map fun n => D.int ((bitsF 400 n).length : Nat))
    have le8 := lc_end (src6 :: t) (N.map fun n => D.int ((bitsF 400 n).length : Nat))
    have mo' : ((mostF 400 N' : Nat) : Int) ≤ ((mostF 400 N : Nat) : Int) := by omega
    have p0 : pureSeq (.d (iT N')) = some (N'.map D.int) := rfl
    have fe : [p].map fT = [fT p] := rfl
    rw [fe] at e5' e6
    simp only [List.length_cons, List.cons_append] at c6 le6 c7 c8 le7 le8
    generalize mostF 400 N' = mm1 at *
    generalize mostF 400 N = mm2 at *
    generalize (N'.map fun n => D.int ((bitsF 400 n).length : Nat)) = B1 at *
    generalize (N.map fun n => D.int ((bitsF 400 n).length : Nat)) = B2 at *
    generalize iT N' = NN at *
    generalize N'.map D.int = NI at *
    generalize N.map D.int = ND at *
    generalize Lh.map fmD = LD at *
    generalize fT p = FP at *
    have hb : ∃ σ', m__law_great_round (callF defs (n + 4)) (startL 7 [.r 0]) (src :: t) = .ok (.ret (.d (.bl true))) σ' (src6 :: t) := by
      refine ⟨[some (.r 0), some (.d (.int (M : Nat))), some (.d (.lv ND)), some (.d (.lv [FP])), some (.d (anD NN)), none, none], ?_⟩
      rw [am__law_great_round]
      refine sq_go (σ1 := [some (.r 0), some (.d (.int (M : Nat))), none, none, none, none, none]) (h1 := src1 :: t) (by
        generalize (10 : Int) ^ 29 = a at *
        generalize (10 : Int) ^ 12 = b at *
        generalize (10 : Int) ^ 20 = c at *
        simp -implicitDefEqProofs [startL, p29, p12, p20, e1', ix]) ?_
      refine sq_go (σ1 := [some (.r 0), some (.d (.int (M : Nat))), some (.d (.lv ND)), none, none, none, none]) (h1 := src3 :: t) (by simp -implicitDefEqProofs [e2', rg, c, le]) ?_
      refine sq_go (σ1 := [some (.r 0), some (.d (.int (M : Nat))), some (.d (.lv ND)), some (.d (.lv [FP])), none, none, none]) (h1 := src5 :: t) (by simp -implicitDefEqProofs [e5']) ?_
      refine sq_go (σ1 := [some (.r 0), some (.d (.int (M : Nat))), some (.d (.lv ND)), some (.d (.lv [FP])), some (.d (anD NN)), none, none]) (h1 := src6 :: t) (by simp -implicitDefEqProofs [e6, e7]) ?_
      refine sq_go (σ1 := [some (.r 0), some (.d (.int (M : Nat))), some (.d (.lv ND)), some (.d (.lv [FP])), some (.d (anD NN)), none, none]) (h1 := src6 :: t) (by
        have nl2 : ((ND.length : Nat) : Int) = 1 + (w : Int) := by
          have := nlen
          unfold nLen seqOf at this
          simpa using this
        simp -implicitDefEqProofs [lk2, okn, nl2, eW]) ?_
      refine sq_go (σ1 := [some (.r 0), some (.d (.int (M : Nat))), some (.d (.lv ND)), some (.d (.lv [FP])), some (.d (anD NN)), none, none]) (h1 := src6 :: t) (by simp -implicitDefEqProofs [okn, p0, c6, le6, on6, ix0, ev]) ?_
      simp -implicitDefEqProofs [okn, p0, c7, le7, m1, c8, le8, m2, mo']
    obtain ⟨σ', hb⟩ := hb
    show fin false (src :: t).length (m__law_great_round (callF defs (n + 4)) (startL 7 [.r 0]) (src :: t)) = _
    rw [hb]
    simp [fin, retV, toD]
  · exact (great_not o (by omega) nl nn lN fd hz).elim
end K28

namespace K28
open PySem PySem.Spec Mi
def bnd (x : Fm) : Int := absI x.1.1 + (x.1.2.map absI).sum
theorem abs_le {i b : Int} : absI i ≤ b ↔ -b ≤ i ∧ i ≤ b := by
  unfold absI
  split <;> omega
theorem abs_nn (i : Int) : 0 ≤ absI i := by
  unfold absI
  split <;> omega
theorem sum_nn : ∀ l : List Int, 0 ≤ (l.map absI).sum
  | [] => by simp
  | i :: l => by
    have := sum_nn l
    have := abs_nn i
    rw [List.map_cons, List.sum_cons]
    omega
theorem dot_sum : ∀ (fs g : List Int), Bit g → -(fs.map absI).sum ≤ dotA 0 fs g ∧ dotA 0 fs g ≤ (fs.map absI).sum
  | [], g, _ => by simp [dotA]
  | f :: fs, [], _ => by
    have := sum_nn (f :: fs)
    simp only [dotA]
    omega
  | f :: fs, x :: g, hg => by
    have ih := dot_sum fs g fun y hy => hg y (List.mem_cons_of_mem _ hy)
    unfold dotA
    rw [dotA_add, List.map_cons, List.sum_cons]
    have h1 := (abs_le (i := f) (b := absI f)).mp (Int.le_refl _)
    have h2 := abs_nn f
    rcases hg x List.mem_cons_self with rfl | rfl
    · rw [Int.mul_zero]; omega
    · rw [Int.mul_one]; omega
def InB : List Int → List Fm → Prop
  | [], [] => True
  | c :: r, x :: L => absI c ≤ bnd x ∧ InB r L
  | _, _ => False
theorem inB_st : ∀ L : List Fm, InB (stR L) L
  | [] => trivial
  | x :: L => ⟨by
    have := sum_nn x.1.2
    show absI x.1.1 ≤ bnd x
    unfold bnd; omega, inB_st L⟩
theorem inB_turn {g : List Int} (hg : Bit g) : ∀ {L : List Fm} {r r' : List Int}, InB r L → turn r (sumsD L g) = some r' → InB r' L
  | [], [], r', _, e => by unfold turn at e; cases e; exact trivial
  | [], _ :: _, _, h, _ => h.elim
  | _ :: _, [], _, h, _ => h.elim
  | x :: L, c :: r, r', h, e => by
    have e : (if (c + dotA 0 x.1.2 g) % 2 = 0 then (turn r (sumsD L g)).map (((c + dotA 0 x.1.2 g) / 2) :: ·) else none) = some r' := e
    split at e
    · rename_i ev
      obtain ⟨q, e1, rfl⟩ := Option.map_eq_some_iff.mp e
      refine ⟨?_, inB_turn hg h.2 e1⟩
      have h1 := abs_le.mp h.1
      have h2 := dot_sum x.1.2 g hg
      have h3 := abs_nn x.1.1
      rw [abs_le]
      unfold bnd at *
      omega
    · cases e
theorem inB_run {L : List Fm} : ∀ (w : List (List Int)) {r r' : List Int}, InB r L → (∀ g ∈ w, Bit g) → runW L r w = some r' → InB r' L
  | [], r, r', h, _, e => by cases e; exact h
  | g :: w, r, r', h, hw, e => by
    obtain ⟨q, e1, e2⟩ := Option.bind_eq_some_iff.mp e
    exact inB_run w (inB_turn (hw g List.mem_cons_self) h e1) (fun x hx => hw x (List.mem_cons_of_mem _ hx)) e2
theorem inB_all {L : List Fm} {j : Nat} : ∀ r ∈ TS L j, InB r L := fun r hr => by
  obtain ⟨e, he, rfl⟩ := List.mem_map.mp hr
  have G := (W_inv L j).g
  exact inB_run e.2 (inB_st L) (fun g hg => fig_bit _ g (G.fg e he g hg)) (G.rn e he)
theorem o_inU (neg : Bool) (r : List Int) (R : List (List Int)) (h : Hs) : oInU neg (.d (iT r)) (.d (.tup (R.map iT))) h = some (.d (.bl (if neg = true then !decide (r ∈ R) else decide (r ∈ R))), h) := by
  have sR : shp (.tup (R.map iT)) = true := Sm.shp (n := 2) (d := .tup (R.map iT)) (sm_map sm_iT R) (by omega)
  show (if shp (iT r) && shp (.tup (R.map iT)) then some (Vl.d (.bl (if neg = true then !((R.map iT).any fun z => PyData.eqv z.pd (iT r).pd) else (R.map iT).any fun z => PyData.eqv z.pd (iT r).pd)), h) else none) = _
  rw [shp_T, sR, any_T]
  rfl
abbrev shH (src : O) (t : Hs) (kvs : List (List L2.Key × D)) : Hs := src :: (t ++ [.dt kvs])
theorem l_sh1 (call : CallT) (B : Int) (S1 S2 S4 S5 S6 S7 : D) (A3 : Option Vl) (src : O) (t : Hs) : ∀ (R P : List (List Int)) (kvs : List (List L2.Key × D)) (X : Option Vl), Lst P kvs → P.length + R.length ≤ 10000 → (∀ r ∈ R, ∃ x, r = [x] ∧ ¬ B < absI x) → clr1 (t.length + 2) A3 = A3 →
    ∃ kvs' X', Lst (P ++ R) kvs' ∧ clr1 (t.length + 2) X' = clr1 (t.length + 2) X' ∧ forL (gNm 10) (b__law_shut_round_1 call) (R.map iT) [some (.r 0), some (.d S1), some (.d S2), A3, some (.d S4), some (.d S5), some (.d S6), some (.d S7), some (.d (.int B)), some (.r (t.length + 1)), X, none, none, none, none] (shH src t kvs) =
      .ok .nx [some (.r 0), some (.d S1), some (.d S2), A3, some (.d S4), some (.d S5), some (.d S6), some (.d S7), some (.d (.int B)), some (.r (t.length + 1)), X', none, none, none, none] (shH src t kvs')
  | [], P, kvs, X, l, _, _, _ => ⟨kvs, X, by simpa using l, rfl, by simp [forL]⟩
  | r :: R, P, kvs, X, l, hz, hR, hA => by
    rw [List.length_cons] at hz
    obtain ⟨x, rfl, hx⟩ := hR r List.mem_cons_self
    obtain ⟨kvs', X', l', _, ih⟩ := l_sh1 call B S1 S2 S4 S5 S6 S7 A3 src t R (P ++ [[x]]) (putD kvs (kT [x]) (.bl true)) (some (.d (iT [x]))) (l.put [x] _) (by rw [List.length_append, List.length_singleton]; omega) (fun y hy => hR y (List.mem_cons_of_mem _ hy)) hA
    refine ⟨kvs', X', by simpa using l', rfl, ?_⟩
    have p := d_put l (by omega) [x] (.bl true) (h := shH src t kvs) (k := t.length + 1) (by simp)
    have st : (shH src t kvs).set (t.length + 1) (.dt (putD kvs (kT [x]) (.bl true))) = shH src t (putD kvs (kT [x]) (.bl true)) := by simp
    rw [st] at p
    have ix : ∀ h, oIx (.d (iT [x])) (.d (.int 0)) h = some (.d (.int x), h) := fun _ => rfl
    have na := n_abs x
    rw [List.map_cons, ← ih]
    generalize iT [x] = XD at *
    generalize absI x = ax at *
    unfold shH at *
    generalize putD kvs (kT [x]) (.bl true) = K2 at *
    simp -implicitDefEqProofs [forL, p, ix, na, hx, hA]
theorem l_sh2 (call : CallT) (S1 S2 S4 S5 S6 S7 S8 S10 : D) (A3 : Option Vl) (src : O) (t : Hs) {P : List (List Int)} {kvs : List (List L2.Key × D)} (l : Lst P kvs) (hA : clr1 (t.length + 2) A3 = A3) : ∀ (ps : List (List Int × List Int)) (X Y : Option Vl), (∀ p ∈ ps, p.2 ∈ P) →
    ∃ X' Y', forL (gTp 2 (gCo (gNm 11) (gCo (gNm 12) gNi))) (b__law_shut_round_2 call) (ps.map prD) [some (.r 0), some (.d S1), some (.d S2), A3, some (.d S4), some (.d S5), some (.d S6), some (.d S7), some (.d S8), some (.r (t.length + 1)), some (.d S10), X, Y, none, none] (shH src t kvs) =
      .ok .nx [some (.r 0), some (.d S1), some (.d S2), A3, some (.d S4), some (.d S5), some (.d S6), some (.d S7), some (.d S8), some (.r (t.length + 1)), some (.d S10), X', Y', none, none] (shH src t kvs)
  | [], X, Y, _ => ⟨X, Y, by simp [forL]⟩
  | p :: ps, X, Y, hp => by
    obtain ⟨X', Y', ih⟩ := l_sh2 call S1 S2 S4 S5 S6 S7 S8 S10 A3 src t l hA ps (some (.d (iT p.1))) (some (.d (iT p.2))) fun q hq => hp q (List.mem_cons_of_mem _ hq)
    refine ⟨X', Y', ?_⟩
    have di := d_in l true p.2 (h := shH src t kvs) (k := t.length + 1) (by simp)
    rw [if_pos rfl, decide_eq_true (hp p List.mem_cons_self)] at di
    rw [List.map_cons, ← ih]
    unfold prD
    generalize iT p.1 = P1 at *
    generalize iT p.2 = P2 at *
    unfold shH at *
    simp -implicitDefEqProofs [forL, di, hA]
theorem l_sh3 (n : Nat) {v : Nat} {F : List Fo} (s : Sy v (mkF F)) (S1 S2 S4 S5 S7 S8 : D) (A3 : Option Vl) (src : O) (t : Hs) {P : List (List Int)} {kvs : List (List L2.Key × D)} (l : Lst P kvs) (hA : clr1 (t.length + 2) A3 = A3) : ∀ (R : List (List Int)) (Z X Y : Option Vl), (∀ r ∈ R, r.length ≤ 100 ∧ ∀ p ∈ turns (mkF F) r, p.2 ∈ P) →
    ∃ Z' X' Y', forL (gNm 10) (b__law_shut_round_3 (callF defs (n + 3))) (R.map iT) [some (.r 0), some (.d S1), some (.d S2), A3, some (.d S4), some (.d S5), some (.d (.lv (F.map fT))), some (.d S7), some (.d S8), some (.r (t.length + 1)), Z, X, Y, none, none] (shH src t kvs) =
      .ok .nx [some (.r 0), some (.d S1), some (.d S2), A3, some (.d S4), some (.d S5), some (.d (.lv (F.map fT))), some (.d S7), some (.d S8), some (.r (t.length + 1)), Z', X', Y', none, none] (shH src t kvs)
  | [], Z, X, Y, _ => ⟨Z, X, Y, by simp [forL]⟩
  | r :: R, Z, X, Y, hR => by
    obtain ⟨rl, rt⟩ := hR r List.mem_cons_self
    have et := e_turns n s r (by omega) (shH src t kvs)
    rw [mkF_D] at et
    obtain ⟨X1, Y1, q⟩ := l_sh2 (callF defs (n + 3)) S1 S2 S4 S5 (.lv (F.map fT)) S7 S8 (iT r) A3 src t l hA (turns (mkF F) r) X Y rt
    obtain ⟨Z', X', Y', ih⟩ := l_sh3 n s S1 S2 S4 S5 S7 S8 A3 src t l hA R (some (.d (iT r))) (clr1 (t.length + 2) X1) (clr1 (t.length + 2) Y1) fun x hx => hR x (List.mem_cons_of_mem _ hx)
    refine ⟨Z', X', Y', ?_⟩
    rw [List.map_cons, ← ih]
    generalize (turns (mkF F) r).map prD = TD at *
    generalize iT r = RD at *
    generalize F.map fT = FD at *
    unfold shH at *
    simp -implicitDefEqProofs [-ab__law_shut_round_2, forL, et, q, hA]
end K28

namespace K28
open PySem PySem.Spec Mi
def tailH (call : CallT) : SemS := (sSq (sAs (eLv (aCons (eTup (aCons (eVar 5) (aCons (eVar 4) aNil))) aNil)) (gNm 6))
      (sSq (sAs (eCl call 10 [] (aCons (eCl call 27 [] (aCons (eVar 0) (aCons (eVar 6) aNil))) aNil)) (gNm 7))
      (sSq (sIf (tOr' (tNo (tTru (eIsi (isiT isOk isBt 3) (eVar 7)))) (tOr' (tBl (eBin (oInU true) (eTup (aCons (eVar 5) aNil)) (eFd (ok_rows) 1 (eVar 7)))) (tBl (eBin (oInU false) (eTup (aCons (eK (.int 0)) aNil)) (eFd (ok_rows) 1 (eVar 7))))))
      (sRt (eK (.bl false)))
      sNil)
      (sSq (sAs (eBin oAdd (eN nAbs (aCons (eVar 5) aNil)) (eN nSum (aCons (eLc false [14] (iSeq (eVar 4)) (gNm 14) tYs (eN nAbs (aCons (eVar 14) aNil))) aNil))) (gNm 8))
      (sSq (sAs eDt0 (gNm 9))
      (sSq (sFor (iSeq (eFd (ok_rows) 1 (eVar 7))) (gNm 10)
      (b__law_shut_round_1 call))
      (sSq (sFor (iSeq (eSl (eFd (ok_rows) 1 (eVar 7)) oNone (oSome (eK (.int 300))))) (gNm 10)
      (b__law_shut_round_3 call))
      (sRt (eBin oIsN (eCl call 11 [] (aCons (eVar 6) (aCons (eVar 7) aNil))) (eK .non))))))))))
theorem k_tailH (n k : Nat) {v : Nat} (hv : v ≤ 2) {c : Int} {fs : List Int} (o : One v [(c, fs)]) (no : ∀ N : List Int, (∀ i ∈ N, 0 ≤ i) → dotA c fs N ≠ 0) {src : O} (hs : Src k src) (hk : k + 500 ≤ 900000) (t : Hs) (S1 S2 : D) (A3 : Option Vl) (hA : ∀ m, clr1 m A3 = A3) :
    ∃ src', Src (k + 400) src' ∧ fin false (t.length + 1) (tailH (callF defs (n + 4)) [some (.r 0), some (.d S1), some (.d S2), A3, some (.d (.tup (fs.map D.int))), some (.d (.int c)), none, none, none, none, none, none, none, none, none] (src :: t)) = .ok (.d (.bl true)) (src' :: t) := by
  obtain ⟨b, Lh, src1, eh, s1, e1⟩ := hand_F (n + 1) k hs [(c, fs)] (by simp) (by omega) t
  have sy := o.sy hv
  obtain ⟨res, e2, hr⟩ := wh_any (n + 1) b sy o.vOf (by simp) (by omega) (o.rows hv) eh (src1 :: t)
  rcases hr with ⟨N, A, hN, rfl⟩ | ⟨hz, rfl⟩
  · exact absurd (ans_zero A (c, fs) List.mem_cons_self) (no N A.fit.nn)
  have ej := fun h => e_judgeF (n + 1) sy (by omega) (o.rows hv) hz h
  obtain ⟨R, hR, hm, hn⟩ := sorted_rows (TS (mkF [(c, fs)]) 1007)
  rw [hR] at ej e2
  refine ⟨src1, s1.up (by omega), ?_⟩
  have st : [c] ∈ R := (hm _).mpr (List.mem_map.mpr ⟨_, List.mem_of_getElem? (W_inv (mkF [(c, fs)]) 1007).st, rfl⟩)
  have z0 : ¬ [(0 : Int)] ∈ R := fun q => hz ((hm _).mp q)
  have i1 := o_inU true [c] R (src1 :: t)
  have i2 := o_inU false [0] R (src1 :: t)
  rw [if_pos rfl, decide_eq_true st] at i1
  rw [if_neg Bool.false_ne_true, decide_eq_false z0] at i2
  have i1' : oInU true (.d (.tup [.int c])) (.d (.tup (R.map iT))) (src1 :: t) = some (.d (.bl false), src1 :: t) := i1
  have i2' : oInU false (.d (.tup [.int 0])) (.d (.tup (R.map iT))) (src1 :: t) = some (.d (.bl false), src1 :: t) := i2
  have lk33 : lookT (.c 3) (isiT isOk isBt 3) = some true := rfl
  have okr : ok_rows 3 = true := rfl
  have c1 := cmpL_all (vs := [14]) (g := gNm 14) (f := eN nAbs (aCons (eVar 14) aNil)) (σ := [some (.r 0), some (.d S1), some (.d S2), A3, some (.d (.tup (fs.map D.int))), some (.d (.int c)), some (.d (.lv [fT (c, fs)])), some (.d (crD (.tup (R.map iT)))), none, none, none, none, none, none, none]) (h := src1 :: t) D.int (fun f => .int (absI f)) fs (lts (by have := (o.fa _ List.mem_cons_self).1; dsimp only at this; omega)) fun f _ h2 => ⟨_, rfl, by
    have na := n_abs f h2
    simp -implicitDefEqProofs [wipeL, na]⟩
  have em : (fs.map fun f => D.int (absI f)) = (fs.map absI).map D.int := by rw [List.map_map]; rfl
  rw [em] at c1
  have le := lc_end (src1 :: t) ((fs.map absI).map D.int)
  have ns := n_sum (fs.map absI) (src1 :: t)
  have na := n_abs c (src1 :: t)
  have row1 : ∀ r ∈ R, ∃ x, r = [x] ∧ ¬ (absI c + (fs.map absI).sum) < absI x := fun r hr => by
    have ib := inB_all r ((hm r).mp hr)
    match r, ib with
    | [x], ib => exact ⟨x, rfl, by have := ib.1; unfold bnd at this; dsimp only at this; omega⟩
    | [], ib => exact ib.elim
    | _ :: _ :: _, ib => exact ib.2.elim
  have Rl : R.length ≤ 1007 := by rw [hn]; exact o.rows hv 1007
  obtain ⟨kvs, X1, l, _, q1⟩ := l_sh1 (callF defs (n + 4)) (absI c + (fs.map absI).sum) S1 S2 (.tup (fs.map D.int)) (.int c) (.lv [fT (c, fs)]) (crD (.tup (R.map iT))) A3 src1 t R [] [] none .nil (by rw [List.length_nil]; omega) row1 (hA _)
  rw [List.nil_append] at l
  have cl : ∀ r ∈ R.take 300, r.length ≤ 100 ∧ ∀ p ∈ turns (mkF [(c, fs)]) r, p.2 ∈ R := fun r hr => by
    have hr := List.mem_of_mem_take hr
    obtain ⟨x, rfl, _⟩ := row1 r hr
    refine ⟨by simp, fun p hp => ?_⟩
    obtain ⟨e, he, q⟩ := List.mem_map.mp ((hm _).mp hr)
    obtain ⟨i, hi, rfl⟩ := List.mem_iff_getElem.mp he
    have len := o.rows hv 1007
    rw [TS_len] at len
    obtain ⟨e', he', q', _⟩ := (W_inv (mkF [(c, fs)]) 1007).cl i (by omega) _ (List.getElem?_eq_getElem hi) p (by rw [q]; exact hp)
    exact (hm _).mpr (List.mem_map.mpr ⟨e', he', q'⟩)
  obtain ⟨Z', X', Y', q2⟩ := l_sh3 (n + 1) (F := [(c, fs)]) sy S1 S2 (.tup (fs.map D.int)) (.int c) (crD (.tup (R.map iT))) (.int (absI c + (fs.map absI).sum)) A3 src1 t l (hA _) (R.take 300) X1 none none cl
  have ej' := ej (shH src1 t kvs)
  have inn : isNon (.d D.non) = true := rfl
  have ct : cutL (R.map iT) none (some (300 : Int)) = (R.take 300).map iT := by
    rw [show (300 : Int) = ((300 : Nat) : Int) from rfl, cut_to, List.map_take]
  have fe : [(c, fs)].map fT = [fT (c, fs)] := rfl
  have fc : fT (c, fs) = .tup [.int c, .tup (fs.map D.int)] := rfl
  rw [fe] at e1 ej' q2
  have hA' := hA (t.length + 1)
  have hb : tailH (callF defs (n + 4)) [some (.r 0), some (.d S1), some (.d S2), A3, some (.d (.tup (fs.map D.int))), some (.d (.int c)), none, none, none, none, none, none, none, none, none] (src :: t) = .ok (.ret (.d (.bl true))) [some (.r 0), some (.d S1), some (.d S2), A3, some (.d (.tup (fs.map D.int))), some (.d (.int c)), some (.d (.lv [fT (c, fs)])), some (.d (crD (.tup (R.map iT)))), some (.d (.int (absI c + (fs.map absI).sum))), some (.r (t.length + 1)), Z', X', Y', none, none] (shH src1 t kvs) := by
    unfold tailH
    rw [fc] at e1 c1 q1 q2 ej' ⊢
    simp only [List.length_cons, List.cons_append] at c1 le
    generalize (fs.map absI).map D.int = AD at *
    generalize fs.map D.int = FD at *
    generalize (R.take 300).map iT = R3 at *
    generalize R.map iT = RD at *
    generalize Lh.map fmD = LD at *
    generalize (fs.map absI).sum = sm at *
    generalize absI c = ac at *
    refine sq_go (σ1 := [some (.r 0), some (.d S1), some (.d S2), A3, some (.d (.tup FD)), some (.d (.int c)), some (.d (.lv [.tup [.int c, .tup FD]])), none, none, none, none, none, none, none, none]) (h1 := src :: t) (by simp -implicitDefEqProofs) ?_
    refine sq_go (σ1 := [some (.r 0), some (.d S1), some (.d S2), A3, some (.d (.tup FD)), some (.d (.int c)), some (.d (.lv [.tup [.int c, .tup FD]])), some (.d (crD (.tup RD))), none, none, none, none, none, none, none]) (h1 := src1 :: t) (by simp -implicitDefEqProofs [e1, e2]) ?_
    refine sq_go (σ1 := [some (.r 0), some (.d S1), some (.d S2), A3, some (.d (.tup FD)), some (.d (.int c)), some (.d (.lv [.tup [.int c, .tup FD]])), some (.d (crD (.tup RD))), none, none, none, none, none, none, none]) (h1 := src1 :: t) (by simp -implicitDefEqProofs [lk33, okr, i1', i2']) ?_
    refine sq_go (σ1 := [some (.r 0), some (.d S1), some (.d S2), A3, some (.d (.tup FD)), some (.d (.int c)), some (.d (.lv [.tup [.int c, .tup FD]])), some (.d (crD (.tup RD))), some (.d (.int (ac + sm))), none, none, none, none, none, none]) (h1 := src1 :: t) (by simp -implicitDefEqProofs [na, c1, le, ns]) ?_
    refine sq_go (σ1 := [some (.r 0), some (.d S1), some (.d S2), A3, some (.d (.tup FD)), some (.d (.int c)), some (.d (.lv [.tup [.int c, .tup FD]])), some (.d (crD (.tup RD))), some (.d (.int (ac + sm))), some (.r (t.length + 1)), none, none, none, none, none]) (h1 := shH src1 t []) (by simp -implicitDefEqProofs) ?_
    refine sq_go (σ1 := [some (.r 0), some (.d S1), some (.d S2), A3, some (.d (.tup FD)), some (.d (.int c)), some (.d (.lv [.tup [.int c, .tup FD]])), some (.d (crD (.tup RD))), some (.d (.int (ac + sm))), some (.r (t.length + 1)), X1, none, none, none, none]) (h1 := shH src1 t kvs) (by simp -implicitDefEqProofs [-ab__law_shut_round_1, okr, q1]) ?_
    refine sq_go (σ1 := [some (.r 0), some (.d S1), some (.d S2), A3, some (.d (.tup FD)), some (.d (.int c)), some (.d (.lv [.tup [.int c, .tup FD]])), some (.d (crD (.tup RD))), some (.d (.int (ac + sm))), some (.r (t.length + 1)), Z', X', Y', none, none]) (h1 := shH src1 t kvs) (by simp -implicitDefEqProofs [-ab__law_shut_round_3, okr, ct, q2]) ?_
    simp -implicitDefEqProofs [ej', inn]
  rw [hb]
  simp [fin, retV, toD]
end K28

namespace K28
open PySem PySem.Spec Mi
theorem dot_nn : ∀ (fs N : List Int), (∀ f ∈ fs, 0 ≤ f) → (∀ i ∈ N, 0 ≤ i) → 0 ≤ dotA 0 fs N
  | [], N, _, _ => by simp [dotA]
  | f :: fs, [], _, _ => by simp [dotA]
  | f :: fs, n :: N, hf, hn => by
    have ih := dot_nn fs N (fun x hx => hf x (List.mem_cons_of_mem _ hx)) fun x hx => hn x (List.mem_cons_of_mem _ hx)
    have h := Int.mul_nonneg (hf f List.mem_cons_self) (hn n List.mem_cons_self)
    unfold dotA
    rw [dotA_add]
    omega
theorem no_div {d : Int} (hd : d = 2 ∨ d = 3 ∨ d = 4) (m : Int) {r : Nat} (hr : (r : Int) < d - 1) (es N : List Int) : dotA (d * m + 1 + (r : Int)) (es.map fun e => d * e) N ≠ 0 := by
  have e1 : (es.map fun e => d * e) = es.map (· * d) := List.map_congr_left fun e _ => Int.mul_comm _ _
  rw [e1, dotA_add, dot_mul]
  generalize dotA 0 es N = A
  rcases hd with rfl | rfl | rfl <;> omega
theorem no_pos {c : Int} (hc : 0 < c) {fs : List Int} (hf : ∀ f ∈ fs, 0 ≤ f) (N : List Int) (hn : ∀ i ∈ N, 0 ≤ i) : dotA c fs N ≠ 0 := by
  have := dot_nn fs N hf hn
  rw [dotA_add]
  omega
theorem no_neg {c : Int} (hc : 0 < c) {fs : List Int} (hf : ∀ f ∈ fs, 0 ≤ f) (N : List Int) (hn : ∀ i ∈ N, 0 ≤ i) : dotA (-c) (fs.map fun f => -f) N ≠ 0 := by
  have e1 : (fs.map fun f => -f) = fs.map (· * (-1)) := List.map_congr_left fun e _ => by omega
  have := dot_nn fs N hf hn
  rw [e1, dotA_add, dot_mul]
  omega
def P3S (call : CallT) : SemS := (sIf (tBl (eBin (oEqF false) (eCl call 17 [] (aCons (eVar 0) (aCons (eK (.int 2)) aNil))) (eK (.int 0))))
      (sSq (sAs (eBin oAdd (eK (.int 2)) (eCl call 17 [] (aCons (eVar 0) (aCons (eK (.int 3)) aNil)))) (gNm 3))
      (sSq (sAs (eN nTuple (aCons (eLc false [13] (iA1 (aCons (eVar 2) aNil)) (gNm 13) tYs (eBin oMulI (eVar 3) (eBin oSub (eCl call 17 [] (aCons (eVar 0) (aCons (eK (.int 3)) aNil))) (eK (.int 1))))) aNil)) (gNm 4))
      (sAs (eBin oAdd (eBin oAdd (eBin oMulI (eVar 3) (eBin oSub (eCl call 17 [] (aCons (eVar 0) (aCons (eBin oAdd (eBin oMulI (eK (.int 2)) (eVar 1)) (eK (.int 1))) aNil))) (eVar 1))) (eK (.int 1))) (eCl call 17 [] (aCons (eVar 0) (aCons (eBin oSub (eVar 3) (eK (.int 1))) aNil)))) (gNm 5))))
      (sSq (sAs (eN nTuple (aCons (eLc false [13] (iA1 (aCons (eVar 2) aNil)) (gNm 13) tYs (eCl call 17 [] (aCons (eVar 0) (aCons (eK (.int 5)) aNil)))) aNil)) (gNm 4))
      (sSq (sAs (eBin oAdd (eK (.int 1)) (eCl call 17 [] (aCons (eVar 0) (aCons (eVar 1) aNil)))) (gNm 5))
      (sIf (tBl (eBin (oEqF false) (eCl call 17 [] (aCons (eVar 0) (aCons (eK (.int 2)) aNil))) (eK (.int 0))))
      (sSq (sAs (eN nTuple (aCons (eLc false [14] (iSeq (eVar 4)) (gNm 14) tYs (eUn oNeg (eVar 14))) aNil)) (gNm 4))
      (sAs (eUn oNeg (eVar 5)) (gNm 5)))
      sNil))))
theorem h180 : 2 * 10 ^ 29 + 1 < 2 ^ 180 := by decide
theorem h110 : 4 * 10 ^ 29 + 10 < 2 ^ 110 := by decide
theorem one_of {v : Nat} {c : Int} {fs : List Int} (h1 : fs.length = v) (h2 : ∀ f ∈ fs, f.natAbs ≤ 4) (h3 : c.natAbs ≤ 4 * 10 ^ 29 + 10) : One v [(c, fs)] := ⟨rfl, fun p hp => by
    have := List.mem_singleton.mp hp
    subst this
    exact ⟨h1, h2⟩, fun p hp => by
    have := List.mem_singleton.mp hp
    subst this
    exact Nat.lt_of_le_of_lt h3 h110⟩
theorem k_pre3 (n k v M : Nat) (hv0 : 1 ≤ v) (hv : v ≤ 2) (hM0 : 0 < M) (hM : M ≤ 10 ^ 29) {src : O} (hs : Src k src) (hk : k + 100 ≤ 900000) (t : Hs) :
    ∃ (c : Int) (fs : List Int) (A3 : Option Vl) (src' : O), (∀ m, clr1 m A3 = A3) ∧ One v [(c, fs)] ∧ (∀ N : List Int, (∀ i ∈ N, 0 ≤ i) → dotA c fs N ≠ 0) ∧ Src (k + 20) src' ∧
      P3S (callF defs (n + 1)) [some (.r 0), some (.d (.int (M : Nat))), some (.d (.int (v : Nat))), none, none, none, none, none, none, none, none, none, none, none, none] (src :: t) =
        .ok .nx [some (.r 0), some (.d (.int (M : Nat))), some (.d (.int (v : Nat))), A3, some (.d (.tup (fs.map D.int))), some (.d (.int c)), none, none, none, none, none, none, none, none, none] (src' :: t) := by
  obtain ⟨w, hw, src1, s1, e1⟩ := k_take n k (by omega) hs 2 (by omega) (by omega) t
  have rg := fun s : O => rngR_nat (k := v) (h := s :: t) (by omega)
  rw [zero_add_rng] at rg
  rcases (by omega : w = 0 ∨ w = 1) with rfl | rfl
  · have e1' : callF defs (n + 1) 17 [.r 0, .d (.int 2)] (src :: t) = .ok (.d (.int 0)) (src1 :: t) := e1
    obtain ⟨x, hx, src2, s2, e2⟩ := k_take n (k + 1) (by omega) s1 3 (by omega) (by omega) t
    have e2' : callF defs (n + 1) 17 [.r 0, .d (.int 3)] (src1 :: t) = .ok (.d (.int (x : Int))) (src2 :: t) := e2
    have d4 : (2 + (x : Int)) = 2 ∨ (2 + (x : Int)) = 3 ∨ (2 + (x : Int)) = 4 := by omega
    have dn : (2 + (x : Int)).natAbs ≤ 4 := by omega
    have ed : 2 + (x : Int) - 1 = ((1 + x : Nat) : Int) := by omega
    generalize hd : 2 + (x : Int) = d at *
    obtain ⟨zs, src3, z1, z2, s3, c⟩ := cmpL_drawM (vs := [13]) (g := gNm 13) (f := eBin oMulI (eVar 3) (eBin oSub (eCl (callF defs (n + 1)) 17 [] (aCons (eVar 0) (aCons (eK (.int 3)) aNil))) (eK (.int 1))))
      (σ := [some (.r 0), some (.d (.int (M : Nat))), some (.d (.int (v : Nat))), some (.d (.int d)), none, none, none, none, none, none, none, none, none, none, none]) (fun i : Nat => D.int (i : Int)) (fun z : Nat × Int => D.int (d * z.2)) (·.1) (fun z => z.2.natAbs ≤ 1) 1 t (List.range v) (k + 2) src2 [] (fun i _ k src h' hk hs => by
        obtain ⟨y, hy, src1, s1, e1⟩ := k_take n k (by omega) hs 3 (by omega) (by omega) h'
        have e1' : callF defs (n + 1) 17 [.r 0, .d (.int 3)] (src :: h') = .ok (.d (.int (y : Int))) (src1 :: h') := e1
        have cm : cMulW d ((y : Int) - 1) = true := cm4 (sm10 (by omega)) (sm10 (by omega))
        refine ⟨_, (i, (y : Int) - 1), src1, fun h => rfl, rfl, by show ((y : Int) - 1).natAbs ≤ 1; omega, s1, ?_⟩
        simp -implicitDefEqProofs [wipeL, e1', cm]) s2 (by rw [List.length_range]; omega) (by rw [List.length_nil, List.length_range]; omega)
    rw [List.length_range] at s3
    have zl : zs.length = v := by
      have := congrArg List.length z1
      simpa using this
    have le := lc_endS src3 t (zs.map fun z => D.int (d * z.2))
    have hm : (zs.map fun z => D.int (d * z.2)) = ((zs.map (·.2)).map fun e => d * e).map D.int := by rw [List.map_map, List.map_map]; rfl
    rw [List.nil_append] at c
    rw [hm] at c le
    have nb : ∀ i ∈ zs.map (·.2), i.natAbs ≤ 1 := fun f hf => by
      obtain ⟨z, hz, rfl⟩ := List.mem_map.mp hf
      exact z2 z hz
    have nl : (zs.map (·.2)).length = v := by rw [List.length_map, zl]
    generalize zs.map (·.2) = es at *
    obtain ⟨y, hy, src4, s4, e4⟩ := k_takeM n (k + 2 + 1 * v) (by omega) s3 (2 * M + 1) (by omega) (Nat.lt_of_le_of_lt (by omega) h180) t
    have em : ((2 * M + 1 : Nat) : Int) = 2 * (M : Int) + 1 := by omega
    rw [em] at e4
    obtain ⟨r, hr, src5, s5, e5⟩ := k_take n (k + 2 + 1 * v + 1) (by omega) s4 (1 + x) (by omega) (by omega) t
    rw [← ed] at e5
    have hMb : (M : Int).natAbs < huge := big (n := 110) (Nat.lt_of_le_of_lt (by omega) h110) (by decide)
    have cm1 : cMulW 2 (M : Int) = true := cm4 (sm10 (by decide)) hMb
    have cm2' : cMulW d ((y : Int) - (M : Int)) = true := cm4 (sm10 (by omega)) (big (n := 110) (Nat.lt_of_le_of_lt (by omega) h110) (by decide))
    have hmul : (d * ((y : Int) - (M : Int))).natAbs ≤ 4 * 10 ^ 29 := by
      rw [Int.natAbs_mul]
      exact Nat.mul_le_mul dn (by omega)
    refine ⟨d * ((y : Int) - (M : Int)) + 1 + (r : Int), es.map fun e => d * e, some (.d (.int d)), src5, fun _ => rfl, one_of (by rw [List.length_map, nl]) (fun f hf => by
      obtain ⟨e, he, rfl⟩ := List.mem_map.mp hf
      have := nb e he
      rw [Int.natAbs_mul]
      exact Nat.mul_le_mul dn this) (by omega), fun N _ => no_div d4 _ (by omega) es N, s5.up (by omega), ?_⟩
    have rg := rg src2
    unfold P3S
    generalize (es.map fun e => d * e).map D.int = ED at *
    simp -implicitDefEqProofs [e1', e2', hd, rg, c, le, cm1, e4, cm2', e5]
  · have e1' : callF defs (n + 1) 17 [.r 0, .d (.int 2)] (src :: t) = .ok (.d (.int 1)) (src1 :: t) := e1
    obtain ⟨zs, src3, z1, z2, s3, c⟩ := cmpL_drawM (vs := [13]) (g := gNm 13) (f := eCl (callF defs (n + 1)) 17 [] (aCons (eVar 0) (aCons (eK (.int 5)) aNil)))
      (σ := [some (.r 0), some (.d (.int (M : Nat))), some (.d (.int (v : Nat))), none, none, none, none, none, none, none, none, none, none, none, none]) (fun i : Nat => D.int (i : Int)) (fun z : Nat × Int => D.int z.2) (·.1) (fun z => 0 ≤ z.2 ∧ z.2 ≤ 4) 1 t (List.range v) (k + 1) src1 [] (fun i _ k src h' hk hs => by
        obtain ⟨y, hy, src1, s1, e1⟩ := k_take n k (by omega) hs 5 (by omega) (by omega) h'
        have e1' : callF defs (n + 1) 17 [.r 0, .d (.int 5)] (src :: h') = .ok (.d (.int (y : Int))) (src1 :: h') := e1
        refine ⟨_, (i, (y : Int)), src1, fun h => rfl, rfl, by show (0 : Int) ≤ (y : Int) ∧ (y : Int) ≤ 4; omega, s1, ?_⟩
        simp -implicitDefEqProofs [wipeL, e1']) s1 (by rw [List.length_range]; omega) (by rw [List.length_nil, List.length_range]; omega)
    rw [List.length_range] at s3
    have zl : zs.length = v := by
      have := congrArg List.length z1
      simpa using this
    have le := lc_endS src3 t (zs.map fun z => D.int z.2)
    have hm : (zs.map fun z => D.int z.2) = (zs.map (·.2)).map D.int := by rw [List.map_map]; rfl
    rw [List.nil_append] at c
    rw [hm] at c le
    have nb : ∀ i ∈ zs.map (·.2), 0 ≤ i ∧ i ≤ 4 := fun f hf => by
      obtain ⟨z, hz, rfl⟩ := List.mem_map.mp hf
      exact z2 z hz
    have nl : (zs.map (·.2)).length = v := by rw [List.length_map, zl]
    generalize zs.map (·.2) = gs at *
    obtain ⟨y, hy, src4, s4, e4⟩ := k_takeM n (k + 1 + 1 * v) (by omega) s3 M hM0 (Nat.lt_of_le_of_lt (by omega) h180) t
    obtain ⟨q, hq, src5, s5, e5⟩ := k_take n (k + 1 + 1 * v + 1) (by omega) s4 2 (by omega) (by omega) t
    have rg := rg src1
    rcases (by omega : q = 0 ∨ q = 1) with rfl | rfl
    · have e5' : callF defs (n + 1) 17 [.r 0, .d (.int 2)] (src4 :: t) = .ok (.d (.int 0)) (src5 :: t) := e5
      have c2 := cmpL_all (vs := [14]) (g := gNm 14) (f := eUn oNeg (eVar 14)) (σ := [some (.r 0), some (.d (.int (M : Nat))), some (.d (.int (v : Nat))), none, some (.d (.tup (gs.map D.int))), some (.d (.int (1 + (y : Int)))), none, none, none, none, none, none, none, none, none]) (h := src5 :: t) D.int (fun f => .int (-f)) gs (lts (by omega)) fun f _ h2 => ⟨_, rfl, by
        have ng : oNeg (.d (.int f)) h2 = some (.d (.int (-f)), h2) := rfl
        simp -implicitDefEqProofs [wipeL, ng]⟩
      have em : (gs.map fun f => D.int (-f)) = (gs.map fun f => -f).map D.int := by rw [List.map_map]; rfl
      rw [em] at c2
      have le2 := lc_endS src5 t ((gs.map fun f => -f).map D.int)
      refine ⟨-(1 + (y : Int)), gs.map fun f => -f, none, src5, fun _ => rfl, one_of (by rw [List.length_map, nl]) (fun f hf => by
        obtain ⟨e, he, rfl⟩ := List.mem_map.mp hf
        have := nb e he
        omega) (by omega), fun N hN => no_neg (by omega) (fun f hf => (nb f hf).1) N hN, s5.up (by omega), ?_⟩
      have ng : ∀ h, oNeg (.d (.int (1 + (y : Int)))) h = some (.d (.int (-(1 + (y : Int)))), h) := fun _ => rfl
      unfold P3S
      generalize (gs.map fun f => -f).map D.int = GN at *
      generalize gs.map D.int = GD at *
      simp only [List.length_cons, List.cons_append] at c2
      simp -implicitDefEqProofs [e1', rg, c, le, e4, e5', c2, le2, ng]
    · have e5' : callF defs (n + 1) 17 [.r 0, .d (.int 2)] (src4 :: t) = .ok (.d (.int 1)) (src5 :: t) := e5
      refine ⟨1 + (y : Int), gs, none, src5, fun _ => rfl, one_of nl (fun f hf => by have := nb f hf; omega) (by omega), fun N hN => no_pos (by omega) (fun f hf => (nb f hf).1) N hN, s5.up (by omega), ?_⟩
      unfold P3S
      generalize gs.map D.int = GD at *
      simp -implicitDefEqProofs [e1', rg, c, le, e4, e5']
end K28

namespace K28
open PySem PySem.Spec Mi
theorem k_shutR (n k : Nat) {src : O} (hs : Src k src) (hk : k + 1000 ≤ 900000) (t : Hs) :
    ∃ src', Src (k + 1000) src' ∧ callF defs (n + 5) 33 [.r 0] (src :: t) = .ok (.d (.bl true)) (src' :: t) := by
  rw [callF_at (md := ⟨1, 15, false, m__law_shut_round⟩) rfl rfl]
  obtain ⟨u, hu, src1, s1, e1⟩ := k_take (n + 3) k (by omega) hs 4 (by omega) (by omega) t
  have e1' : callF defs (n + 4) 17 [.r 0, .d (.int 4)] (src :: t) = .ok (.d (.int (u : Int))) (src1 :: t) := e1
  obtain ⟨M, hM0, hM1, ix⟩ : ∃ M : Nat, 0 < M ∧ M ≤ 10 ^ 29 ∧ L2.atI [D.int 30, D.int (10 ^ 6), D.int (10 ^ 9), D.int (10 ^ 29)] (u : Int) = some (.int (M : Nat)) := by
    rcases (by omega : u = 0 ∨ u = 1 ∨ u = 2 ∨ u = 3) with rfl | rfl | rfl | rfl
    · exact ⟨30, by decide, by decide, rfl⟩
    · exact ⟨10 ^ 6, by decide, by decide, rfl⟩
    · exact ⟨10 ^ 9, by decide, by decide, rfl⟩
    · exact ⟨10 ^ 29, by decide, by decide, rfl⟩
  have p6 : ∀ h, oPow (.d (.int 10)) (.d (.int 6)) h = some (.d (.int (10 ^ 6)), h) := fun _ => rfl
  have p9 : ∀ h, oPow (.d (.int 10)) (.d (.int 9)) h = some (.d (.int (10 ^ 9)), h) := fun _ => rfl
  have p29 : ∀ h, oPow (.d (.int 10)) (.d (.int 29)) h = some (.d (.int (10 ^ 29)), h) := fun _ => rfl
  obtain ⟨v, src2, hv0, hv, s2, eB⟩ : ∃ (v : Nat) (src2 : O), 1 ≤ v ∧ v ≤ 2 ∧ Src (k + 2) src2 ∧ sAs (eIf (tBl (eBin oGt (eVar 1) (eBin oPow (eK (.int 10)) (eK (.int 9))))) (eK (.int 1)) (eBin oAdd (eK (.int 1)) (eCl (callF defs (n + 4)) 17 [] (aCons (eVar 0) (aCons (eK (.int 2)) aNil))))) (gNm 2) [some (.r 0), some (.d (.int (M : Nat))), none, none, none, none, none, none, none, none, none, none, none, none, none] (src1 :: t) =
      .ok .nx [some (.r 0), some (.d (.int (M : Nat))), some (.d (.int (v : Nat))), none, none, none, none, none, none, none, none, none, none, none, none] (src2 :: t) := by
    generalize hp : (10 : Int) ^ 9 = p at *
    by_cases q : p < (M : Int)
    · refine ⟨1, src1, by omega, by omega, s1.up (by omega), ?_⟩
      simp -implicitDefEqProofs [p9, q]
    · obtain ⟨w, hw, src2, s2, e2⟩ := k_take (n + 3) (k + 1) (by omega) s1 2 (by omega) (by omega) t
      have e2' : callF defs (n + 4) 17 [.r 0, .d (.int 2)] (src1 :: t) = .ok (.d (.int (w : Int))) (src2 :: t) := e2
      refine ⟨1 + w, src2, by omega, by omega, s2.up (by omega), ?_⟩
      simp -implicitDefEqProofs [p9, q, e2']
  obtain ⟨c, fs, A3, src3, hA, o, no, s3, eC⟩ := k_pre3 (n + 3) (k + 2) v M hv0 hv hM0 hM1 s2 (by omega) t
  obtain ⟨src4, s4, eD⟩ := k_tailH n (k + 2 + 20) hv o no s3 (by omega) t (.int (M : Nat)) (.int (v : Nat)) A3 hA
  refine ⟨src4, s4.up (by omega), ?_⟩
  have hb : m__law_shut_round (callF defs (n + 4)) (startL 15 [.r 0]) (src :: t) = tailH (callF defs (n + 4)) [some (.r 0), some (.d (.int (M : Nat))), some (.d (.int (v : Nat))), A3, some (.d (.tup (fs.map D.int))), some (.d (.int c)), none, none, none, none, none, none, none, none, none] (src3 :: t) := by
    rw [am__law_shut_round]
    refine sq_go (σ1 := [some (.r 0), some (.d (.int (M : Nat))), none, none, none, none, none, none, none, none, none, none, none, none, none]) (h1 := src1 :: t) (by
      generalize (10 : Int) ^ 29 = a at *
      generalize (10 : Int) ^ 6 = b at *
      generalize (10 : Int) ^ 9 = c at *
      simp -implicitDefEqProofs [startL, p29, p6, p9, e1', ix]) ?_
    refine sq_go eB ?_
    exact sq_go eC rfl
  show fin false (src :: t).length (m__law_shut_round (callF defs (n + 4)) (startL 15 [.r 0]) (src :: t)) = _
  rw [hb]
  exact eD
theorem e_source (n : Nat) (ns : List Int) : callF defs (n + 1) 16 [.d (.scr (ns.map D.int))] [] = .ok (.r 0) [.lst [.lv (ns.map D.int), .int 0, .int 0, .int 1]] := by
  rw [callF_at (md := ⟨1, 1, true, m__law_source⟩) rfl rfl]
  simp [startL]
  rfl
theorem law_ok (ns : List Int) (_ : ns.length ≤ 63) : ∃ h, callF defs fuel 34 [.d (.scr (ns.map D.int))] [] = .ok (.d (.bl true)) h := by
  have e0 := e_source 18 ns
  have s0 : Src 0 (.lst [.lv (ns.map D.int), .int 0, .int 0, .int 1]) := ⟨ns, 0, 0, 1, rfl, by omega, by omega⟩
  generalize O.lst [.lv (ns.map D.int), .int 0, .int 0, .int 1] = src at *
  obtain ⟨src1, s1, e1⟩ := k_small 14 0 s0 (by omega) []
  obtain ⟨src2, s2, e2⟩ := k_small 14 2000 (s1.up (by omega)) (by omega) []
  obtain ⟨src3, s3, e3⟩ := k_great 14 4000 (s2.up (by omega)) (by omega) []
  obtain ⟨src4, s4, e4⟩ := k_shutR 14 5000 (s3.up (by omega)) (by omega) []
  have rg : rngR [.d (.int 2)] [src] = .ok [.int 0, .int 1] [src] := rfl
  refine ⟨[], ?_⟩
  show callF defs 20 34 _ _ = _
  rw [callF_at (md := ⟨1, 3, false, m_law⟩) rfl rfl]
  generalize callF defs 19 = call at *
  simp -implicitDefEqProofs [startL, e0, rg, forL, e1, e2, e3, e4]
end K28

theorem PySem.Challenge.cw_pressedwords_k28_whole_one_answer_for_eq_holds : PySem.Challenge.rw_pressedwords_k28_whole_one_answer_for_eq.Holds := by
  exact K28.close K28.law_ok
