import PyProof.Rows.All
import Wide.All
import OpenK.AllK
import Wide.FinOn
import HandS.ForMost
import HandS.Exc
import HandS.WordsExc
import HandS.Flow
import HandS.ExcInit
import HandS.Wide
import HandS.TupAny
import HandS.IsInst
import HandS.Deep
import HandS.Codes
import HandS.Zip
import HandS.CallSlots
import HandS.Defaults
import HandS.ExcOwn
import HandS.Conv
import HandS.OwnEq
import KE.GoesEnum
import HandS.Head0
import HandS.Head1
import HandS.Head2
import HandS.HeadEnd
import HandS.HeadHook1
import HandS.HeadHook2
import HandS.Words
import HandS.Ends
import PyProof.NeKinds
import PyProof.P3Eq
import HandS.TupMul
import PyProof.StrOps2
import PyProof.ReprRoads
import PyProof.ReprLen
import HandS.Dict
import KE.GoesMore
import HandS.ExcIs
import HandS.ExcValue
import KE.KExcIs
import PySem.Challenge.RW_pressedwords_k00_errors_side_by_side
set_option Elab.async false
set_option linter.all false
set_option maxRecDepth 100000
set_option maxHeartbeats 0
set_option autoImplicit false
namespace Mi
open PySem PySem.Spec L2
open He in
def obsM (xf : PySem.W.Frag → Bool) (fa : List Fa) (fn : List DefD) (K : PySem.W.Frag) : Bool × AlD := (xf K, obsD fa fn K)
open He in
def SaysM (xf : PySem.W.Frag → Bool) (fa : List Fa) (fn : List DefD) (K : PySem.W.Frag) : Prop := obsM xf fa fn K = (true, valD fn)
/-- the facts of isinstance that a class has -/
def isiB (K : PySem.W.Frag) (C : Addr) : Bool := He.eqO (PySem.W.findIn K (.ref C) "__class__") (some (some (.builtin "object.__class__"))) &&
  (He.eqO (PySem.W.specialIn K (.builtin "object.__class__") "__get__") (some (some (.builtin "getset_descriptor.__get__"))) &&
    (decide (PySem.W.takesIn K (.builtin "object.__class__") = some true) && decide (PySem.W.mroIn K C (.type "object") = some true)))
def kitA (K : PySem.W.Frag) (t u : Value) (b : Bool) : Bool := decide (PySem.W.kitOne K t u = some b)
def clsDef (s : Stmt) (i : Nat) : Stmt := match s with
  | .ClassDef _ _ _ b _ _ _ _ _ _ _ => b.getD i (.Pass ⟨0, 0, 0, 0⟩)
  | s => s

def cga (K : PySem.W.Frag) (cn : List Str) (C : Nat) : Addr := He.ga K (cn.getD C "")
def isiAllB (K : PySem.W.Frag) (cn : List Str) (ok : List Nat) : Bool := ok.all fun E => isiB K (cga K cn E)
def kitAllB (K : PySem.W.Frag) (cn : List Str) (ok : List Nat) (bt : List String) (cs : List Nat) : Bool := cs.all fun C => (ok.all fun E => kitA K (.ref (cga K cn E)) (.ref (cga K cn C)) (E == C)) && bt.all fun s => kitA K (.type s) (.ref (cga K cn C)) false
def nfAllB (K : PySem.W.Frag) (cn : List Str) (ts : List Nat) : Bool := ts.all fun a => ts.all fun b => PySem.W.notFirst K (cga K cn a) (.ref (cga K cn b))
/-- what is met anew: the set as the bits of a number, the new ones -/
def newA : List Addr → Nat → List Addr → Nat × List Addr
  | [], m, acc => (m, acc)
  | a :: as, m, acc => match Nat.testBit m a with
    | true => newA as m acc
    | false => newA as (m + Nat.shiftLeft 1 a) (a :: acc)
def refsOf (g : Addr → Option Obj) (a : Addr) : List Addr := match g a with
  | some o => He.refsD o
  | none => []
def newF (g : Addr → Option Obj) : List Addr → Nat → List Addr → Nat × List Addr
  | [], m, acc => (m, acc)
  | a :: as, m, acc => match newA (refsOf g a) m acc with
    | (m', acc') => newF g as m' acc'
def asB (g : Addr → Option Obj) : Nat → Nat → List Addr → List Addr
  | 0, _, fr => fr
  | n + 1, m, fr => match newF g fr m [] with
    | (m', fr') => fr ++ asB g n m' fr'
open He in
def obsB (n : Nat) (xf : PySem.W.Frag → Bool) (fa : List Fa) (fn : List DefD) (g : Addr → Option Obj) : Bool × AlD := obsM xf fa fn (frG g (asB g n (Nat.shiftLeft 1 mainGlobals + Nat.shiftLeft 1 cStatics) [mainGlobals, cStatics]))
open He in
def hookB (n : Nat) (xf : PySem.W.Frag → Bool) (fa : List Fa) (fn : List DefD) : PySem.W.Hook where
  α := Bool × AlD
  obs := fun s => obsB n xf fa fn s.heap.get?
  val := fun _ => (true, valD fn)
  says := fun _ h => ∃ K : PySem.W.Frag, K.In h ∧ SaysM xf fa fn K
  of := fun _ _ e => ⟨_, frG_in, e⟩
  keeps := fun _ _ _ ⟨K, hK, c⟩ k => ⟨K, PySem.W.Frag.In.keeps hK k, c⟩
open He in
theorem obsB_eq {n : Nat} {xf : PySem.W.Frag → Bool} {fa : List Fa} {fn : List DefD} {g : Addr → Option Obj} {s : Shared} (h : ∀ a, g a = s.heap.get? a) : obsB n xf fa fn g = (hookB n xf fa fn).obs s := by
  rw [show g = s.heap.get? from funext h]; rfl
/-- the class object is one of an exception class over ValueError -/
def oexB (K : PySem.W.Frag) (C : Addr) : Bool := match K.lookup C with
  | some ⟨.type "type", _, .cls cd, sl⟩ => (match cd.mro, sl.toList with
    | .ref C' :: bm, [_, _, _, _, some (.builtin n), _] => decide (C' = C) && (n == "ValueError.__new__" && (!cd.hasDel && (cd.hasDict && PySem.HandSPX.refsVE bm)))
    | _, _ => false)
  | _ => false
def excKB (K : PySem.W.Frag) (C : Addr) : Bool :=
  oexB K C && (He.eqO (PySem.W.findIn K (.ref C) "__setattr__") (some (some (.builtin "object.__setattr__"))) && (decide (PySem.W.subIn K (.ref C) (.type "BaseException") = some true) && (decide (PySem.W.typeIn K (.ref C) = some (.type "type")) &&
  (PySem.W.keepIn K (.ref C) && (He.eqO (PySem.W.findIn K (.ref C) "__getattribute__") (some (some (.builtin "BaseException.__getattribute__"))) && (He.eqO (PySem.W.findIn K (.ref C) "__getattr__") (some none) &&
  (PySem.W.hasDictIn K C && ((PySem.W.clsIn K C).isSome && (He.eqO (PySem.W.findIn K (.ref C) "__class__") (some (some (.builtin "object.__class__"))) &&
  (He.eqO (PySem.W.specialIn K (.builtin "object.__class__") "__get__") (some (some (.builtin "getset_descriptor.__get__"))) && (decide (PySem.W.takesIn K (.builtin "object.__class__") = some true) && decide (PySem.W.mroIn K C (.type "object") = some true))))))))))))
/-- every own error stands directly under the class b -/
def xsub (b C T : Nat) : Bool := T == C || T == b
def xAllB (K : PySem.W.Frag) (cn : List Str) (xs : List Nat) : Bool := xs.all fun C => excKB K (cga K cn C)
def kitXB (K : PySem.W.Frag) (cn : List Str) (b : Nat) (xs ts : List Nat) : Bool := xs.all fun C => ts.all fun T => kitA K (.ref (cga K cn C)) (.ref (cga K cn T)) (xsub b C T)
def kitYB (K : PySem.W.Frag) (cn : List Str) (xs : List Nat) (ts : List String) : Bool := xs.all fun C => ts.all fun T => kitA K (.ref (cga K cn C)) (.type T) true
/-- a class without own __init__ that makes exceptions -/
def bareB (K : PySem.W.Frag) (C : Addr) : Bool := PySem.W.excIn K C He.veBase "ValueError.__new__" && PySem.W.keepIn K (.ref C)
def bareAllB (K : PySem.W.Frag) (cn : List Str) (xs : List Nat) : Bool := xs.all fun C => bareB K (cga K cn C)
/-- PressError.__init__ is ValueError's -/
def binitB (K : PySem.W.Frag) (B : Addr) : Bool := He.eqO (PySem.W.specialIn K (.ref B) "__getattribute__") (some (some (.builtin "type.__getattribute__"))) && (PySem.W.readsIn K B (.type "type") &&
  (match PySem.W.findCls K (.ref B) (.type "type") "__init__" with
  | some (.val (.builtin n)) => n == "ValueError.__init__"
  | _ => false))
end Mi
namespace K00
open PySem PySem.Spec L2 Mi
abbrev prg : Program := PySem.Challenge.pw_pressedwords_k00_errors_side_by_side
def top (i : Nat) : Stmt := prg.main.body.getD i (.Pass ⟨0, 0, 0, 0⟩)
abbrev s__law_source : Stmt := top 50
abbrev s__law_take : Stmt := top 51
abbrev s__law_pick : Stmt := top 52
abbrev s__law_text : Stmt := top 53
abbrev s__law_thing : Stmt := top 54
abbrev s__law_bare : Stmt := top 55
abbrev s__law_what_rows : Stmt := top 56
abbrev s__law_how_rows : Stmt := top 57
abbrev s__law_number_rows : Stmt := top 58
abbrev s__law_waiting_rows : Stmt := top 59
abbrev s__law_hand_rows : Stmt := top 60
abbrev s__law_report_rows : Stmt := top 61
abbrev s__law_at_rows : Stmt := top 62
abbrev s__law_symbol_rows : Stmt := top 63
abbrev s__law_length_rows : Stmt := top 64
abbrev s__law_name_rows : Stmt := top 65
abbrev s__law_used_rows : Stmt := top 66
abbrev s__law_road_rows : Stmt := top 67
abbrev s__law_turns_rows : Stmt := top 68
abbrev s__law_couple_rows : Stmt := top 69
abbrev s__law_kinds : Stmt := top 70
abbrev s__law_alone : Stmt := top 71
abbrev s_law : Stmt := top 72
def d__law_source : He.DefD := ⟨("_law_source", none), "_law_source", "_law_source", defArgs s__law_source, defBody s__law_source, defScope s__law_source, [], []⟩
def d__law_take : He.DefD := ⟨("_law_take", none), "_law_take", "_law_take", defArgs s__law_take, defBody s__law_take, defScope s__law_take, [], []⟩
def d__law_pick : He.DefD := ⟨("_law_pick", none), "_law_pick", "_law_pick", defArgs s__law_pick, defBody s__law_pick, defScope s__law_pick, [], []⟩
def d__law_text : He.DefD := ⟨("_law_text", none), "_law_text", "_law_text", defArgs s__law_text, defBody s__law_text, defScope s__law_text, [], []⟩
def d__law_thing : He.DefD := ⟨("_law_thing", none), "_law_thing", "_law_thing", defArgs s__law_thing, defBody s__law_thing, defScope s__law_thing, [], []⟩
def d__law_bare : He.DefD := ⟨("_law_bare", none), "_law_bare", "_law_bare", defArgs s__law_bare, defBody s__law_bare, defScope s__law_bare, [], []⟩
def d__law_what_rows : He.DefD := ⟨("_law_what_rows", none), "_law_what_rows", "_law_what_rows", defArgs s__law_what_rows, defBody s__law_what_rows, defScope s__law_what_rows, [], []⟩
def d__law_how_rows : He.DefD := ⟨("_law_how_rows", none), "_law_how_rows", "_law_how_rows", defArgs s__law_how_rows, defBody s__law_how_rows, defScope s__law_how_rows, [], []⟩
def d__law_number_rows : He.DefD := ⟨("_law_number_rows", none), "_law_number_rows", "_law_number_rows", defArgs s__law_number_rows, defBody s__law_number_rows, defScope s__law_number_rows, [], []⟩
def d__law_waiting_rows : He.DefD := ⟨("_law_waiting_rows", none), "_law_waiting_rows", "_law_waiting_rows", defArgs s__law_waiting_rows, defBody s__law_waiting_rows, defScope s__law_waiting_rows, [], []⟩
def d__law_hand_rows : He.DefD := ⟨("_law_hand_rows", none), "_law_hand_rows", "_law_hand_rows", defArgs s__law_hand_rows, defBody s__law_hand_rows, defScope s__law_hand_rows, [], []⟩
def d__law_report_rows : He.DefD := ⟨("_law_report_rows", none), "_law_report_rows", "_law_report_rows", defArgs s__law_report_rows, defBody s__law_report_rows, defScope s__law_report_rows, [], []⟩
def d__law_at_rows : He.DefD := ⟨("_law_at_rows", none), "_law_at_rows", "_law_at_rows", defArgs s__law_at_rows, defBody s__law_at_rows, defScope s__law_at_rows, [], []⟩
def d__law_symbol_rows : He.DefD := ⟨("_law_symbol_rows", none), "_law_symbol_rows", "_law_symbol_rows", defArgs s__law_symbol_rows, defBody s__law_symbol_rows, defScope s__law_symbol_rows, [], []⟩
def d__law_length_rows : He.DefD := ⟨("_law_length_rows", none), "_law_length_rows", "_law_length_rows", defArgs s__law_length_rows, defBody s__law_length_rows, defScope s__law_length_rows, [], []⟩
def d__law_name_rows : He.DefD := ⟨("_law_name_rows", none), "_law_name_rows", "_law_name_rows", defArgs s__law_name_rows, defBody s__law_name_rows, defScope s__law_name_rows, [], []⟩
def d__law_used_rows : He.DefD := ⟨("_law_used_rows", none), "_law_used_rows", "_law_used_rows", defArgs s__law_used_rows, defBody s__law_used_rows, defScope s__law_used_rows, [], []⟩
def d__law_road_rows : He.DefD := ⟨("_law_road_rows", none), "_law_road_rows", "_law_road_rows", defArgs s__law_road_rows, defBody s__law_road_rows, defScope s__law_road_rows, [], []⟩
def d__law_turns_rows : He.DefD := ⟨("_law_turns_rows", none), "_law_turns_rows", "_law_turns_rows", defArgs s__law_turns_rows, defBody s__law_turns_rows, defScope s__law_turns_rows, [], []⟩
def d__law_couple_rows : He.DefD := ⟨("_law_couple_rows", none), "_law_couple_rows", "_law_couple_rows", defArgs s__law_couple_rows, defBody s__law_couple_rows, defScope s__law_couple_rows, [], []⟩
def d__law_kinds : He.DefD := ⟨("_law_kinds", none), "_law_kinds", "_law_kinds", defArgs s__law_kinds, defBody s__law_kinds, defScope s__law_kinds, [], []⟩
def d__law_alone : He.DefD := ⟨("_law_alone", none), "_law_alone", "_law_alone", defArgs s__law_alone, defBody s__law_alone, defScope s__law_alone, [], []⟩
def d_law : He.DefD := ⟨("law", none), "law", "law", defArgs s_law, defBody s_law, defScope s_law, [], []⟩
abbrev s_BadBook__init_ : Stmt := clsDef (top 2) 0
def d_BadBook__init_ : He.DefD := ⟨("BadBook", some "__init__"), "__init__", "BadBook.__init__", defArgs s_BadBook__init_, defBody s_BadBook__init_, defScope s_BadBook__init_, [], []⟩
abbrev s_BadSaying__init_ : Stmt := clsDef (top 4) 0
def d_BadSaying__init_ : He.DefD := ⟨("BadSaying", some "__init__"), "__init__", "BadSaying.__init__", defArgs s_BadSaying__init_, defBody s_BadSaying__init_, defScope s_BadSaying__init_, [], []⟩
abbrev s_BadText__init_ : Stmt := clsDef (top 5) 0
def d_BadText__init_ : He.DefD := ⟨("BadText", some "__init__"), "__init__", "BadText.__init__", defArgs s_BadText__init_, defBody s_BadText__init_, defScope s_BadText__init_, [], []⟩
abbrev s_BadExpression__init_ : Stmt := clsDef (top 6) 0
def d_BadExpression__init_ : He.DefD := ⟨("BadExpression", some "__init__"), "__init__", "BadExpression.__init__", defArgs s_BadExpression__init_, defBody s_BadExpression__init_, defScope s_BadExpression__init_, [], []⟩
abbrev s_BadStep__init_ : Stmt := clsDef (top 8) 0
def d_BadStep__init_ : He.DefD := ⟨("BadStep", some "__init__"), "__init__", "BadStep.__init__", defArgs s_BadStep__init_, defBody s_BadStep__init_, defScope s_BadStep__init_, [], []⟩
abbrev s_BadEquation__init_ : Stmt := clsDef (top 9) 0
def d_BadEquation__init_ : He.DefD := ⟨("BadEquation", some "__init__"), "__init__", "BadEquation.__init__", defArgs s_BadEquation__init_, defBody s_BadEquation__init_, defScope s_BadEquation__init_, [], []⟩
abbrev s_Ended__init_ : Stmt := clsDef (top 13) 0
def d_Ended__init_ : He.DefD := ⟨("Ended", some "__init__"), "__init__", "Ended.__init__", defArgs s_Ended__init_, defBody s_Ended__init_, defScope s_Ended__init_, [], []⟩
abbrev s_NoBook__init_ : Stmt := clsDef (top 14) 0
def d_NoBook__init_ : He.DefD := ⟨("NoBook", some "__init__"), "__init__", "NoBook.__init__", defArgs s_NoBook__init_, defBody s_NoBook__init_, defScope s_NoBook__init_, [], []⟩
abbrev s_NotOpen__init_ : Stmt := clsDef (top 15) 0
def d_NotOpen__init_ : He.DefD := ⟨("NotOpen", some "__init__"), "__init__", "NotOpen.__init__", defArgs s_NotOpen__init_, defBody s_NotOpen__init_, defScope s_NotOpen__init_, [], []⟩
abbrev s_NotLooked__init_ : Stmt := clsDef (top 16) 0
def d_NotLooked__init_ : He.DefD := ⟨("NotLooked", some "__init__"), "__init__", "NotLooked.__init__", defArgs s_NotLooked__init_, defBody s_NotLooked__init_, defScope s_NotLooked__init_, [], []⟩
abbrev s_TooFull__init_ : Stmt := clsDef (top 17) 0
def d_TooFull__init_ : He.DefD := ⟨("TooFull", some "__init__"), "__init__", "TooFull.__init__", defArgs s_TooFull__init_, defBody s_TooFull__init_, defScope s_TooFull__init_, [], []⟩
abbrev s_NoHand__init_ : Stmt := clsDef (top 19) 0
def d_NoHand__init_ : He.DefD := ⟨("NoHand", some "__init__"), "__init__", "NoHand.__init__", defArgs s_NoHand__init_, defBody s_NoHand__init_, defScope s_NoHand__init_, [], []⟩
abbrev s_Busy__init_ : Stmt := clsDef (top 20) 0
def d_Busy__init_ : He.DefD := ⟨("Busy", some "__init__"), "__init__", "Busy.__init__", defArgs s_Busy__init_, defBody s_Busy__init_, defScope s_Busy__init_, [], []⟩
abbrev s_Idle__init_ : Stmt := clsDef (top 21) 0
def d_Idle__init_ : He.DefD := ⟨("Idle", some "__init__"), "__init__", "Idle.__init__", defArgs s_Idle__init_, defBody s_Idle__init_, defScope s_Idle__init_, [], []⟩
abbrev s_NoReport__init_ : Stmt := clsDef (top 22) 0
def d_NoReport__init_ : He.DefD := ⟨("NoReport", some "__init__"), "__init__", "NoReport.__init__", defArgs s_NoReport__init_, defBody s_NoReport__init_, defScope s_NoReport__init_, [], []⟩
abbrev s_BadGrammar__init_ : Stmt := clsDef (top 23) 0
def d_BadGrammar__init_ : He.DefD := ⟨("BadGrammar", some "__init__"), "__init__", "BadGrammar.__init__", defArgs s_BadGrammar__init_, defBody s_BadGrammar__init_, defScope s_BadGrammar__init_, [], []⟩
abbrev s_NoSymbol__init_ : Stmt := clsDef (top 24) 0
def d_NoSymbol__init_ : He.DefD := ⟨("NoSymbol", some "__init__"), "__init__", "NoSymbol.__init__", defArgs s_NoSymbol__init_, defBody s_NoSymbol__init_, defScope s_NoSymbol__init_, [], []⟩
abbrev s_NoSign__init_ : Stmt := clsDef (top 25) 0
def d_NoSign__init_ : He.DefD := ⟨("NoSign", some "__init__"), "__init__", "NoSign.__init__", defArgs s_NoSign__init_, defBody s_NoSign__init_, defScope s_NoSign__init_, [], []⟩
abbrev s_TooLong__init_ : Stmt := clsDef (top 26) 0
def d_TooLong__init_ : He.DefD := ⟨("TooLong", some "__init__"), "__init__", "TooLong.__init__", defArgs s_TooLong__init_, defBody s_TooLong__init_, defScope s_TooLong__init_, [], []⟩
abbrev s_NoCut__init_ : Stmt := clsDef (top 28) 0
def d_NoCut__init_ : He.DefD := ⟨("NoCut", some "__init__"), "__init__", "NoCut.__init__", defArgs s_NoCut__init_, defBody s_NoCut__init_, defScope s_NoCut__init_, [], []⟩
abbrev s_BadFilling__init_ : Stmt := clsDef (top 29) 0
def d_BadFilling__init_ : He.DefD := ⟨("BadFilling", some "__init__"), "__init__", "BadFilling.__init__", defArgs s_BadFilling__init_, defBody s_BadFilling__init_, defScope s_BadFilling__init_, [], []⟩
abbrev s_NoName__init_ : Stmt := clsDef (top 30) 0
def d_NoName__init_ : He.DefD := ⟨("NoName", some "__init__"), "__init__", "NoName.__init__", defArgs s_NoName__init_, defBody s_NoName__init_, defScope s_NoName__init_, [], []⟩
abbrev s_NotShut__init_ : Stmt := clsDef (top 31) 0
def d_NotShut__init_ : He.DefD := ⟨("NotShut", some "__init__"), "__init__", "NotShut.__init__", defArgs s_NotShut__init_, defBody s_NotShut__init_, defScope s_NotShut__init_, [], []⟩
abbrev s_OtherDeeds__init_ : Stmt := clsDef (top 32) 0
def d_OtherDeeds__init_ : He.DefD := ⟨("OtherDeeds", some "__init__"), "__init__", "OtherDeeds.__init__", defArgs s_OtherDeeds__init_, defBody s_OtherDeeds__init_, defScope s_OtherDeeds__init_, [], []⟩
abbrev s_BadPaperText__init_ : Stmt := clsDef (top 33) 0
def d_BadPaperText__init_ : He.DefD := ⟨("BadPaperText", some "__init__"), "__init__", "BadPaperText.__init__", defArgs s_BadPaperText__init_, defBody s_BadPaperText__init_, defScope s_BadPaperText__init_, [], []⟩
abbrev s_TooWide__init_ : Stmt := clsDef (top 34) 0
def d_TooWide__init_ : He.DefD := ⟨("TooWide", some "__init__"), "__init__", "TooWide.__init__", defArgs s_TooWide__init_, defBody s_TooWide__init_, defScope s_TooWide__init_, [], []⟩
abbrev s_BadScript__init_ : Stmt := clsDef (top 35) 0
def d_BadScript__init_ : He.DefD := ⟨("BadScript", some "__init__"), "__init__", "BadScript.__init__", defArgs s_BadScript__init_, defBody s_BadScript__init_, defScope s_BadScript__init_, [], []⟩
abbrev s_ShortInputs__init_ : Stmt := clsDef (top 36) 0
def d_ShortInputs__init_ : He.DefD := ⟨("ShortInputs", some "__init__"), "__init__", "ShortInputs.__init__", defArgs s_ShortInputs__init_, defBody s_ShortInputs__init_, defScope s_ShortInputs__init_, [], []⟩
abbrev s_NoIf__init_ : Stmt := clsDef (top 37) 0
def d_NoIf__init_ : He.DefD := ⟨("NoIf", some "__init__"), "__init__", "NoIf.__init__", defArgs s_NoIf__init_, defBody s_NoIf__init_, defScope s_NoIf__init_, [], []⟩
abbrev s_NoWay__init_ : Stmt := clsDef (top 38) 0
def d_NoWay__init_ : He.DefD := ⟨("NoWay", some "__init__"), "__init__", "NoWay.__init__", defArgs s_NoWay__init_, defBody s_NoWay__init_, defScope s_NoWay__init_, [], []⟩
abbrev s_BadDeed__init_ : Stmt := clsDef (top 40) 0
def d_BadDeed__init_ : He.DefD := ⟨("BadDeed", some "__init__"), "__init__", "BadDeed.__init__", defArgs s_BadDeed__init_, defBody s_BadDeed__init_, defScope s_BadDeed__init_, [], []⟩
abbrev s_NoPaper__init_ : Stmt := clsDef (top 46) 0
def d_NoPaper__init_ : He.DefD := ⟨("NoPaper", some "__init__"), "__init__", "NoPaper.__init__", defArgs s_NoPaper__init_, defBody s_NoPaper__init_, defScope s_NoPaper__init_, [], []⟩
abbrev s_NoStatement__init_ : Stmt := clsDef (top 48) 0
def d_NoStatement__init_ : He.DefD := ⟨("NoStatement", some "__init__"), "__init__", "NoStatement.__init__", defArgs s_NoStatement__init_, defBody s_NoStatement__init_, defScope s_NoStatement__init_, [], []⟩
def fn : List He.DefD := [d__law_source, d__law_take, d__law_pick, d__law_text, d__law_thing, d__law_bare, d__law_what_rows, d__law_how_rows, d__law_number_rows, d__law_waiting_rows, d__law_hand_rows, d__law_report_rows, d__law_at_rows, d__law_symbol_rows, d__law_length_rows, d__law_name_rows, d__law_used_rows, d__law_road_rows, d__law_turns_rows, d__law_couple_rows, d__law_kinds, d__law_alone, d_law, d_BadBook__init_, d_BadSaying__init_, d_BadText__init_, d_BadExpression__init_, d_BadStep__init_, d_BadEquation__init_, d_Ended__init_, d_NoBook__init_, d_NotOpen__init_, d_NotLooked__init_, d_TooFull__init_, d_NoHand__init_, d_Busy__init_, d_Idle__init_, d_NoReport__init_, d_BadGrammar__init_, d_NoSymbol__init_, d_NoSign__init_, d_TooLong__init_, d_NoCut__init_, d_BadFilling__init_, d_NoName__init_, d_NotShut__init_, d_OtherDeeds__init_, d_BadPaperText__init_, d_TooWide__init_, d_BadScript__init_, d_ShortInputs__init_, d_NoIf__init_, d_NoWay__init_, d_BadDeed__init_, d_NoPaper__init_, d_NoStatement__init_]
def cn : List Str := ((["PressError", "BadBook", "BadLetters", "BadSaying", "BadText", "BadExpression", "TooMany", "BadStep", "BadEquation", "BadOrder", "BadRoom", "NotFilled", "Ended", "NoBook", "NotOpen", "NotLooked", "TooFull", "BadMany", "NoHand", "Busy"] : List Str) ++ (["Idle", "NoReport", "BadGrammar", "NoSymbol", "NoSign", "TooLong", "EmptyWord", "NoCut", "BadFilling", "NoName", "NotShut", "OtherDeeds", "BadPaperText", "TooWide", "BadScript", "ShortInputs", "NoIf", "NoWay", "UnlikeScripts", "BadDeed"] : List Str) ++ (["FullDesk", "NoBack", "IsCut", "NotCut", "NoEngine", "NoPaper", "NoScript", "NoStatement"] : List Str))
abbrev xPar : Nat := 0
abbrev xS : List Nat := [1, 2, 3, 4, 5, 6, 7, 8, 9, 10, 11, 12, 13, 14, 15, 16, 17, 18, 19, 20, 21, 22, 23, 24, 25, 26, 27, 28, 29, 30, 31, 32, 33, 34, 35, 36, 37, 38, 39, 40, 41, 42, 43, 44, 45, 46, 47]
abbrev xBare : List Nat := [2, 6, 9, 10, 11, 17, 26, 38, 40, 41, 42, 43, 44, 46]
abbrev xT : List Nat := [0, 1, 2, 3, 4, 5, 6, 7, 8, 9, 10, 11, 12, 13, 14, 15, 16, 17, 18, 19, 20, 21, 22, 23, 24, 25, 26, 27, 28, 29, 30, 31, 32, 33, 34, 35, 36, 37, 38, 39, 40, 41, 42, 43, 44, 45, 46, 47]
abbrev xY : List String := ["ValueError"]
def isOk : List Nat := []
def isBt : List String := ["NoneType", "bool", "int", "str", "tuple", "list", "dict"]
def isCs : List Nat := []
def eqTab : List (Nat × Nat) := []
def fa : List He.Fa := [.glo "BadBook", .glo "BadDeed", .glo "BadEquation", .glo "BadExpression", .glo "BadFilling", .glo "BadGrammar", .glo "BadLetters", .glo "BadMany", .glo "BadOrder", .glo "BadPaperText", .glo "BadRoom", .glo "BadSaying", .glo "BadScript", .glo "BadStep", .glo "BadText", .glo "Busy", .glo "EmptyWord", .glo "Ended", .glo "FullDesk", .glo "Idle", .glo "IsCut", .glo "NoBack", .glo "NoBook", .glo "NoCut", .glo "NoEngine", .glo "NoHand", .glo "NoIf", .glo "NoName", .glo "NoPaper", .glo "NoReport", .glo "NoScript", .glo "NoSign", .glo "NoStatement", .glo "NoSymbol", .glo "NoWay", .glo "NotCut", .glo "NotFilled", .glo "NotLooked", .glo "NotOpen", .glo "NotShut", .glo "OtherDeeds", .glo "PressError", .glo "ShortInputs", .glo "TooFull", .glo "TooLong", .glo "TooMany", .glo "TooWide", .glo "UnlikeScripts", .glo "_law_alone", .glo "_law_at_rows", .glo "_law_bare", .glo "_law_couple_rows", .glo "_law_hand_rows", .glo "_law_how_rows", .glo "_law_kinds", .glo "_law_length_rows", .glo "_law_name_rows", .glo "_law_number_rows", .glo "_law_pick", .glo "_law_report_rows", .glo "_law_road_rows", .glo "_law_source", .glo "_law_symbol_rows", .glo "_law_take", .glo "_law_text", .glo "_law_thing", .glo "_law_turns_rows", .glo "_law_used_rows", .glo "_law_waiting_rows", .glo "_law_what_rows", .glo "law", .free "ValueError", .free "int", .free "isinstance", .free "len", .free "list", .free "range", .noat "BadBook" "what", .noat "BadDeed" "what", .noat "BadEquation" "at", .noat "BadEquation" "what", .noat "BadExpression" "what", .noat "BadFilling" "at", .noat "BadGrammar" "at", .noat "BadSaying" "what", .noat "BadScript" "road", .noat "BadScript" "what", .noat "BadText" "line", .noat "BadText" "place", .noat "Busy" "hand", .noat "Ended" "how", .noat "Idle" "hand", .noat "NoBook" "number", .noat "NoCut" "begin", .noat "NoCut" "end", .noat "NoHand" "hand", .noat "NoIf" "road", .noat "NoName" "name", .noat "NoPaper" "at", .noat "NoReport" "report", .noat "NoSign" "at", .noat "NoStatement" "road", .noat "NoSymbol" "symbol", .noat "NoWay" "turns", .noat "NotLooked" "number", .noat "NotOpen" "number", .noat "ShortInputs" "used", .noat "TooFull" "waiting", .noat "TooLong" "length", .noat "TooWide" "what", .meth "BadBook" "__init__", .meth "BadSaying" "__init__", .meth "BadText" "__init__", .meth "BadExpression" "__init__", .meth "BadStep" "__init__", .meth "BadEquation" "__init__", .meth "Ended" "__init__", .meth "NoBook" "__init__", .meth "NotOpen" "__init__", .meth "NotLooked" "__init__", .meth "TooFull" "__init__", .meth "NoHand" "__init__", .meth "Busy" "__init__", .meth "Idle" "__init__", .meth "NoReport" "__init__", .meth "BadGrammar" "__init__", .meth "NoSymbol" "__init__", .meth "NoSign" "__init__", .meth "TooLong" "__init__", .meth "NoCut" "__init__", .meth "BadFilling" "__init__", .meth "NoName" "__init__", .meth "NotShut" "__init__", .meth "OtherDeeds" "__init__", .meth "BadPaperText" "__init__", .meth "TooWide" "__init__", .meth "BadScript" "__init__", .meth "ShortInputs" "__init__", .meth "NoIf" "__init__", .meth "NoWay" "__init__", .meth "BadDeed" "__init__", .meth "NoPaper" "__init__", .meth "NoStatement" "__init__"]
def xf (K : PySem.W.Frag) : List Bool := [isiAllB K cn isOk, kitAllB K cn isOk isBt isCs, nfAllB K cn (eqTab.map (·.1)), xAllB K cn xS, kitXB K cn xPar xS xT, kitYB K cn xS xY, bareAllB K cn xBare, binitB K (He.ga K "PressError")]
abbrev R : PySem.W.OpenRow := PySem.W.OpenLaw.row PySem.Challenge.rw_pressedwords_k00_errors_side_by_side
abbrev xfa (K : PySem.W.Frag) : Bool := (xf K).all id
abbrev hk : PySem.W.Hook := hookB 5 xfa fa fn
def ob (s : PySem.W.SharedT) : Bool × He.AlD := obsB 5 xfa fa fn (HandSHeadRun.getT s)
theorem ob_eq (s : PySem.W.SharedT) : ob s = hk.obs s.abs := obsB_eq (HandSHeadRun.getT_eq s)
abbrev LL : List PySem.Str := ((["PressError", "BadBook", "BadLetters", "BadSaying", "BadText", "BadExpression", "TooMany", "BadStep", "BadEquation", "BadOrder", "BadRoom", "NotFilled", "Ended", "NoBook", "NotOpen", "NotLooked", "TooFull", "BadMany", "NoHand", "Busy"] : List Str) ++ (["Idle", "NoReport", "BadGrammar", "NoSymbol", "NoSign", "TooLong", "EmptyWord", "NoCut", "BadFilling", "NoName", "NotShut", "OtherDeeds", "BadPaperText", "TooWide", "BadScript", "ShortInputs", "NoIf", "NoWay", "UnlikeScripts", "BadDeed"] : List Str) ++ (["FullDesk", "NoBack", "IsCut", "NotCut", "NoEngine", "NoPaper", "NoScript", "NoStatement", "_law_source", "_law_take", "_law_pick", "_law_text", "_law_thing", "_law_bare", "_law_what_rows", "_law_how_rows", "_law_number_rows", "_law_waiting_rows", "_law_hand_rows", "_law_report_rows"] : List Str) ++ (["_law_at_rows", "_law_symbol_rows", "_law_length_rows", "_law_name_rows", "_law_used_rows", "_law_road_rows", "_law_turns_rows", "_law_couple_rows", "_law_kinds", "_law_alone"] : List Str))
open PySem.W PySem.Calls PyProof.Rows HandSHeadRun in
theorem runA (w : World) : ∀ os : OsState, (endF (stepQ (denQ tabQ) R.prog w) 15000 R.prog w os).map (fun s => (looksF R.prog (boot_heap w.params) s.abs, seenQ (PySem.W.view R.prog [72]) LL (importedModules R.prog.main.body) (fun s => xlAt (PySem.W.view R.prog [72]) [] s && recOk R.toRowW.records s) s.abs)) = some (true, openGood (PySem.W.view R.prog [72]) LL) := by
  intro os
  kernel_rfl
open PySem.W PySem.Calls PyProof.Rows HandSHeadRun in
theorem runB (w : World) : ∀ os : OsState, (endF (stepQ (denQ tabQ) R.prog w) 15000 R.prog w os).map (fun s => ob s) = some (hk.val w) := by
  intro os
  kernel_rfl
theorem map3 {α β γ δ : Type} {f : α → β} {g : α → γ} {h : α → δ} {b : β} {c : γ} {d : δ} : ∀ {o : Option α}, o.map (fun s => (f s, g s)) = some (b, c) → o.map (fun s => h s) = some d → o.map (fun s => (f s, g s, h s)) = some (b, c, d)
  | none, q, _ => by cases q
  | some x, q, r => by
    have q' := Option.some.inj q
    have r' : h x = d := Option.some.inj r
    have q1 : f x = b := congrArg Prod.fst q'
    have q2 : g x = c := congrArg Prod.snd q'
    subst r' q1 q2
    rfl
theorem run (w : World) : HandSHeadRun.RunEq R (PySem.W.view R.prog [72]) hk ob 15000 LL w := fun os => map3 (runA w os) (runB w os)
end K00
/-! Mi0: data, objects, the relation to the abstract heap -/
namespace Mi
open PySem PySem.Spec L2

/-- data: never changed once it is made -/
inductive D where
  | non | bl (b : Bool) | int (i : Int) | str (x : Str)
  | tup (xs : List D) | lv (xs : List D) | scr (xs : List D)
  | dk (kvs : List (Key × D)) | dt (kvs : List (List Key × D))
  | ins (C : Nat) (fs : List (Nat × D))
  /-- an exception object -/
  | exc (C : Nat) (fs : List (Nat × D))
/-- a changeable object, flat -/
inductive O where
  | lst (xs : List D) | dk (kvs : List (Key × D)) | dt (kvs : List (List Key × D))
  | ins (C : Nat) (fs : List (Nat × D)) | dead
inductive Vl where
  | d (x : D) | r (k : Nat)
abbrev Hs := List O
abbrev Lo := List (Option Vl)
structure Ex where
  C : Nat
  fs : List (Nat × D)
inductive Res (α : Type) where
  | ok (a : α) (h : Hs) | exc (e : Ex) (h : Hs) | bad

/-- the program's names: where the classes stand, what the attributes are called -/
structure CT where
  ca : Nat → Addr
  nm : Nat → Str
  inj : ∀ a b, nm a = nm b → a = b
  /-- the exception that the suite at hand has caught -/
  ex : Option (Addr × Nat × Option Addr)

def TupW (K : PySem.W.Frag) (a : Addr) (xs : List V) : Prop :=
  ∃ (o : Obj) (its : Array Value) (n : Nat), K.lookup a = some o ∧ o.cls = .type "tuple" ∧ o.data = .seq its n ∧ its.size ≤ sizeLine ∧ Vals xs its.toList
def LstW (K : PySem.W.Frag) (a : Addr) (xs : List V) : Prop :=
  ∃ (o : Obj) (its : Array Value) (n : Nat), K.lookup a = some o ∧ o.cls = .type "list" ∧ o.dict = none ∧ o.data = .seq its n ∧ its.size ≤ sizeLine ∧ Vals xs its.toList
mutual
inductive DR (K : PySem.W.Frag) (ct : CT) (S : Addr → Prop) (H : Hp) : D → V → Prop
  | non : DR K ct S H .non .non
  | bl (b) : DR K ct S H (.bl b) (.bl b)
  | int (i) : DR K ct S H (.int i) (.int i)
  | str (x) : DR K ct S H (.str x) (.str x)
  | tup {a xs vs} : H a = some (.tup vs) ∧ S a → DRs K ct S H xs vs → DR K ct S H (.tup xs) (.ref a)
  | lv {a xs vs} : H a = some (.lst vs) → S a → DRs K ct S H xs vs → DR K ct S H (.lv xs) (.ref a)
  | scr {a xs vs} : ((∃ o, H a = some (.frz o (.lst vs))) ∧ S a) ∨ LstW K a vs → DRs K ct S H xs vs → DR K ct S H (.scr xs) (.ref a)
  | dk {a kvs vs} : H a = some (.dK vs) → S a → DRk K ct S H kvs vs → DR K ct S H (.dk kvs) (.ref a)
  | dt {a kvs vs} : H a = some (.dT vs) → S a → DRt K ct S H kvs vs → DR K ct S H (.dt kvs) (.ref a)
  | ins {a C dx fs vs} : H a = some (.ins (ct.ca C) dx vs) → S a → DRf K ct S H fs vs → DR K ct S H (.ins C fs) (.ref a)
  | exb {a C} : H a = some (L2.exo a (ct.ca C) none) → S a → DR K ct S H (.exc C []) (.ref a)
  | exd {a C dx fs vs} : H a = some (L2.exo a (ct.ca C) (some dx)) → S a → H dx = some (L2.exd dx vs) → S dx → DRf K ct S H fs vs → DR K ct S H (.exc C fs) (.ref a)
  | exq {a C} : ct.ex = some (a, C, none) → DR K ct S H (.exc C []) (.ref a)
  | exr {a C dx fs vs} : ct.ex = some (a, C, some dx) → H dx = some (.xd vs) → S dx → DRf K ct S H fs vs → DR K ct S H (.exc C fs) (.ref a)
inductive DRs (K : PySem.W.Frag) (ct : CT) (S : Addr → Prop) (H : Hp) : List D → List V → Prop
  | nil : DRs K ct S H [] []
  | cons {d v ds vs} : DR K ct S H d v → DRs K ct S H ds vs → DRs K ct S H (d :: ds) (v :: vs)
inductive DRk (K : PySem.W.Frag) (ct : CT) (S : Addr → Prop) (H : Hp) : List (Key × D) → List (Key × V) → Prop
  | nil : DRk K ct S H [] []
  | cons {k d v ds vs} : DR K ct S H d v → DRk K ct S H ds vs → DRk K ct S H ((k, d) :: ds) ((k, v) :: vs)
inductive DRt (K : PySem.W.Frag) (ct : CT) (S : Addr → Prop) (H : Hp) : List (List Key × D) → List (List Key × V) → Prop
  | nil : DRt K ct S H [] []
  | cons {k d v ds vs} : DR K ct S H d v → DRt K ct S H ds vs → DRt K ct S H ((k, d) :: ds) ((k, v) :: vs)
inductive DRf (K : PySem.W.Frag) (ct : CT) (S : Addr → Prop) (H : Hp) : List (Nat × D) → List (Str × V) → Prop
  | nil : DRf K ct S H [] []
  | cons {n d v ds vs} : DR K ct S H d v → DRf K ct S H ds vs → DRf K ct S H ((n, d) :: ds) ((ct.nm n, v) :: vs)
end

/-- all that is tracked and safe stays and stays safe -/
def Kp (S : Addr → Prop) (H : Hp) (S' : Addr → Prop) (H' : Hp) : Prop := ∀ a o, H a = some o → S a → H' a = some o ∧ S' a
theorem Kp.refl (S : Addr → Prop) (H : Hp) : Kp S H S H := fun _ _ h s => ⟨h, s⟩
theorem Kp.trans {S S1 S2 : Addr → Prop} {H H1 H2 : Hp} (a : Kp S H S1 H1) (b : Kp S1 H1 S2 H2) : Kp S H S2 H2 := fun c o h s => let ⟨h1, s1⟩ := a c o h s; b c o h1 s1
theorem Kp.rd {S S' : Addr → Prop} {H H' : Hp} (k : Kp S H S' H') {a : Addr} {u : HO} (r : Rd H a u) (s : S a) : Rd H' a u ∧ S' a := by
  rcases r with r | ⟨o, r⟩
  · obtain ⟨h, s'⟩ := k _ _ r s
    exact ⟨.inl h, s'⟩
  · obtain ⟨h, s'⟩ := k _ _ r s
    exact ⟨.inr ⟨o, h⟩, s'⟩

section
variable {K : PySem.W.Frag} {ct : CT} {S S' : Addr → Prop} {H H' : Hp}
mutual
theorem DR.mono (k : Kp S H S' H') : ∀ {d v}, DR K ct S H d v → DR K ct S' H' d v
  | _, _, .non => .non
  | _, _, .bl b => .bl b
  | _, _, .int i => .int i
  | _, _, .str x => .str x
  | _, _, .tup h r => .tup (k _ _ h.1 h.2) (DRs.mono k r)
  | _, _, .lv h s r => .lv (k _ _ h s).1 (k _ _ h s).2 (DRs.mono k r)
  | _, _, .scr h r => .scr (h.imp (fun ⟨⟨o, h⟩, s⟩ => ⟨⟨o, (k _ _ h s).1⟩, (k _ _ h s).2⟩) id) (DRs.mono k r)
  | _, _, .dk h s r => .dk (k _ _ h s).1 (k _ _ h s).2 (DRk.mono k r)
  | _, _, .dt h s r => .dt (k _ _ h s).1 (k _ _ h s).2 (DRt.mono k r)
  | _, _, .ins h s r => .ins (k _ _ h s).1 (k _ _ h s).2 (DRf.mono k r)
  | _, _, .exb h s => .exb (k _ _ h s).1 (k _ _ h s).2
  | _, _, .exd h s h2 s2 r => .exd (k _ _ h s).1 (k _ _ h s).2 (k _ _ h2 s2).1 (k _ _ h2 s2).2 (DRf.mono k r)
  | _, _, .exq e => .exq e
  | _, _, .exr e h s r => .exr e (k _ _ h s).1 (k _ _ h s).2 (DRf.mono k r)
theorem DRs.mono (k : Kp S H S' H') : ∀ {d v}, DRs K ct S H d v → DRs K ct S' H' d v
  | _, _, .nil => .nil
  | _, _, .cons r t => .cons (DR.mono k r) (DRs.mono k t)
theorem DRk.mono (k : Kp S H S' H') : ∀ {d v}, DRk K ct S H d v → DRk K ct S' H' d v
  | _, _, .nil => .nil
  | _, _, .cons r t => .cons (DR.mono k r) (DRk.mono k t)
theorem DRt.mono (k : Kp S H S' H') : ∀ {d v}, DRt K ct S H d v → DRt K ct S' H' d v
  | _, _, .nil => .nil
  | _, _, .cons r t => .cons (DR.mono k r) (DRt.mono k t)
theorem DRf.mono (k : Kp S H S' H') : ∀ {d v}, DRf K ct S H d v → DRf K ct S' H' d v
  | _, _, .nil => .nil
  | _, _, .cons r t => .cons (DR.mono k r) (DRf.mono k t)
end
theorem DRs.length : ∀ {d v}, DRs K ct S H d v → d.length = v.length
  | _, _, .nil => rfl
  | _, _, .cons _ t => congrArg (· + 1) (DRs.length t)
theorem DRk.length : ∀ {d v}, DRk K ct S H d v → d.length = v.length
  | _, _, .nil => rfl
  | _, _, .cons _ t => congrArg (· + 1) (DRk.length t)
theorem DRt.length : ∀ {d v}, DRt K ct S H d v → d.length = v.length
  | _, _, .nil => rfl
  | _, _, .cons _ t => congrArg (· + 1) (DRt.length t)
theorem DRf.length : ∀ {d v}, DRf K ct S H d v → d.length = v.length
  | _, _, .nil => rfl
  | _, _, .cons _ t => congrArg (· + 1) (DRf.length t)
theorem DRs.append : ∀ {d v d' v'}, DRs K ct S H d v → DRs K ct S H d' v' → DRs K ct S H (d ++ d') (v ++ v')
  | _, _, _, _, .nil, s => s
  | _, _, _, _, .cons r t, s => .cons r (DRs.append t s)
theorem DRs.get : ∀ {d v} {i : Nat} {x : D}, DRs K ct S H d v → d[i]? = some x → ∃ y, v[i]? = some y ∧ DR K ct S H x y
  | _, _, _, _, .nil, e => by simp at e
  | _, _, 0, _, .cons r _, e => by simp at e; subst e; exact ⟨_, rfl, r⟩
  | _, _, i + 1, x, .cons _ t, e => by
    obtain ⟨y, h1, h2⟩ := DRs.get (i := i) (x := x) t (by simpa using e)
    exact ⟨y, by simpa using h1, h2⟩
theorem DRs.getV : ∀ {d v} {i : Nat} {y : V}, DRs K ct S H d v → v[i]? = some y → ∃ x, d[i]? = some x ∧ DR K ct S H x y
  | _, _, _, _, .nil, e => by simp at e
  | _, _, 0, _, .cons r _, e => by simp at e; subst e; exact ⟨_, rfl, r⟩
  | _, _, i + 1, y, .cons _ t, e => by
    obtain ⟨x, h1, h2⟩ := DRs.getV (i := i) (y := y) t (by simpa using e)
    exact ⟨x, by simpa using h1, h2⟩
theorem DRs.set {x : D} {y : V} (r : DR K ct S H x y) : ∀ {d v} (i : Nat), DRs K ct S H d v → DRs K ct S H (d.set i x) (v.set i y)
  | _, _, _, .nil => .nil
  | _, _, 0, .cons _ t => .cons r t
  | _, _, i + 1, .cons q t => .cons q (DRs.set r i t)
theorem DRs.take : ∀ {d v} (n : Nat), DRs K ct S H d v → DRs K ct S H (d.take n) (v.take n)
  | _, _, 0, _ => .nil
  | _, _, _ + 1, .nil => .nil
  | _, _, n + 1, .cons r t => .cons r (DRs.take n t)
theorem DRs.drop : ∀ {d v} (n : Nat), DRs K ct S H d v → DRs K ct S H (d.drop n) (v.drop n)
  | _, _, 0, r => r
  | _, _, _ + 1, .nil => .nil
  | _, _, n + 1, .cons _ t => DRs.drop n t
theorem DRs.eraseIdx : ∀ {d v} (i : Nat), DRs K ct S H d v → DRs K ct S H (d.eraseIdx i) (v.eraseIdx i)
  | _, _, _, .nil => .nil
  | _, _, 0, .cons _ t => t
  | _, _, n + 1, .cons r t => .cons r (DRs.eraseIdx n t)
theorem DRs.reverse {d v} (h : DRs K ct S H d v) : DRs K ct S H d.reverse v.reverse := by
  induction d generalizing v with
  | nil => cases h; exact .nil
  | cons x d ih =>
    cases h with
    | cons r t =>
      rw [List.reverse_cons, List.reverse_cons]
      exact (ih t).append (.cons r .nil)
theorem DRs.dropLast {d v} (h : DRs K ct S H d v) : DRs K ct S H d.dropLast v.dropLast := by
  rw [List.dropLast_eq_take, List.dropLast_eq_take, h.length]; exact h.take _
end

/-! ### live objects -/
def Lv (m : List Addr) (ah : Hs) (a : Addr) : Prop := ∃ (k : Nat) (o : O), m[k]? = some a ∧ ah[k]? = some o ∧ o ≠ O.dead
def Sf (m : List Addr) (ah : Hs) (a : Addr) : Prop := ¬ Lv m ah a
inductive OR (K : PySem.W.Frag) (ct : CT) (S : Addr → Prop) (H : Hp) : O → HO → Prop
  | lst {xs vs} : DRs K ct S H xs vs → OR K ct S H (.lst xs) (.lst vs)
  | dk {xs vs} : DRk K ct S H xs vs → OR K ct S H (.dk xs) (.dK vs)
  | dt {xs vs} : DRt K ct S H xs vs → OR K ct S H (.dt xs) (.dT vs)
  | ins {C dx fs vs} : DRf K ct S H fs vs → OR K ct S H (.ins C fs) (.ins (ct.ca C) dx vs)
  | dead (u) : OR K ct S H .dead u
theorem OR.mono {K : PySem.W.Frag} {ct : CT} {S S' : Addr → Prop} {H H' : Hp} (k : Kp S H S' H') {o u} (h : OR K ct S H o u) : OR K ct S' H' o u := by
  cases h with
  | lst r => exact .lst (r.mono k)
  | dk r => exact .dk (r.mono k)
  | dt r => exact .dt (r.mono k)
  | ins r => exact .ins (r.mono k)
  | dead u => exact .dead u
structure HR (K : PySem.W.Frag) (ct : CT) (m : List Addr) (ah : Hs) (H : Hp) : Prop where
  len : m.length = ah.length
  inj : ∀ (i j : Nat) (a : Addr), m[i]? = some a → m[j]? = some a → i = j
  ob : ∀ (k : Nat) a o, m[k]? = some a → ah[k]? = some o → ∃ u, H a = some u ∧ OR K ct (Sf m ah) H o u
structure Ext (m : List Addr) (ah : Hs) (H : Hp) (m' : List Addr) (ah' : Hs) (H' : Hp) : Prop where
  pre : ∃ t, m' = m ++ t
  kp : Kp (Sf m ah) H (Sf m' ah') H'
theorem Ext.refl (m : List Addr) (ah : Hs) (H : Hp) : Ext m ah H m ah H := ⟨⟨[], by simp⟩, Kp.refl _ _⟩
theorem Ext.trans {m m1 m2 : List Addr} {ah ah1 ah2 : Hs} {H H1 H2 : Hp} (a : Ext m ah H m1 ah1 H1) (b : Ext m1 ah1 H1 m2 ah2 H2) : Ext m ah H m2 ah2 H2 := by
  obtain ⟨t, rfl⟩ := a.pre
  obtain ⟨t', rfl⟩ := b.pre
  exact ⟨⟨t ++ t', by rw [List.append_assoc]⟩, a.kp.trans b.kp⟩
theorem Ext.at {m m1 : List Addr} {ah ah1 : Hs} {H H1 : Hp} (a : Ext m ah H m1 ah1 H1) {k : Nat} {x : Addr} (h : m[k]? = some x) : m1[k]? = some x := by
  obtain ⟨t, rfl⟩ := a.pre
  rw [List.getElem?_append_left (List.getElem?_eq_some_iff.mp h).1]
  exact h
def VlR (K : PySem.W.Frag) (ct : CT) (m : List Addr) (ah : Hs) (H : Hp) : Vl → V → Prop
  | .d x, v => DR K ct (Sf m ah) H x v
  | .r k, v => ∃ a, m[k]? = some a ∧ v = .ref a
inductive VlRs (K : PySem.W.Frag) (ct : CT) (m : List Addr) (ah : Hs) (H : Hp) : List Vl → List V → Prop
  | nil : VlRs K ct m ah H [] []
  | cons {d v ds vs} : VlR K ct m ah H d v → VlRs K ct m ah H ds vs → VlRs K ct m ah H (d :: ds) (v :: vs)
structure LR (K : PySem.W.Frag) (ct : CT) (m : List Addr) (ah : Hs) (H : Hp) (σ : Lo) (σV : St) : Prop where
  len : σ.length = σV.length
  at_ : ∀ (i : Nat) x, σ[i]? = some (some x) → ∃ v, σV[i]? = some (some v) ∧ VlR K ct m ah H x v
section
variable {K : PySem.W.Frag} {ct : CT} {m m' : List Addr} {ah ah' : Hs} {H H' : Hp}
theorem VlR.ext (e : Ext m ah H m' ah' H') {x v} (h : VlR K ct m ah H x v) : VlR K ct m' ah' H' x v := by
  cases x with
  | d x => exact DR.mono e.kp h
  | r k => obtain ⟨a, h1, h2⟩ := h; exact ⟨a, e.at h1, h2⟩
theorem VlRs.ext (e : Ext m ah H m' ah' H') : ∀ {xs vs}, VlRs K ct m ah H xs vs → VlRs K ct m' ah' H' xs vs
  | _, _, .nil => .nil
  | _, _, .cons r t => .cons (r.ext e) (VlRs.ext e t)
theorem VlRs.length : ∀ {d v}, VlRs K ct m ah H d v → d.length = v.length
  | _, _, .nil => rfl
  | _, _, .cons _ t => congrArg (· + 1) (VlRs.length t)
theorem LR.ext (e : Ext m ah H m' ah' H') {σ σV} (h : LR K ct m ah H σ σV) : LR K ct m' ah' H' σ σV :=
  ⟨h.len, fun i x hx => let ⟨v, h1, h2⟩ := h.at_ i x hx; ⟨v, h1, h2.ext e⟩⟩
theorem LR.set {σ σV} (h : LR K ct m ah H σ σV) {x v} (r : VlR K ct m ah H x v) (i : Nat) : LR K ct m ah H (σ.set i (some x)) (σV.set i (some v)) := by
  refine ⟨by rw [List.length_set, List.length_set, h.len], fun j y hy => ?_⟩
  by_cases e : i = j
  · subst e
    by_cases hi : i < σ.length
    · rw [List.getElem?_set_self hi] at hy
      cases hy
      exact ⟨v, by rw [List.getElem?_set_self (by rw [← h.len]; exact hi)], r⟩
    · rw [List.getElem?_eq_none (by rw [List.length_set]; omega)] at hy; cases hy
  · rw [List.getElem?_set_ne e] at hy ⊢
    exact h.at_ j y hy
theorem LR.forget {σ σ' σV} (h : LR K ct m ah H σ σV) (hl : σ'.length = σ.length) (hw : ∀ (i : Nat) x, σ'[i]? = some (some x) → σ[i]? = some (some x)) : LR K ct m ah H σ' σV :=
  ⟨hl.trans h.len, fun i x hx => h.at_ i x (hw i x hx)⟩

/-! ### how states go on -/
theorem HR.there (h : HR K ct m ah H) {k : Nat} {a : Addr} (e : m[k]? = some a) : ∃ o u, ah[k]? = some o ∧ H a = some u ∧ OR K ct (Sf m ah) H o u := by
  have hk : k < ah.length := by rw [← h.len]; exact (List.getElem?_eq_some_iff.mp e).1
  obtain ⟨u, h1, h2⟩ := h.ob k a ah[k] e (List.getElem?_eq_getElem hk)
  exact ⟨_, u, List.getElem?_eq_getElem hk, h1, h2⟩
theorem HR.fresh (h : HR K ct m ah H) {p : Addr} (hp : H p = none) (k : Nat) : m[k]? ≠ some p := fun e => by
  obtain ⟨_, u, _, h1, _⟩ := h.there e
  rw [hp] at h1; cases h1
theorem HR.freshS (h : HR K ct m ah H) {p : Addr} (hp : H p = none) : Sf m ah p := fun ⟨k, _, e, _⟩ => h.fresh hp k e
/-- H goes on at new places alone -/
theorem HR.more (h : HR K ct m ah H) (hH : ∀ a o, H a = some o → H' a = some o) : HR K ct m ah H' ∧ Ext m ah H m ah H' := by
  have kp : Kp (Sf m ah) H (Sf m ah) H' := fun a o e s => ⟨hH a o e, s⟩
  refine ⟨⟨h.len, h.inj, fun k a o e1 e2 => ?_⟩, ⟨⟨[], by simp⟩, kp⟩⟩
  obtain ⟨u, h1, h2⟩ := h.ob k a o e1 e2
  exact ⟨u, hH _ _ h1, h2.mono kp⟩
theorem upd_more {p : Addr} {o : HO} (hp : H p = none) : ∀ a u, H a = some u → upd H p o a = some u := fun a u e => by
  rw [upd_ne (ne_of_none e hp)]; exact e
/-- a new object, never to be changed -/
theorem HR.pure (h : HR K ct m ah H) {p : Addr} {o : HO} (hp : H p = none) : HR K ct m ah (upd H p o) ∧ Ext m ah H m ah (upd H p o) ∧ Sf m ah p :=
  ⟨(h.more (upd_more hp)).1, (h.more (upd_more hp)).2, h.freshS hp⟩
/-- a new object, to be changed -/
theorem HR.alloc (h : HR K ct m ah H) {p : Addr} {o : O} {u : HO} (hp : H p = none) (ho : OR K ct (Sf m ah) H o u) :
    HR K ct (m ++ [p]) (ah ++ [o]) (upd H p u) ∧ Ext m ah H (m ++ [p]) (ah ++ [o]) (upd H p u) := by
  have lv : ∀ a, Lv (m ++ [p]) (ah ++ [o]) a → Lv m ah a ∨ a = p := fun a ⟨k, q, e1, e2, e3⟩ => by
    by_cases hk : k < m.length
    · rw [List.getElem?_append_left hk] at e1
      rw [List.getElem?_append_left (by rw [← h.len]; exact hk)] at e2
      exact .inl ⟨k, q, e1, e2, e3⟩
    · rw [List.getElem?_append_right (by omega)] at e1
      have := (List.getElem?_eq_some_iff.mp e1).1
      have : k - m.length = 0 := by simpa using this
      rw [this] at e1
      exact .inr (by simpa using e1.symm)
  have kp : Kp (Sf m ah) H (Sf (m ++ [p]) (ah ++ [o])) (upd H p u) := fun a q e s =>
    ⟨upd_more hp a q e, fun l => (lv a l).elim s fun z => ne_of_none e hp z⟩
  refine ⟨⟨by rw [List.length_append, List.length_append, h.len]; rfl, fun i j a e1 e2 => ?_, fun k a q e1 e2 => ?_⟩, ⟨⟨[p], rfl⟩, kp⟩⟩
  · by_cases hi : i < m.length
    · rw [List.getElem?_append_left hi] at e1
      by_cases hj : j < m.length
      · rw [List.getElem?_append_left hj] at e2
        exact h.inj i j a e1 e2
      · rw [List.getElem?_append_right (by omega)] at e2
        have hz : a = p := by
          have := (List.getElem?_eq_some_iff.mp e2).1
          have z : j - m.length = 0 := by simpa using this
          rw [z] at e2; simpa using e2.symm
        subst hz
        exact absurd e1 (h.fresh hp i)
    · rw [List.getElem?_append_right (by omega)] at e1
      have hz : a = p ∧ i = m.length := by
        have := (List.getElem?_eq_some_iff.mp e1).1
        have z : i - m.length = 0 := by simpa using this
        rw [z] at e1; exact ⟨by simpa using e1.symm, by omega⟩
      obtain ⟨rfl, rfl⟩ := hz
      by_cases hj : j < m.length
      · rw [List.getElem?_append_left hj] at e2
        exact absurd e2 (h.fresh hp j)
      · have := (List.getElem?_eq_some_iff.mp e2).1
        rw [List.length_append, List.length_singleton] at this
        omega
  · by_cases hk : k < m.length
    · rw [List.getElem?_append_left hk] at e1
      rw [List.getElem?_append_left (by rw [← h.len]; exact hk)] at e2
      obtain ⟨v, h1, h2⟩ := h.ob k a q e1 e2
      exact ⟨v, upd_more hp _ _ h1, h2.mono kp⟩
    · rw [List.getElem?_append_right (by omega)] at e1
      rw [List.getElem?_append_right (by rw [← h.len]; omega)] at e2
      have z : k - m.length = 0 := by
        have := (List.getElem?_eq_some_iff.mp e1).1
        simpa using this
      rw [z] at e1
      rw [← h.len, z] at e2
      have ea : a = p := by simpa using e1.symm
      have eo : q = o := by simpa using e2.symm
      subst ea eo
      exact ⟨u, upd_same, ho.mono kp⟩
/-- an object changed -/
theorem HR.write (h : HR K ct m ah H) {k : Nat} {a : Addr} {o o' : O} {u' : HO} (e1 : m[k]? = some a) (e2 : ah[k]? = some o) (nd : o ≠ .dead) (ho : OR K ct (Sf m ah) H o' u') :
    HR K ct m (ah.set k o') (upd H a u') ∧ Ext m ah H m (ah.set k o') (upd H a u') := by
  have la : Lv m ah a := ⟨k, o, e1, e2, nd⟩
  have hk : k < ah.length := (List.getElem?_eq_some_iff.mp e2).1
  have kp : Kp (Sf m ah) H (Sf m (ah.set k o')) (upd H a u') := fun b q e s => by
    have hb : b ≠ a := fun z => s (z ▸ la)
    refine ⟨by rw [upd_ne hb]; exact e, fun ⟨j, q', f1, f2, f3⟩ => ?_⟩
    by_cases hj : k = j
    · subst hj; rw [e1] at f1; cases f1; exact hb rfl
    · rw [List.getElem?_set_ne hj] at f2
      exact s ⟨j, q', f1, f2, f3⟩
  refine ⟨⟨by rw [List.length_set]; exact h.len, h.inj, fun j b q f1 f2 => ?_⟩, ⟨⟨[], by simp⟩, kp⟩⟩
  by_cases hj : k = j
  · subst hj
    rw [List.getElem?_set_self hk] at f2
    cases f2
    rw [e1] at f1; cases f1
    exact ⟨u', upd_same, ho.mono kp⟩
  · rw [List.getElem?_set_ne hj] at f2
    obtain ⟨v, h1, h2⟩ := h.ob j b q f1 f2
    have hb : b ≠ a := fun z => by subst z; exact hj (h.inj _ _ _ e1 f1)
    exact ⟨v, by rw [upd_ne hb]; exact h1, h2.mono kp⟩
/-- an object that is never changed from here on -/
theorem HR.freeze (h : HR K ct m ah H) {k : Nat} {a : Addr} (e1 : m[k]? = some a) :
    HR K ct m (ah.set k .dead) H ∧ Ext m ah H m (ah.set k .dead) H ∧ Sf m (ah.set k .dead) a := by
  obtain ⟨o, u, e2, _, _⟩ := h.there e1
  have hk : k < ah.length := (List.getElem?_eq_some_iff.mp e2).1
  have lv : ∀ b, Lv m (ah.set k .dead) b → Lv m ah b ∧ b ≠ a := fun b ⟨j, q', f1, f2, f3⟩ => by
    by_cases hj : k = j
    · subst hj; rw [List.getElem?_set_self hk] at f2; cases f2; exact absurd rfl f3
    · rw [List.getElem?_set_ne hj] at f2
      exact ⟨⟨j, q', f1, f2, f3⟩, fun z => by subst z; exact hj (h.inj _ _ _ e1 f1)⟩
  have kp : Kp (Sf m ah) H (Sf m (ah.set k .dead)) H := fun b q e s => ⟨e, fun l => s (lv b l).1⟩
  refine ⟨⟨by rw [List.length_set]; exact h.len, h.inj, fun j b q f1 f2 => ?_⟩, ⟨⟨[], by simp⟩, kp⟩, fun l => (lv a l).2 rfl⟩
  by_cases hj : k = j
  · subst hj
    rw [List.getElem?_set_self hk] at f2
    cases f2
    obtain ⟨v, h1, h2⟩ := h.ob k b o f1 e2
    exact ⟨v, h1, .dead v⟩
  · rw [List.getElem?_set_ne hj] at f2
    obtain ⟨v, h1, h2⟩ := h.ob j b q f1 f2
    exact ⟨v, h1, h2.mono kp⟩
/-- objects forgotten -/
theorem HR.trim (h : HR K ct m ah H) (n : Nat) : HR K ct (m.take n) (ah.take n) H ∧ Kp (Sf m ah) H (Sf (m.take n) (ah.take n)) H := by
  have lv : ∀ b, Lv (m.take n) (ah.take n) b → Lv m ah b := fun b ⟨j, q', f1, f2, f3⟩ => by
    rw [List.getElem?_take] at f1 f2
    split at f1
    · rename_i hj
      rw [if_pos hj] at f2
      exact ⟨j, q', f1, f2, f3⟩
    · cases f1
  have kp : Kp (Sf m ah) H (Sf (m.take n) (ah.take n)) H := fun b q e s => ⟨e, fun l => s (lv b l)⟩
  refine ⟨⟨by rw [List.length_take, List.length_take, h.len], fun i j a f1 f2 => ?_, fun j b q f1 f2 => ?_⟩, kp⟩
  · rw [List.getElem?_take] at f1 f2
    split at f1
    · split at f2
      · exact h.inj _ _ _ f1 f2
      · cases f2
    · cases f1
  · rw [List.getElem?_take] at f1 f2
    split at f1
    · rename_i hj
      rw [if_pos hj] at f2
      obtain ⟨v, h1, h2⟩ := h.ob j b q f1 f2
      exact ⟨v, h1, h2.mono kp⟩
    · cases f1
/-- back to what stood ahead -/
theorem Ext.trimmed (h : HR K ct m' ah' H') (e : Ext m ah H m' ah' H') : Ext m ah H m (ah'.take m.length) H' := by
  obtain ⟨t, rfl⟩ := e.pre
  refine ⟨⟨[], by simp⟩, e.kp.trans ?_⟩
  have := (h.trim m.length).2
  rw [List.take_left'] at this
  · exact this
  · rfl
theorem HR.trimmed (h : HR K ct m' ah' H') (e : Ext m ah H m' ah' H') : HR K ct m (ah'.take m.length) H' := by
  obtain ⟨t, rfl⟩ := e.pre
  have := (h.trim m.length).1
  rw [List.take_left'] at this
  · exact this
  · rfl
end
end Mi

/-! Mi1: what an expression means over data; the judgements -/
namespace Mi
open PySem PySem.Spec L2

abbrev WX' := WX
/-- an exception as it lies in the heap -/
def XR (K : PySem.W.Frag) (ct : CT) (S : Addr → Prop) (H : Hp) (e : Ex) (cls : Value) (d : Option Addr) : Prop :=
  cls = .ref (ct.ca e.C) ∧ ∃ vs, DRf K ct S H e.fs vs ∧ ((e.fs = [] ∧ d = none) ∨ ∃ dx, d = some dx ∧ H dx = some (.xd vs) ∧ S dx)

/-- what is wanted of a result -/
def Po {α β : Type} (K : PySem.W.Frag) (ct : CT) (W : WX) (σV : L2.St) (R : List Addr → Hs → Hp → α → β → Prop) (m : List Addr) (ah : Hs) (H : Hp) (r : Res α) (Q : β → Hp → Prop) : Prop :=
  match r with
  | .ok x h => ∀ m' H' v, HR K ct m' h H' → Ext m ah H m' h H' → R m' h H' x v → Q v H'
  | .exc e h => ∀ m' H' cls d, HR K ct m' h H' → Ext m ah H m' h H' → XR K ct (Sf m' h) H' e cls d → W cls d σV H'
  | .bad => False
def rb {α β : Type} (r : Res α) (f : α → Hs → Res β) : Res β := match r with
  | .ok a h => f a h
  | .exc e h => .exc e h
  | .bad => .bad
@[simp] theorem rb_ok {α β : Type} (a : α) (h : Hs) (f : α → Hs → Res β) : rb (.ok a h) f = f a h := rfl
@[simp] theorem rb_exc {α β : Type} (e : Ex) (h : Hs) (f : α → Hs → Res β) : rb (.exc e h) f = .exc e h := rfl
@[simp] theorem rb_bad {α β : Type} (f : α → Hs → Res β) : rb .bad f = .bad := rfl
section
variable {α β γ δ : Type} {K : PySem.W.Frag} {ct : CT} {W : WX} {σV : L2.St} {m m' : List Addr} {ah ah' : Hs} {H H' : Hp}
theorem Po.ext {R : List Addr → Hs → Hp → α → β → Prop} {r : Res α} {Q : β → Hp → Prop} (p : Po K ct W σV R m ah H r Q) (e : Ext m ah H m' ah' H') : Po K ct W σV R m' ah' H' r Q := by
  cases r with
  | ok x h => exact fun m2 H2 v h2 e2 r2 => p m2 H2 v h2 (e.trans e2) r2
  | exc x h => exact fun m2 H2 c d h2 e2 r2 => p m2 H2 c d h2 (e.trans e2) r2
  | bad => exact p
theorem Po.imp {R : List Addr → Hs → Hp → α → β → Prop} {r : Res α} {Q Q' : β → Hp → Prop} (p : Po K ct W σV R m ah H r Q) (hq : ∀ v H', Q v H' → Q' v H') : Po K ct W σV R m ah H r Q' := by
  cases r with
  | ok x h => exact fun m2 H2 v h2 e2 r2 => hq _ _ (p m2 H2 v h2 e2 r2)
  | exc x h => exact p
  | bad => exact p
/-- what is told of a value on the way -/
def Mid (K : PySem.W.Frag) (ct : CT) (m : List Addr) (ah : Hs) (H : Hp) (R : List Addr → Hs → Hp → α → β → Prop) (P : List Addr → Hs → Hp → α → Prop) (v : β) (H1 : Hp) : Prop :=
  ∃ m1 h1 x, HR K ct m1 h1 H1 ∧ Ext m ah H m1 h1 H1 ∧ R m1 h1 H1 x v ∧ P m1 h1 H1 x
theorem Po.bind {R : List Addr → Hs → Hp → α → β → Prop} {T : List Addr → Hs → Hp → γ → δ → Prop} {r : Res α} {g : α → Hs → Res γ} {Q : δ → Hp → Prop} (p : Po K ct W σV T m ah H (rb r g) Q) :
    Po K ct W σV R m ah H r (Mid K ct m ah H R fun m1 h1 H1 x => Po K ct W σV T m1 h1 H1 (g x h1) Q) := by
  cases r with
  | ok x h => exact fun m2 H2 v h2 e2 r2 => ⟨m2, h, x, h2, e2, r2, Po.ext (r := g x h) p e2⟩
  | exc x h => exact p
  | bad => exact p
end

abbrev SemE := Lo → Hs → Res Vl
abbrev SemT := Lo → Hs → Res Bool
abbrev SemA := Lo → Hs → Res (List Vl)
section
variable (K : PySem.W.Frag) (ct : CT) (W : WX)
def rdE (f : SemE) : TE := fun σV H Q => ∃ m ah σ, HR K ct m ah H ∧ LR K ct m ah H σ σV ∧ Po K ct W σV (VlR K ct) m ah H (f σ ah) Q
def rdT (f : SemT) : TT := fun σV H Q => ∃ m ah σ, HR K ct m ah H ∧ LR K ct m ah H σ σV ∧ Po K ct W σV (fun _ _ _ b c => b = c) m ah H (f σ ah) Q
def rdA (f : SemA) : TA := fun σV H Q => ∃ m ah σ, HR K ct m ah H ∧ LR K ct m ah H σ σV ∧ Po K ct W σV (VlRs K ct) m ah H (f σ ah) Q
end
abbrev SE (X : Cx) (ct : CT) (W : WX) (e : Expr) (f : SemE) : Prop := PE X e (rdE X.K ct W f)
abbrev ST (X : Cx) (ct : CT) (W : WX) (e : Expr) (f : SemT) : Prop := PT X e (rdT X.K ct W f)
abbrev SA (X : Cx) (ct : CT) (W : WX) (es : List Expr) (f : SemA) : Prop := PA X es (rdA X.K ct W f)

theorem PE.imp {X : Cx} {e : Expr} {t t' : TE} (h : PE X e t) (i : ∀ σ H Q, t' σ H Q → t σ H Q) : PE X e t' := ⟨fun pins s σ H Q I q => h.run pins s σ H Q I (i _ _ _ q)⟩
theorem PT.imp {X : Cx} {e : Expr} {t t' : TT} (h : PT X e t) (i : ∀ σ H Q, t' σ H Q → t σ H Q) : PT X e t' := ⟨fun pins s σ H Q I q => h.run pins s σ H Q I (i _ _ _ q)⟩
theorem PW.imp {X : Cx} {e : Expr} {t t' : TT} (h : PW X e t) (i : ∀ σ H Q, t' σ H Q → t σ H Q) : PW X e t' := ⟨fun w pins s σ H Q I q => h.run w pins s σ H Q I (i _ _ _ q)⟩
theorem PA.imp {X : Cx} {e : List Expr} {t t' : TA} (h : PA X e t) (i : ∀ σ H Q, t' σ H Q → t σ H Q) : PA X e t' := ⟨fun pos pins s σ H Q I q => h.run pos pins s σ H Q I (i _ _ _ q)⟩
theorem PS.imp {X : Cx} {e : Stmt} {t t' : TS} (h : PS X e t) (i : ∀ D σ H, t' D σ H → t D σ H) : PS X e t' := ⟨fun pins s σ H Q I q => h.run pins s σ H Q I (i _ _ _ q)⟩
theorem PSs.imp {X : Cx} {e : List Stmt} {t t' : TS} (h : PSs X e t) (i : ∀ D σ H, t' D σ H → t D σ H) : PSs X e t' := ⟨fun pins s σ H Q I q => h.run pins s σ H Q I (i _ _ _ q)⟩

/-! ### names, constants -/
def eVar (i : Nat) : SemE := fun σ h => match σ[i]? with
  | some (some v) => .ok v h
  | _ => .bad
def eK (d : D) : SemE := fun _ h => .ok (.d d) h
section
variable {X : Cx} {ct : CT} {W : WX} {pos : Pos}
theorem se_var (i : Nat) {x : Str} (hN : X.N[i]? = some x := by rfl) (hv : Vis X.env.scope x := by first | exact Or.inl rfl | exact Or.inr (Or.inl rfl) | exact Or.inr (Or.inr rfl)) (hd : (x == ("__debug__" : Str)) = false := by decide)
    (hcd : (x == ("__classdict__" : Str)) = false := by decide) : SE X ct W (.Name x pos) (eVar i) :=
  PE.imp (pe_var hN hv hd hcd) fun σV H Q ⟨m, ah, σ, hr, lr, p⟩ => by
    unfold eVar at p
    cases e : σ[i]? with
    | none => rw [e] at p; exact p.elim
    | some o =>
      cases o with
      | none => rw [e] at p; exact p.elim
      | some x =>
        rw [e] at p
        obtain ⟨v, h1, h2⟩ := lr.at_ i x e
        exact ⟨v, h1, p m H v hr (Ext.refl _ _ _) h2⟩
theorem se_const {e : Expr} {v : V} {d : D} (h : PE X e (tC v)) (r : ∀ S H, DR X.K ct S H d v) : SE X ct W e (eK d) :=
  PE.imp h fun σV H Q ⟨m, ah, σ, hr, lr, p⟩ => p m H v hr (Ext.refl _ _ _) (r _ _)
theorem se_int {i : Int} {j} : SE X ct W (.Constant (.int i) j pos) (eK (.int i)) := se_const pe_int fun _ _ => .int i
theorem se_bl {b : Bool} {j} : SE X ct W (.Constant (.bool b) j pos) (eK (.bl b)) := se_const pe_bl fun _ _ => .bl b
theorem se_non {j} : SE X ct W (.Constant .none j pos) (eK .non) := se_const pe_non fun _ _ => .non
theorem se_str {x : Str} {j} : SE X ct W (.Constant (.str x) j pos) (eK (.str x)) := se_const pe_str fun _ _ => .str x
theorem se_globI {x : Str} {i : Int} {t : Tok} (hg : Gl X x) (hm : X.mg x = some (.int i t)) (hd : (x == ("__debug__" : Str)) = false := by decide) : SE X ct W (.Name x pos) (eK (.int i)) := se_const (pe_glob hg hm (v := .int i) ⟨_, rfl⟩ hd) fun _ _ => .int i
theorem se_globS {x : Str} {i : Str} {t : Tok} (hg : Gl X x) (hm : X.mg x = some (.str i t)) (hd : (x == ("__debug__" : Str)) = false := by decide) : SE X ct W (.Name x pos) (eK (.str i)) := se_const (pe_glob hg hm (v := .str i) ⟨_, rfl⟩ hd) fun _ _ => .str i
theorem se_globT {x : Str} {i : D} {a : Addr} (hg : Gl X x) (hm : X.mg x = some (.ref a)) (r : ∀ S H, DR X.K ct S H i (.ref a)) (hd : (x == ("__debug__" : Str)) = false := by decide) : SE X ct W (.Name x pos) (eK i) := se_const (pe_glob hg hm (v := .ref a) rfl hd) r
end

/-! ### operations on values -/
abbrev Op1 := Vl → Hs → Option (Vl × Hs)
abbrev Op2 := Vl → Vl → Hs → Option (Vl × Hs)
def ro (o : Option (Vl × Hs)) : Res Vl := match o with
  | some (x, h) => .ok x h
  | none => .bad
@[simp] theorem ro_some (x : Vl) (h : Hs) : ro (some (x, h)) = .ok x h := rfl
@[simp] theorem ro_none : ro none = .bad := rfl
def Pp (K : PySem.W.Frag) (ct : CT) (m : List Addr) (ah : Hs) (H : Hp) (o : Option (Vl × Hs)) (Q : VK) : Prop := match o with
  | some (x, h) => ∀ m' H' v, HR K ct m' h H' → Ext m ah H m' h H' → VlR K ct m' h H' x v → Q v H'
  | none => False
theorem Pp.of {K : PySem.W.Frag} {ct : CT} {W : WX} {σV : L2.St} {m : List Addr} {ah : Hs} {H : Hp} {o : Option (Vl × Hs)} {Q : VK} (p : Po K ct W σV (VlR K ct) m ah H (ro o) Q) : Pp K ct m ah H o Q := by
  cases o with
  | none => exact p
  | some x => exact p
/-- the state stays -/
theorem Pp.same {K : PySem.W.Frag} {ct : CT} {m : List Addr} {ah : Hs} {H : Hp} {x : Vl} {v : V} {Q : VK} (p : Pp K ct m ah H (some (x, ah)) Q) (h : HR K ct m ah H) (r : VlR K ct m ah H x v) : Q v H := p m H v h (Ext.refl _ _ _) r
/-- a new object that is never changed -/
theorem Pp.new {K : PySem.W.Frag} {ct : CT} {m : List Addr} {ah : Hs} {H : Hp} {x : D} {o : HO} {Q : VK} (p : Pp K ct m ah H (some (.d x, ah)) Q) (h : HR K ct m ah H)
    (r : ∀ a, H a = none → Kp (Sf m ah) H (Sf m ah) (upd H a o) → Sf m ah a → DR K ct (Sf m ah) (upd H a o) x (.ref a)) : ∀ a, H a = none → Q (.ref a) (upd H a o) := fun a ha =>
  p m _ _ (h.pure (o := o) ha).1 (h.pure (o := o) ha).2.1 (r a ha (h.pure (o := o) ha).2.1.kp (h.freshS ha))
def rOp (K : PySem.W.Frag) (ct : CT) (op : Op2) : R2 := fun x y H Q => ∃ m ah a b, HR K ct m ah H ∧ VlR K ct m ah H a x ∧ VlR K ct m ah H b y ∧ Pp K ct m ah H (op a b ah) Q
def rUn (K : PySem.W.Frag) (ct : CT) (op : Op1) : V → Hp → VK → Prop := fun x H Q => ∃ m ah a, HR K ct m ah H ∧ VlR K ct m ah H a x ∧ Pp K ct m ah H (op a ah) Q
def eBin (op : Op2) (f g : SemE) : SemE := fun σ h => rb (f σ h) fun x h1 => rb (g σ h1) fun y h2 => ro (op x y h2)
def eUn (op : Op1) (f : SemE) : SemE := fun σ h => rb (f σ h) fun x h1 => ro (op x h1)
section
variable {X : Cx} {ct : CT} {W : WX} {pos : Pos} {a b c : Expr} {f g k : SemE}
theorem rd_bin {op : Op2} {σV : L2.St} {H : Hp} {Q : VK} (h : rdE X.K ct W (eBin op f g) σV H Q) : tOp (rOp X.K ct op) (rdE X.K ct W f) (rdE X.K ct W g) σV H Q := by
  obtain ⟨m, ah, σ, hr, lr, p⟩ := h
  refine ⟨m, ah, σ, hr, lr, (Po.bind (R := VlR X.K ct) p).imp fun v H1 ⟨m1, h1, x, hr1, e1, r1, p1⟩ => ?_⟩
  refine ⟨m1, h1, σ, hr1, lr.ext e1, (Po.bind (R := VlR X.K ct) p1).imp fun u H2 ⟨m2, h2, y, hr2, e2, r2, p2⟩ => ?_⟩
  exact ⟨m2, h2, x, y, hr2, r1.ext e2, r2, Pp.of p2⟩
theorem rd_un {op : Op1} {σV : L2.St} {H : Hp} {Q : VK} (h : rdE X.K ct W (eUn op f) σV H Q) : tUn (rUn X.K ct op) (rdE X.K ct W f) σV H Q := by
  obtain ⟨m, ah, σ, hr, lr, p⟩ := h
  refine ⟨m, ah, σ, hr, lr, (Po.bind (R := VlR X.K ct) p).imp fun v H1 ⟨m1, h1, x, hr1, e1, r1, p1⟩ => ?_⟩
  exact ⟨m1, h1, x, hr1, r1, Pp.of p1⟩
theorem se_bin {op : Operator} {o : Op2} (ho : OpR X (binaryOp op) (rOp X.K ct o)) (ha : SE X ct W a f) (hb : SE X ct W b g) : SE X ct W (.BinOp a op b pos) (eBin o f g) := PE.imp (pe_op ho ha hb) fun _ _ _ h => rd_bin h
theorem se_un {op : UnaryOp} {o : Op1} (ho : UnR X (unaryOp op) (rUn X.K ct o)) (ha : SE X ct W a f) : SE X ct W (.UnaryOp op a pos) (eUn o f) := PE.imp (pe_un ho ha) fun _ _ _ h => rd_un h
theorem se_cmp {op : CmpOp} {o : Op2} (ho : OpR X (compareOp op) (rOp X.K ct o)) (ha : SE X ct W a f) (hb : SE X ct W b g) (hm : behindInMarks op b = false := by first | exact nomark _ | rfl | with_unfolding_all rfl) : SE X ct W (.Compare a [op] [b] pos) (eBin o f g) :=
  PE.imp (pe_cmpR ho ha hb hm) fun _ _ _ h => rd_bin h
theorem se_ix {o : Op2} (ho : IxR X (rOp X.K ct o)) (ha : SE X ct W a f) (hb : SE X ct W b g) (hs : PlainIx b := by exact fun _ _ => rfl) : SE X ct W (.Subscript a b pos) (eBin o f g) := PE.imp (pe_ix ho ha hb hs) fun _ _ _ h => rd_bin h
end
theorem OpR.imp {X : Cx} {f : Value → Value → Sem Value} {r r' : R2} (h : OpR X f r) (i : ∀ x y H Q, r' x y H Q → r x y H Q) : OpR X f r' := fun pins s σ H x y v u Q I rx ry q => h pins s σ H x y v u Q I rx ry (i _ _ _ _ q)
theorem UnR.imp {X : Cx} {f : Value → Sem Value} {r r' : V → Hp → VK → Prop} (h : UnR X f r) (i : ∀ x H Q, r' x H Q → r x H Q) : UnR X f r' := fun pins s σ H x v Q I rx q => h pins s σ H x v Q I rx (i _ _ _ q)
theorem IxR.imp {X : Cx} {r r' : R2} (h : IxR X r) (i : ∀ x y H Q, r' x y H Q → r x y H Q) : IxR X r' := fun a b pins s σ H x y v u Q I rx ry q => h a b pins s σ H x y v u Q I rx ry (i _ _ _ _ q)
theorem MtR.imp {X : Cx} {id : String} {r r' : V → List V → Hp → VK → Prop} (h : MtR X id r) (i : ∀ x xs H Q, r' x xs H Q → r x xs H Q) : MtR X id r' := fun pins s σ H x xs v us Q I rx rs q => h pins s σ H x xs v us Q I rx rs (i _ _ _ _ q)
theorem SlR.imp {X : Cx} {r r' : V → Option Int → Option Int → Hp → VK → Prop} (h : SlR X r) (i : ∀ x lo hi H Q, r' x lo hi H Q → r x lo hi H Q) : SlR X r' := fun pins s σ H x v vl vu lo hi sl Q I rx hs p1 p2 q => h pins s σ H x v vl vu lo hi sl Q I rx hs p1 p2 (i _ _ _ _ _ q)
theorem CallR.imp {X : Cx} {f : Value} {r r' : List V → Hp → VK → Prop} (h : CallR X f r) (i : ∀ x H Q, r' x H Q → r x H Q) : CallR X f r' := fun pins s σ H x v Q I rx q => h pins s σ H x v Q I rx (i _ _ _ q)

/-- the pure list or tuple behind a value -/
def seqOf (v : Vl) (h : Hs) : Option (List D) := match v with
  | .d (.tup xs) => some xs
  | .d (.lv xs) => some xs
  | .r k => (match h[k]? with
    | some (.lst xs) => some xs
    | _ => none)
  | _ => none
def lstOf (v : Vl) (h : Hs) : Option (List D) := match v with
  | .d (.lv xs) => some xs
  | .r k => (match h[k]? with
    | some (.lst xs) => some xs
    | _ => none)
  | _ => none
section
variable {K : PySem.W.Frag} {ct : CT} {m : List Addr} {ah : Hs} {H : Hp}
theorem HR.lstK (h : HR K ct m ah H) {k : Nat} {xs : List D} (e : ah[k]? = some (.lst xs)) {v : V} (r : VlR K ct m ah H (.r k) v) : ∃ a vs, m[k]? = some a ∧ v = .ref a ∧ H a = some (.lst vs) ∧ DRs K ct (Sf m ah) H xs vs := by
  obtain ⟨a, h1, rfl⟩ := r
  obtain ⟨u, h2, h3⟩ := h.ob k a _ h1 e
  cases h3 with
  | lst r => exact ⟨a, _, h1, rfl, h2, r⟩
theorem lst_of (h : HR K ct m ah H) {x : Vl} {xs : List D} {v : V} (e : lstOf x ah = some xs) (r : VlR K ct m ah H x v) : ∃ a vs, v = .ref a ∧ H a = some (.lst vs) ∧ DRs K ct (Sf m ah) H xs vs := by
  unfold lstOf at e
  split at e
  · cases e
    cases r with
    | lv h1 _ h2 => exact ⟨_, _, rfl, h1, h2⟩
  · rename_i k
    split at e
    · rename_i ys hk
      cases e
      obtain ⟨a, vs, _, rfl, h1, h2⟩ := h.lstK hk r
      exact ⟨a, vs, rfl, h1, h2⟩
    · cases e
  · cases e
theorem tup_of {xs : List D} {v : V} {S : Addr → Prop} (r : DR K ct S H (.tup xs) v) : ∃ a vs, v = .ref a ∧ SqT K H a vs ∧ DRs K ct S H xs vs := by
  cases r with
  | tup h1 h2 => exact ⟨_, _, rfl, .inl (.inl h1.1), h2⟩
theorem seq_of (h : HR K ct m ah H) {x : Vl} {xs : List D} {v : V} (e : seqOf x ah = some xs) (r : VlR K ct m ah H x v) : ∃ a vs, v = .ref a ∧ (SqL K H a vs ∨ SqT K H a vs) ∧ DRs K ct (Sf m ah) H xs vs := by
  unfold seqOf at e
  split at e
  · cases e
    obtain ⟨a, vs, rfl, h1, h2⟩ := tup_of r
    exact ⟨a, vs, rfl, .inr h1, h2⟩
  · cases e
    cases r with
    | lv h1 _ h2 => exact ⟨_, _, rfl, .inl (.of h1), h2⟩
  · rename_i k
    split at e
    · rename_i ys hk
      cases e
      obtain ⟨a, vs, _, rfl, h1, h2⟩ := h.lstK hk r
      exact ⟨a, vs, rfl, .inl (.of h1), h2⟩
    · cases e
  · cases e
theorem new_tup {S : Addr → Prop} {xs : List D} {vs : List V} {a : Addr} (r : DRs K ct S H xs vs) (k : Kp S H S (upd H a (.tup vs))) (s : S a) : DR K ct S (upd H a (.tup vs)) (.tup xs) (.ref a) := .tup ⟨upd_same, s⟩ (r.mono k)
theorem new_lv {S : Addr → Prop} {xs : List D} {vs : List V} {a : Addr} (r : DRs K ct S H xs vs) (k : Kp S H S (upd H a (.lst vs))) (s : S a) : DR K ct S (upd H a (.lst vs)) (.lv xs) (.ref a) := .lv upd_same s (r.mono k)
end
end Mi

/-! Mi2: the operations -/
namespace Mi
open PySem PySem.Spec L2

/-! ### data as the library compares it -/
mutual
def D.pd : D → PyData
  | .non => .none | .bl b => .bool b | .int i => .int i | .str x => .str x
  | .tup xs => .tuple (D.pds xs) | .lv xs => .list (D.pds xs)
  | .scr _ => .dict [] | .dk _ => .dict [] | .dt _ => .dict [] | .ins _ _ => .dict [] | .exc _ _ => .dict []
def D.pds : List D → List PyData
  | [] => []
  | x :: xs => D.pd x :: D.pds xs
end
@[simp] theorem pds_eq_map : ∀ xs : List D, D.pds xs = xs.map D.pd
  | [] => by simp [D.pds]
  | x :: xs => by simp [D.pds, pds_eq_map xs]
def viewD (v : Vl) (h : Hs) : Option D := match v with
  | .d x => some x
  | .r k => (match h[k]? with
    | some (.lst xs) => some (.lv xs)
    | _ => none)
def shp (d : D) : Bool := SeqAt.shaped d.pd
section
variable {K : PySem.W.Frag} {ct : CT} {S : Addr → Prop} {m : List Addr} {ah : Hs} {H : Hp}
theorem canLayAll0_mem {d : D} : ∀ {xs : List D}, PyData.canLayAll0 (D.pds xs) = true → d ∈ xs → d.pd.canLay0 = true
  | x :: xs, h, hm => by
    simp only [D.pds, PyData.canLayAll0, Bool.and_eq_true] at h
    rcases List.mem_cons.mp hm with rfl | hm
    · exact h.1
    · exact canLayAll0_mem h.2 hm
mutual
theorem dp_of : ∀ {d : D} {v : V}, DR K ct S H d v → d.pd.canLay0 = true → Dp K H v d.pd
  | _, _, .non, _ => .non
  | _, _, .bl b, _ => .bl b
  | _, _, .int i, _ => .int i
  | _, _, .str x, _ => .str x
  | _, _, .tup h r, c => by
    simp only [D.pd, PyData.canLay0] at c ⊢
    exact .tup (.inl (.inl h.1)) (dps_of r c)
  | _, _, .lv h s r, c => by
    simp only [D.pd, PyData.canLay0] at c ⊢
    exact .lst (.of h) (dps_of r c)
  | _, _, .scr h r, c => by simp [D.pd, PyData.canLay0] at c
  | _, _, .dk h s r, c => by simp [D.pd, PyData.canLay0] at c
  | _, _, .dt h s r, c => by simp [D.pd, PyData.canLay0] at c
  | _, _, .ins h s r, c => by simp [D.pd, PyData.canLay0] at c
  | _, _, .exb _ _, c => by simp [D.pd, PyData.canLay0] at c
  | _, _, .exd _ _ _ _ _, c => by simp [D.pd, PyData.canLay0] at c
  | _, _, .exq _, c => by simp [D.pd, PyData.canLay0] at c
  | _, _, .exr _ _ _ _, c => by simp [D.pd, PyData.canLay0] at c
theorem dps_of : ∀ {d : List D} {v : List V}, DRs K ct S H d v → PyData.canLayAll0 (D.pds d) = true → DpAll K H v (D.pds d)
  | _, _, .nil, _ => by simp only [D.pds]; exact .nil
  | _, _, .cons r t, c => by
    simp only [D.pds, PyData.canLayAll0, Bool.and_eq_true] at c ⊢
    exact .cons (dp_of r c.1) (dps_of t c.2)
end
theorem view_dp (h : HR K ct m ah H) {x : Vl} {d : D} {v : V} (e : viewD x ah = some d) (r : VlR K ct m ah H x v) (c : shp d = true) : Dp K H v d.pd := by
  have c' := SeqAt.canLay_of_shaped c
  unfold viewD at e
  split at e
  · cases e; exact dp_of r c'
  · rename_i k
    split at e
    · rename_i xs hk
      cases e
      obtain ⟨a, vs, _, rfl, h1, h2⟩ := h.lstK hk r
      simp only [D.pd, PyData.canLay0] at c' ⊢
      exact .lst (.of h1) (dps_of h2 c')
    · cases e
end

/-! ### the operations -/
def oAdd : Op2 := fun x y h => match x, y with
  | .d (.int i), .d (.int j) => some (.d (.int (i + j)), h)
  | .d (.str a), .d (.str b) => if a.length + b.length ≤ sizeLine then some (.d (.str (a ++ b)), h) else none
  | .d (.tup a), .d (.tup b) => if a.length + b.length ≤ sizeLine then some (.d (.tup (a ++ b)), h) else none
  | x, y => match lstOf x h, lstOf y h with
    | some a, some b => if a.length + b.length ≤ sizeLine then some (.d (.lv (a ++ b)), h) else none
    | _, _ => none
def oI (g : Int → Int → Int) (c : Int → Int → Bool) : Op2 := fun x y h => match x, y with
  | .d (.int i), .d (.int j) => if c i j then some (.d (.int (g i j)), h) else none
  | _, _ => none
def oSub : Op2 := oI (· - ·) fun _ _ => true
def cMulW (i j : Int) : Bool := decide (i.natAbs.log2 + j.natAbs.log2 < 1000000)
def cDivW (_ j : Int) : Bool := decide (0 < j) && decide (j.natAbs.log2 < 9000)
def cPow (i j : Int) : Bool := decide (0 ≤ j) && (decide (j ≤ 1000000) && decide (i.natAbs < 2 ^ 64))
def oMulI : Op2 := oI (· * ·) cMulW
def oMul : Op2 := fun x y h => match x, y with
  | .d (.int i), .d (.int j) => if cMulW i j then some (.d (.int (i * j)), h) else none
  | x, .d (.int k) => (match lstOf x h with
    | some a => if decide (-(2 ^ 63) ≤ k) && (decide (k < 2 ^ 63) && decide (a.length * k.toNat ≤ sizeLine)) then some (.d (.lv (List.replicate k.toNat a).flatten), h) else none
    | none => none)
  | _, _ => none
def oDiv : Op2 := oI (· / ·) cDivW
def oMod : Op2 := oI (· % ·) fun _ j => decide (0 < j)
def oPow : Op2 := oI (fun i j => i ^ j.toNat) cPow
def oAnd : Op2 := oI (fun i j => Builtin.bitAnd i j) fun _ _ => true
def oNeg : Op1 := fun x h => match x with
  | .d (.int i) => some (.d (.int (-i)), h)
  | _ => none
def oB (g : Int → Int → Bool) : Op2 := fun x y h => match x, y with
  | .d (.int i), .d (.int j) => some (.d (.bl (g i j)), h)
  | _, _ => none
def oLtS : Op2 := fun x y h => match x, y with
  | .d (.int i), .d (.int j) => some (.d (.bl (decide (i < j))), h)
  | .d (.str i), .d (.str j) => some (.d (.bl (decide (i.cps.toList < j.cps.toList))), h)
  | _, _ => none
def oLt : Op2 := oB fun i j => decide (i < j)
def oLe : Op2 := oB fun i j => decide (i ≤ j)
def oGt : Op2 := oB fun i j => decide (j < i)
def oGe : Op2 := oB fun i j => decide (j ≤ i)
def deq (a b : D) : Option Bool := if shp a && shp b then some (PyData.eqv a.pd b.pd) else none
def oEq : Op2 := fun x y h => match viewD x h, viewD y h with
  | some a, some b => (deq a b).map fun c => (.d (.bl c), h)
  | _, _ => none
def oNe : Op2 := fun x y h => match viewD x h, viewD y h with
  | some a, some b => (deq a b).map fun c => (.d (.bl (!c)), h)
  | _, _ => none
def isNon (x : Vl) : Bool := match x with
  | .d .non => true
  | _ => false
def oIsN : Op2 := fun x y h => match y with
  | .d .non => some (.d (.bl (isNon x)), h)
  | _ => none
def oNotN : Op2 := fun x y h => match y with
  | .d .non => some (.d (.bl (!isNon x)), h)
  | _ => none
/-- x in y: a list of data, a text -/
def inO (x y : Vl) (h : Hs) : Option Bool := match x, y with
  | .d (.str a), .d (.str b) => some (!(Builtin.Str.occurrences b a 0 b.length 1).isEmpty)
  | x, y => match viewD x h, lstOf y h with
    | some a, some ds => if shp a && shp (.lv ds) then some (ds.any fun z => PyData.eqv z.pd a.pd) else none
    | _, _ => none
def oIn : Op2 := fun x y h => (inO x y h).map fun c => (.d (.bl c), h)
def oNotIn : Op2 := fun x y h => (inO x y h).map fun c => (.d (.bl (!c)), h)
def oIx : Op2 := fun x y h => match x, y with
  | .d (.str z), .d (.int i) => if z.length ≤ sizeLine then (atI z.cps.toList i).map fun c => (.d (.str ⟨#[c]⟩), h) else none
  | x, .d (.int i) => (match seqOf x h with
    | some xs => (atI xs i).map fun d => (.d d, h)
    | none => none)
  | _, _ => none
def truO (x : Vl) (h : Hs) : Option Bool := match x with
  | .d .non => some false
  | .d (.bl b) => some b
  | .d (.int i) => some (i != 0)
  | .d (.str y) => if y.length ≤ sizeLine then some ((y.length : Int) != 0) else none
  | .d (.dk kvs) => some (!kvs.isEmpty)
  | .r k => (match h[k]? with
    | some (.lst xs) => some (!xs.isEmpty)
    | some (.dk kvs) => some (!kvs.isEmpty)
    | _ => none)
  | x => (match seqOf x h with
    | some xs => some (!xs.isEmpty)
    | none => none)
section
variable {X : Cx} {ct : CT}
theorem isEmpty_drs {K : PySem.W.Frag} {S : Addr → Prop} {H : Hp} {d : List D} {v : List V} (r : DRs K ct S H d v) : d.isEmpty = v.isEmpty := by
  cases r <;> rfl
theorem isEmpty_drk {K : PySem.W.Frag} {S : Addr → Prop} {H : Hp} {d : List (Key × D)} {v : List (Key × V)} (r : DRk K ct S H d v) : d.isEmpty = v.isEmpty := by
  cases r <;> rfl
theorem opI_sound {op : Operator} {g : Int → Int → Int} {C : Int → Int → Prop} {c : Int → Int → Bool} (ho : OpR X (binaryOp op) (rI C fun i j => .int (g i j))) (hc : ∀ i j, c i j = true → C i j) : OpR X (binaryOp op) (rOp X.K ct (oI g c)) :=
  OpR.imp ho fun x y H Q ⟨m, ah, a, b, hr, ra, rb, p⟩ => by
    unfold oI at p
    split at p
    · cases ra; cases rb
      split at p
      · rename_i hcc
        exact ⟨_, _, rfl, rfl, hc _ _ hcc, p.same hr (.int _)⟩
      · exact p.elim
    · exact p.elim
theorem op_ofI0 {f : Value → Value → Sem Value} {g : Int → Int → V} (h : OpR X f (rI0 g)) : OpR X f (rI (fun _ _ => True) g) := OpR.imp h fun x y H Q ⟨i, j, e1, e2, _, q⟩ => ⟨i, j, e1, e2, q⟩
theorem sub_sound : OpR X (binaryOp .Sub) (rOp X.K ct oSub) := opI_sound (op_ofI0 op_sub) fun _ _ _ => trivial
theorem mulI_sound : OpR X (binaryOp .Mult) (rOp X.K ct oMulI) := opI_sound op_mulW fun i j h => by unfold cMulW at h; unfold CMulW; exact of_decide_eq_true h
theorem div_sound : OpR X (binaryOp .FloorDiv) (rOp X.K ct oDiv) := opI_sound op_fdivW fun i j h => by unfold cDivW at h; exact ⟨of_decide_eq_true (Bool.and_eq_true_iff.mp h).1, of_decide_eq_true (Bool.and_eq_true_iff.mp h).2⟩
theorem mod_sound : OpR X (binaryOp .Mod) (rOp X.K ct oMod) := opI_sound op_mod fun i j h => by simpa using h
theorem pow_sound : OpR X (binaryOp .Pow) (rOp X.K ct oPow) := opI_sound op_pow fun i j h => by unfold cPow at h; simp only [Bool.and_eq_true, decide_eq_true_eq] at h; exact h
theorem and_sound : OpR X (binaryOp .BitAnd) (rOp X.K ct oAnd) := opI_sound (op_ofI0 op_and) fun _ _ _ => trivial
theorem mul_sound : OpR X (binaryOp .Mult) (rOp X.K ct oMul) := by
  refine OpR.imp (op_mulW.or op_rep) fun x y H Q ⟨m, ah, a, b, hr, ra, rb, p⟩ => ?_
  unfold oMul at p
  split at p
  · cases ra; cases rb
    split at p
    · rename_i hcc
      exact .inl ⟨_, _, rfl, rfl, by unfold cMulW at hcc; unfold CMulW; exact of_decide_eq_true hcc, p.same hr (.int _)⟩
    · exact p.elim
  · cases rb
    split at p
    · rename_i xs e
      obtain ⟨l, vs, rfl, h1, h2⟩ := lst_of hr e ra
      split at p
      · rename_i hc
        simp only [Bool.and_eq_true, decide_eq_true_eq] at hc
        refine .inr ⟨l, _, vs, rfl, rfl, h1, hc.1, hc.2.1, by rw [← h2.length]; exact hc.2.2, p.new hr fun a ha k s => new_lv ?_ k s⟩
        generalize Int.toNat _ = n
        induction n with
        | zero => exact .nil
        | succ n ih =>
          rw [List.replicate_succ, List.replicate_succ, List.flatten_cons, List.flatten_cons]
          exact h2.append ih
      · exact p.elim
    · exact p.elim
  · exact p.elim
theorem neg_sound : UnR X (unaryOp .USub) (rUn X.K ct oNeg) := UnR.imp un_neg fun x H Q ⟨m, ah, a, hr, ra, p⟩ => by
  unfold oNeg at p
  split at p
  · cases ra; exact ⟨_, rfl, p.same hr (.int _)⟩
  · exact p.elim
theorem opB_sound {op : CmpOp} {g : Int → Int → Bool} (ho : OpR X (compareOp op) (rI0 fun i j => .bl (g i j))) : OpR X (compareOp op) (rOp X.K ct (oB g)) :=
  OpR.imp ho fun x y H Q ⟨m, ah, a, b, hr, ra, rb, p⟩ => by
    unfold oB at p
    split at p
    · cases ra; cases rb
      exact ⟨_, _, rfl, rfl, p.same hr (.bl _)⟩
    · exact p.elim
theorem lt_sound : OpR X (compareOp .Lt) (rOp X.K ct oLt) := opB_sound op_lt
theorem le_sound : OpR X (compareOp .LtE) (rOp X.K ct oLe) := opB_sound op_le
theorem gt_sound : OpR X (compareOp .Gt) (rOp X.K ct oGt) := opB_sound op_gt
theorem ge_sound : OpR X (compareOp .GtE) (rOp X.K ct oGe) := opB_sound op_ge
theorem add_sound : OpR X (binaryOp .Add) (rOp X.K ct oAdd) := by
  refine OpR.imp (op_add.or (op_add_str.or (op_catA.or op_cat))) fun x y H Q ⟨m, ah, a, b, hr, ra, rb, p⟩ => ?_
  unfold oAdd at p
  split at p
  · cases ra; cases rb
    exact .inl ⟨_, _, rfl, rfl, p.same hr (.int _)⟩
  · cases ra; cases rb
    split at p
    · rename_i hc
      exact .inr (.inl ⟨_, _, rfl, rfl, hc, p.same hr (.str _)⟩)
    · exact p.elim
  · obtain ⟨l1, v1, rfl, h1, r1⟩ := tup_of ra
    obtain ⟨l2, v2, rfl, h2, r2⟩ := tup_of rb
    split at p
    · rename_i hc
      refine .inr (.inr (.inl ⟨l1, l2, v1, v2, rfl, rfl, h1, h2, by rw [← r1.length, ← r2.length]; exact hc, fun e => ?_, fun e1 e2 => ?_, fun _ _ => p.new hr fun a ha k s => new_tup (r1.append r2) k s⟩))
      · subst e
        cases r1
        exact p.same hr (by simpa using rb)
      · subst e2
        cases r2
        exact p.same hr (by simpa using ra)
    · exact p.elim
  · split at p
    · rename_i _ _ xs ys e1 e2
      obtain ⟨l1, v1, rfl, h1, r1⟩ := lst_of hr e1 ra
      obtain ⟨l2, v2, rfl, h2, r2⟩ := lst_of hr e2 rb
      split at p
      · rename_i hc
        exact .inr (.inr (.inr ⟨l1, l2, v1, v2, rfl, rfl, h1, h2, by rw [← r1.length, ← r2.length]; exact hc, p.new hr fun a ha k s => new_lv (r1.append r2) k s⟩))
      · exact p.elim
    · exact p.elim
theorem eq_sound (hu : X.A.units + 64 < cLine) : OpR X (compareOp .Eq) (rOp X.K ct oEq) := by
  refine OpR.imp (op_eqD hu) fun x y H Q ⟨m, ah, a, b, hr, ra, rb, p⟩ => ?_
  unfold oEq at p
  split at p
  · rename_i d e h1 h2
    unfold deq at p
    by_cases hc : (shp d && shp e) = true
    · rw [if_pos hc] at p
      have hc' := Bool.and_eq_true_iff.mp hc
      exact ⟨d.pd, e.pd, view_dp hr h1 ra hc'.1, view_dp hr h2 rb hc'.2, hc'.1, hc'.2, p.same hr (.bl _)⟩
    · rw [if_neg hc] at p; exact p.elim
  · exact p.elim
theorem ne_sound (hu : X.A.units + 64 < cLine) : OpR X (compareOp .NotEq) (rOp X.K ct oNe) := by
  refine OpR.imp (op_neD hu) fun x y H Q ⟨m, ah, a, b, hr, ra, rb, p⟩ => ?_
  unfold oNe at p
  split at p
  · rename_i d e h1 h2
    unfold deq at p
    by_cases hc : (shp d && shp e) = true
    · rw [if_pos hc] at p
      have hc' := Bool.and_eq_true_iff.mp hc
      exact ⟨d.pd, e.pd, view_dp hr h1 ra hc'.1, view_dp hr h2 rb hc'.2, hc'.1, hc'.2, p.same hr (.bl _)⟩
    · rw [if_neg hc] at p; exact p.elim
  · exact p.elim
theorem isNon_V {K : PySem.W.Frag} {m : List Addr} {ah : Hs} {H : Hp} {x : Vl} {v : V} (r : VlR K ct m ah H x v) : isNon x = decide (v = .non) := by
  cases x with
  | r k => obtain ⟨a, _, rfl⟩ := r; simp [isNon]
  | d x => cases r <;> simp [isNon]
theorem isN_sound : OpR X (compareOp .Is) (rOp X.K ct oIsN) := by
  refine OpR.imp op_isN fun x y H Q ⟨m, ah, a, b, hr, ra, rb, p⟩ => ?_
  unfold oIsN at p
  split at p
  · cases rb
    refine ⟨rfl, ?_⟩
    rw [isNon_V ra] at p
    exact p.same hr (.bl _)
  · exact p.elim
theorem notN_sound : OpR X (compareOp .IsNot) (rOp X.K ct oNotN) := by
  refine OpR.imp op_notN fun x y H Q ⟨m, ah, a, b, hr, ra, rb, p⟩ => ?_
  unfold oNotN at p
  split at p
  · cases rb
    refine ⟨rfl, ?_⟩
    rw [isNon_V ra] at p
    exact p.same hr (.bl _)
  · exact p.elim
theorem any_pds (a : PyData) : ∀ ds : List D, (D.pds ds).any (fun z => PyData.eqv z a) = ds.any fun z => PyData.eqv z.pd a
  | [] => by simp [D.pds]
  | d :: ds => by rw [D.pds, List.any_cons, List.any_cons, any_pds a ds]
theorem in_sound (hu : X.A.units + 65 < cLine) : OpR X (compareOp .In) (rOp X.K ct oIn) := by
  refine OpR.imp (op_in_str.or (op_inD hu)) fun x y H Q ⟨m, ah, a, b, hr, ra, rb, p⟩ => ?_
  unfold oIn inO at p
  split at p
  · cases ra; cases rb
    exact .inl ⟨_, _, rfl, rfl, p.same hr (.bl _)⟩
  · split at p
    · rename_i d ds h1 h2
      by_cases hc : (shp d && shp (.lv ds)) = true
      · rw [if_pos hc] at p
        have hc' := Bool.and_eq_true_iff.mp hc
        obtain ⟨l, vs, rfl, h3, r3⟩ := lst_of hr h2 rb
        have c2 := hc'.2
        unfold shp at c2
        simp only [D.pd] at c2
        have c3 := SeqAt.canLay_of_shaped c2
        simp only [PyData.canLay0] at c3
        refine .inr ⟨d.pd, D.pds ds, view_dp hr h1 ra hc'.1, .lst (.of h3) (dps_of r3 c3), hc'.1, c2, ?_⟩
        rw [any_pds]
        exact p.same hr (.bl _)
      · rw [if_neg hc] at p; exact p.elim
    · exact p.elim
theorem notIn_sound (hu : X.A.units + 65 < cLine) : OpR X (compareOp .NotIn) (rOp X.K ct oNotIn) := by
  refine OpR.imp (op_notIn_str.or (op_notInD hu)) fun x y H Q ⟨m, ah, a, b, hr, ra, rb, p⟩ => ?_
  unfold oNotIn inO at p
  split at p
  · cases ra; cases rb
    exact .inl ⟨_, _, rfl, rfl, p.same hr (.bl _)⟩
  · split at p
    · rename_i d ds h1 h2
      by_cases hc : (shp d && shp (.lv ds)) = true
      · rw [if_pos hc] at p
        have hc' := Bool.and_eq_true_iff.mp hc
        obtain ⟨l, vs, rfl, h3, r3⟩ := lst_of hr h2 rb
        have c2 := hc'.2
        unfold shp at c2
        simp only [D.pd] at c2
        have c3 := SeqAt.canLay_of_shaped c2
        simp only [PyData.canLay0] at c3
        refine .inr ⟨d.pd, D.pds ds, view_dp hr h1 ra hc'.1, .lst (.of h3) (dps_of r3 c3), hc'.1, c2, ?_⟩
        rw [any_pds]
        exact p.same hr (.bl _)
      · rw [if_neg hc] at p; exact p.elim
    · exact p.elim
theorem atI_drs {K : PySem.W.Frag} {S : Addr → Prop} {H : Hp} {d : List D} {v : List V} {i : Int} {x : D} (r : DRs K ct S H d v) (e : atI d i = some x) : ∃ y, atI v i = some y ∧ DR K ct S H x y := by
  unfold atI at e ⊢
  rw [← r.length]
  cases q : ixN d.length i with
  | none => rw [q] at e; cases e
  | some j =>
    rw [q] at e
    exact r.get e
theorem ix_sound : IxR X (rOp X.K ct oIx) := by
  refine IxR.imp ix_seq fun x y H Q ⟨m, ah, a, b, hr, ra, rb, p⟩ => ?_
  unfold oIx at p
  split at p
  · cases ra; cases rb
    split at p
    · rename_i hz
      generalize e : atI _ _ = q at p
      cases q with
      | none => exact p.elim
      | some c => exact .inr (.inr ⟨_, _, c, rfl, rfl, hz, e, p.same hr (.str _)⟩)
    · exact p.elim
  · cases rb
    split at p
    · rename_i xs e
      obtain ⟨l, vs, rfl, h1, r1⟩ := seq_of hr e ra
      generalize q : atI _ _ = z at p
      cases z with
      | none => exact p.elim
      | some d =>
        obtain ⟨y, h2, r2⟩ := atI_drs r1 q
        rcases h1 with h1 | h1
        · exact .inl ⟨l, vs, _, y, rfl, rfl, h1, h2, p.same hr r2⟩
        · exact .inr (.inl ⟨l, vs, _, y, rfl, rfl, h1, h2, p.same hr r2⟩)
    · exact p.elim
  · exact p.elim
/-- the truth of a value -/
theorem tru_of {K : PySem.W.Frag} {m : List Addr} {ah : Hs} {H : Hp} (hr : HR K ct m ah H) {x : Vl} {v : V} {b : Bool} (r : VlR K ct m ah H x v) (e : truO x ah = some b) : TruV K v H b := by
  unfold truO at e
  split at e
  · cases r; cases e; rfl
  · cases r; cases e; rfl
  · cases r; cases e; rfl
  · cases r
    split at e
    · rename_i hl
      cases e; exact ⟨hl, rfl⟩
    · cases e
  · cases e
    cases r with
    | dk h s t => exact .inr (.inr ⟨_, h, by rw [isEmpty_drk t]⟩)
  · rename_i k
    split at e
    · rename_i xs hk
      cases e
      obtain ⟨a, vs, _, rfl, h1, h2⟩ := hr.lstK hk r
      exact .inl ⟨vs, .of h1, by rw [isEmpty_drs h2]⟩
    · rename_i kvs hk
      cases e
      obtain ⟨a, h1, rfl⟩ := r
      obtain ⟨u, h2, h3⟩ := hr.ob k a _ h1 hk
      cases h3 with
      | dk t => exact .inr (.inr ⟨_, h2, by rw [isEmpty_drk t]⟩)
    · cases e
  · split at e
    · rename_i xs hx
      cases e
      obtain ⟨l, vs, rfl, h1, r1⟩ := seq_of hr hx r
      rw [isEmpty_drs r1]
      rcases h1 with h1 | h1
      · exact .inl ⟨vs, h1, rfl⟩
      · exact .inr (.inl ⟨vs, h1, rfl⟩)
    · cases e
end
end Mi

/-! Mi3: tests, argument lists, displays, slices, calls of built-in functions -/
namespace Mi
open PySem PySem.Spec L2

/-! ### tests -/
def tTru (f : SemE) : SemT := fun σ h => rb (f σ h) fun x h1 => match truO x h1 with
  | some b => .ok b h1
  | none => .bad
def tBl (f : SemE) : SemT := fun σ h => rb (f σ h) fun x h1 => match x with
  | .d (.bl b) => .ok b h1
  | _ => .bad
def tAn (f g : SemT) : SemT := fun σ h => rb (f σ h) fun b h1 => if b = true then g σ h1 else .ok false h1
def tOr' (f g : SemT) : SemT := fun σ h => rb (f σ h) fun b h1 => if b = true then .ok true h1 else g σ h1
def tNo (f : SemT) : SemT := fun σ h => rb (f σ h) fun b h1 => .ok (!b) h1
def eChain (o o' : Op2) (f g k : SemE) : SemE := fun σ h => rb (f σ h) fun x h1 => rb (g σ h1) fun y h2 => rb (ro (o x y h2)) fun z h3 => match z with
  | .d (.bl b) => if b = true then rb (k σ h3) fun w h4 => ro (o' y w h4) else .ok (.d (.bl false)) h3
  | _ => .bad
def eIf (t : SemT) (f g : SemE) : SemE := fun σ h => rb (t σ h) fun b h1 => if b = true then f σ h1 else g σ h1
def eAn (f g : SemE) : SemE := fun σ h => rb (f σ h) fun x h1 => match truO x h1 with
  | some b => if b = true then g σ h1 else .ok x h1
  | none => .bad
def eOr (f g : SemE) : SemE := fun σ h => rb (f σ h) fun x h1 => match truO x h1 with
  | some b => if b = true then .ok x h1 else g σ h1
  | none => .bad
def eNo (f : SemE) : SemE := fun σ h => rb (f σ h) fun x h1 => match truO x h1 with
  | some b => .ok (.d (.bl (!b))) h1
  | none => .bad
abbrev SW (X : Cx) (ct : CT) (W : WX) (e : Expr) (f : SemT) : Prop := PW X e (rdT X.K ct W f)
/-- the bool behind a value -/
theorem bl_of {K : PySem.W.Frag} {ct : CT} {m : List Addr} {ah : Hs} {H : Hp} {b : Bool} {v : V} (r : VlR K ct m ah H (.d (.bl b)) v) : v = .bl b := by
  cases r; rfl
section
variable {X : Cx} {ct : CT} {W : WX} {pos : Pos} {a b c : Expr} {f g k : SemE} {t u : SemT} {rest : List Expr}
theorem st_truth (ha : SE X ct W a f) (he : ∀ whole, isTrue a X.env whole = (do let v ← whole; standAt a.pos; holding [v] (truthy v)) := by intro _; rfl) : ST X ct W a (tTru f) :=
  PT.imp (pt_truth ha he) fun σV H Q ⟨m, ah, σ, hr, lr, p⟩ => ⟨m, ah, σ, hr, lr, (Po.bind (R := VlR X.K ct) p).imp fun v H1 ⟨m1, h1, x, hr1, e1, r1, p1⟩ => by
    dsimp only at p1
    cases e : truO x h1 with
    | none => rw [e] at p1; exact p1.elim
    | some k => rw [e] at p1; exact ⟨k, tru_of hr1 r1 e, p1 m1 H1 k hr1 (Ext.refl _ _ _) rfl⟩⟩
theorem tB_of {f : SemE} {σV : L2.St} {H : Hp} {Q : Bool → Hp → Prop} (h : rdT X.K ct W (tBl f) σV H Q) : rdE X.K ct W f σV H fun x H' => ∃ k, x = .bl k ∧ Q k H' := by
  obtain ⟨m, ah, σ, hr, lr, p⟩ := h
  refine ⟨m, ah, σ, hr, lr, (Po.bind (R := VlR X.K ct) p).imp fun v H1 ⟨m1, h1, x, hr1, e1, r1, p1⟩ => ?_⟩
  dsimp only at p1
  split at p1
  · rename_i b
    exact ⟨b, bl_of r1, p1 m1 H1 b hr1 (Ext.refl _ _ _) rfl⟩
  · exact p1.elim
theorem st_val (ha : SE X ct W a f) (he : ∀ whole, isTrue a X.env whole = (do let v ← whole; standAt a.pos; holding [v] (truthy v)) := by intro _; rfl) : ST X ct W a (tBl f) :=
  PT.imp (pt_val ha he) fun σV H Q h => tB_of h
theorem st_cmp {op : CmpOp} {o : Op2} (ho : OpR X (compareOp op) (rOp X.K ct o)) (ha : SE X ct W a f) (hb : SE X ct W b g) (hm : behindInMarks op b = false := by first | exact nomark _ | rfl | with_unfolding_all rfl) : ST X ct W (.Compare a [op] [b] pos) (tBl (eBin o f g)) :=
  PT.imp (pt_cmpR ho ha hb hm) fun σV H Q h => rd_bin (tB_of h)
theorem rd_chain {o o' : Op2} {σV : L2.St} {H : Hp} {Q : VK} (h : rdE X.K ct W (eChain o o' f g k) σV H Q) : tChain (rOp X.K ct o) (rOp X.K ct o') (rdE X.K ct W f) (rdE X.K ct W g) (rdE X.K ct W k) σV H Q := by
  obtain ⟨m, ah, σ, hr, lr, p⟩ := h
  refine ⟨m, ah, σ, hr, lr, (Po.bind (R := VlR X.K ct) p).imp fun v H1 ⟨m1, h1, x, hr1, e1, r1, p1⟩ => ?_⟩
  refine ⟨m1, h1, σ, hr1, lr.ext e1, (Po.bind (R := VlR X.K ct) p1).imp fun y H2 ⟨m2, h2, y', hr2, e2, r2, p2⟩ => ?_⟩
  refine ⟨m2, h2, x, y', hr2, r1.ext e2, r2, Pp.of (W := W) (σV := σV) ((Po.bind (R := VlR X.K ct) p2).imp fun z H3 ⟨m3, h3, z', hr3, e3, r3, p3⟩ => ?_)⟩
  dsimp only at p3
  split at p3
  · rename_i b
    refine ⟨b, bl_of r3, ?_⟩
    cases b with
    | false => exact p3 m3 H3 (.bl false) hr3 (Ext.refl _ _ _) (.bl false)
    | true =>
      refine ⟨m3, h3, σ, hr3, ((lr.ext e1).ext e2).ext e3, (Po.bind (R := VlR X.K ct) p3).imp fun w H4 ⟨m4, h4, w', hr4, e4, r4, p4⟩ => ?_⟩
      exact ⟨m4, h4, y', w', hr4, (r2.ext e3).ext e4, r4, Pp.of p4⟩
  · exact p3.elim
theorem se_chain {op op' : CmpOp} {o o' : Op2} (ho : OpR X (compareOp op) (rOp X.K ct o)) (ho' : OpR X (compareOp op') (rOp X.K ct o')) (ha : SE X ct W a f) (hb : SE X ct W b g) (hc : SE X ct W c k)
    (hm : lastMarks [op, op'] [b, c] = false := by with_unfolding_all rfl) : SE X ct W (.Compare a [op, op'] [b, c] pos) (eChain o o' f g k) := PE.imp (pe_chain ho ho' ha hb hc hm) fun _ _ _ h => rd_chain h
theorem st_chain {op op' : CmpOp} {o o' : Op2} (ho : OpR X (compareOp op) (rOp X.K ct o)) (ho' : OpR X (compareOp op') (rOp X.K ct o')) (ha : SE X ct W a f) (hb : SE X ct W b g) (hc : SE X ct W c k)
    (hm : lastMarks [op, op'] [b, c] = false := by with_unfolding_all rfl) : ST X ct W (.Compare a [op, op'] [b, c] pos) (tBl (eChain o o' f g k)) := PT.imp (pt_chain ho ho' ha hb hc hm) fun _ _ _ h => rd_chain (tB_of h)
theorem sw_and1 (ha : ST X ct W a t) : SW X ct W (.BoolOp .And [a] pos) t := pw_and1 ha
theorem sw_or1 (ha : ST X ct W a t) : SW X ct W (.BoolOp .Or [a] pos) t := pw_or1 ha
theorem sw_and (ha : ST X ct W a t) (hb : SW X ct W (.BoolOp .And (b :: rest) pos) u) : SW X ct W (.BoolOp .And (a :: b :: rest) pos) (tAn t u) :=
  PW.imp (pw_and ha hb) fun σV H Q ⟨m, ah, σ, hr, lr, p⟩ => ⟨m, ah, σ, hr, lr, (Po.bind (R := fun _ _ _ b c => b = c) p).imp fun v H1 ⟨m1, h1, x, hr1, e1, r1, p1⟩ => by
    subst r1
    dsimp only at p1
    cases x with
    | true => exact ⟨m1, h1, σ, hr1, lr.ext e1, p1⟩
    | false => exact p1 m1 H1 false hr1 (Ext.refl _ _ _) rfl⟩
theorem sw_or (ha : ST X ct W a t) (hb : SW X ct W (.BoolOp .Or (b :: rest) pos) u) : SW X ct W (.BoolOp .Or (a :: b :: rest) pos) (tOr' t u) :=
  PW.imp (pw_or ha hb) fun σV H Q ⟨m, ah, σ, hr, lr, p⟩ => ⟨m, ah, σ, hr, lr, (Po.bind (R := fun _ _ _ b c => b = c) p).imp fun v H1 ⟨m1, h1, x, hr1, e1, r1, p1⟩ => by
    subst r1
    dsimp only at p1
    cases x with
    | false => exact ⟨m1, h1, σ, hr1, lr.ext e1, p1⟩
    | true => exact p1 m1 H1 true hr1 (Ext.refl _ _ _) rfl⟩
theorem st_bool (h : SW X ct W a t) : ST X ct W a t := PW.pt h
theorem st_not (ha : ST X ct W a t) : ST X ct W (.UnaryOp .Not a pos) (tNo t) :=
  PT.imp (pt_not ha) fun σV H Q ⟨m, ah, σ, hr, lr, p⟩ => ⟨m, ah, σ, hr, lr, (Po.bind (R := fun _ _ _ b c => b = c) p).imp fun v H1 ⟨m1, h1, x, hr1, e1, r1, p1⟩ => by
    subst r1
    exact p1 m1 H1 _ hr1 (Ext.refl _ _ _) rfl⟩
theorem se_if (hc : ST X ct W c t) (ha : SE X ct W a f) (hb : SE X ct W b g) : SE X ct W (.IfExp c a b pos) (eIf t f g) :=
  PE.imp (pe_ifExp hc ha hb) fun σV H Q ⟨m, ah, σ, hr, lr, p⟩ => ⟨m, ah, σ, hr, lr, (Po.bind (R := fun _ _ _ b c => b = c) p).imp fun v H1 ⟨m1, h1, x, hr1, e1, r1, p1⟩ => by
    subst r1
    dsimp only at p1
    cases x with
    | true => exact ⟨m1, h1, σ, hr1, lr.ext e1, p1⟩
    | false => exact ⟨m1, h1, σ, hr1, lr.ext e1, p1⟩⟩
theorem se_one {op} (ha : SE X ct W a f) : SE X ct W (.BoolOp op [a] pos) f := pe_one ha
theorem se_and (ha : SE X ct W a f) (hb : SE X ct W (.BoolOp .And (b :: rest) pos) g) : SE X ct W (.BoolOp .And (a :: b :: rest) pos) (eAn f g) :=
  PE.imp (pe_andT ha hb) fun σV H Q ⟨m, ah, σ, hr, lr, p⟩ => ⟨m, ah, σ, hr, lr, (Po.bind (R := VlR X.K ct) p).imp fun v H1 ⟨m1, h1, x, hr1, e1, r1, p1⟩ => by
    dsimp only at p1
    cases e : truO x h1 with
    | none => rw [e] at p1; exact p1.elim
    | some k =>
      rw [e] at p1
      refine ⟨k, tru_of hr1 r1 e, ?_⟩
      cases k with
      | true => exact ⟨m1, h1, σ, hr1, lr.ext e1, p1⟩
      | false => exact p1 m1 H1 v hr1 (Ext.refl _ _ _) r1⟩
theorem se_or (ha : SE X ct W a f) (hb : SE X ct W (.BoolOp .Or (b :: rest) pos) g) : SE X ct W (.BoolOp .Or (a :: b :: rest) pos) (eOr f g) :=
  PE.imp (pe_orT ha hb) fun σV H Q ⟨m, ah, σ, hr, lr, p⟩ => ⟨m, ah, σ, hr, lr, (Po.bind (R := VlR X.K ct) p).imp fun v H1 ⟨m1, h1, x, hr1, e1, r1, p1⟩ => by
    dsimp only at p1
    cases e : truO x h1 with
    | none => rw [e] at p1; exact p1.elim
    | some k =>
      rw [e] at p1
      refine ⟨k, tru_of hr1 r1 e, ?_⟩
      cases k with
      | false => exact ⟨m1, h1, σ, hr1, lr.ext e1, p1⟩
      | true => exact p1 m1 H1 v hr1 (Ext.refl _ _ _) r1⟩
theorem se_not (ha : SE X ct W a f) : SE X ct W (.UnaryOp .Not a pos) (eNo f) :=
  PE.imp (pe_notT ha) fun σV H Q ⟨m, ah, σ, hr, lr, p⟩ => ⟨m, ah, σ, hr, lr, (Po.bind (R := VlR X.K ct) p).imp fun v H1 ⟨m1, h1, x, hr1, e1, r1, p1⟩ => by
    dsimp only at p1
    cases e : truO x h1 with
    | none => rw [e] at p1; exact p1.elim
    | some k =>
      rw [e] at p1
      exact ⟨k, tru_of hr1 r1 e, p1 m1 H1 _ hr1 (Ext.refl _ _ _) (.bl _)⟩⟩
end

/-! ### argument lists -/
def aNil : SemA := fun _ h => .ok [] h
def aCons (f : SemE) (g : SemA) : SemA := fun σ h => rb (f σ h) fun x h1 => rb (g σ h1) fun xs h2 => .ok (x :: xs) h2
section
variable {X : Cx} {ct : CT} {W : WX} {pos : Pos} {e : Expr} {es : List Expr} {f : SemE} {fs : SemA}
theorem sa_nil : SA X ct W [] aNil := PA.imp pa_nil fun σV H Q ⟨m, ah, σ, hr, lr, p⟩ => p m H [] hr (Ext.refl _ _ _) .nil
theorem sa_cons (ha : SE X ct W e f) (hb : SA X ct W es fs) (hs : starEach (e :: es) X.env = (false, eval e X.env) :: starEach es X.env := by rfl) : SA X ct W (e :: es) (aCons f fs) :=
  PA.imp (pa_cons ha hb hs) fun σV H Q ⟨m, ah, σ, hr, lr, p⟩ => ⟨m, ah, σ, hr, lr, (Po.bind (R := VlR X.K ct) p).imp fun v H1 ⟨m1, h1, x, hr1, e1, r1, p1⟩ =>
    ⟨m1, h1, σ, hr1, lr.ext e1, (Po.bind (R := VlRs X.K ct) p1).imp fun vs H2 ⟨m2, h2, xs, hr2, e2, r2, p2⟩ => p2 m2 H2 (v :: vs) hr2 (Ext.refl _ _ _) (.cons (r1.ext e2) r2)⟩⟩
end

/-! ### values become data -/
def toD (x : Vl) (h : Hs) : Option (D × Hs) := match x with
  | .d d => some (d, h)
  | .r k => (match h[k]? with
    | some (.lst xs) => some (.lv xs, h.set k .dead)
    | some (.dk xs) => some (.dk xs, h.set k .dead)
    | some (.dt xs) => some (.dt xs, h.set k .dead)
    | some (.ins C fs) => some (.ins C fs, h.set k .dead)
    | _ => none)
def toDs : List Vl → Hs → Option (List D × Hs)
  | [], h => some ([], h)
  | x :: xs, h => (toD x h).bind fun p => (toDs xs p.2).map fun q => (p.1 :: q.1, q.2)
section
variable {K : PySem.W.Frag} {ct : CT} {m : List Addr} {ah : Hs} {H : Hp}
theorem toD_sound (h : HR K ct m ah H) {x : Vl} {d : D} {ah' : Hs} {v : V} (e : toD x ah = some (d, ah')) (r : VlR K ct m ah H x v) : HR K ct m ah' H ∧ Ext m ah H m ah' H ∧ DR K ct (Sf m ah') H d v := by
  unfold toD at e
  split at e
  · cases e
    exact ⟨h, Ext.refl _ _ _, r⟩
  · rename_i k
    obtain ⟨a, h1, rfl⟩ := r
    obtain ⟨hr2, ex, s⟩ := h.freeze h1
    split at e
    · rename_i xs hk
      cases e
      obtain ⟨u, h2, h3⟩ := h.ob k a _ h1 hk
      cases h3 with
      | lst t => exact ⟨hr2, ex, .lv h2 s (t.mono ex.kp)⟩
    · rename_i xs hk
      cases e
      obtain ⟨u, h2, h3⟩ := h.ob k a _ h1 hk
      cases h3 with
      | dk t => exact ⟨hr2, ex, .dk h2 s (t.mono ex.kp)⟩
    · rename_i xs hk
      cases e
      obtain ⟨u, h2, h3⟩ := h.ob k a _ h1 hk
      cases h3 with
      | dt t => exact ⟨hr2, ex, .dt h2 s (t.mono ex.kp)⟩
    · rename_i C fs hk
      cases e
      obtain ⟨u, h2, h3⟩ := h.ob k a _ h1 hk
      cases h3 with
      | ins t => exact ⟨hr2, ex, .ins h2 s (t.mono ex.kp)⟩
    · cases e
theorem toDs_sound : ∀ {xs : List Vl} {ah : Hs} {ds : List D} {ah' : Hs} {vs : List V}, HR K ct m ah H → toDs xs ah = some (ds, ah') → VlRs K ct m ah H xs vs → HR K ct m ah' H ∧ Ext m ah H m ah' H ∧ DRs K ct (Sf m ah') H ds vs
  | [], ah, ds, ah', vs, h, e, r => by
    cases e
    cases r
    exact ⟨h, Ext.refl _ _ _, .nil⟩
  | x :: xs, ah, ds, ah', vs, h, e, r => by
    cases r with
    | cons r1 r2 =>
      unfold toDs at e
      cases e1 : toD x ah with
      | none => rw [e1] at e; cases e
      | some p =>
        obtain ⟨d, h1⟩ := p
        rw [e1] at e
        obtain ⟨hr1, ex1, t1⟩ := toD_sound h e1 r1
        cases e2 : toDs xs h1 with
        | none => rw [show ((some (d, h1)).bind fun p => (toDs xs p.2).map fun q => (p.1 :: q.1, q.2)) = ((toDs xs h1).map fun q => (d :: q.1, q.2)) from rfl, e2] at e; cases e
        | some q =>
          obtain ⟨qs, h2⟩ := q
          rw [show ((some (d, h1)).bind fun p => (toDs xs p.2).map fun q => (p.1 :: q.1, q.2)) = ((toDs xs h1).map fun q => (d :: q.1, q.2)) from rfl, e2] at e
          cases e
          obtain ⟨hr2, ex2, t2⟩ := toDs_sound hr1 e2 (r2.ext ex1)
          exact ⟨hr2, ex1.trans ex2, .cons (t1.mono ex2.kp) t2⟩
end
def eTup (fs : SemA) : SemE := fun σ h => rb (fs σ h) fun xs h1 => match toDs xs h1 with
  | some (ds, h2) => if ds.length ≤ 1000 then .ok (.d (.tup ds)) h2 else .bad
  | none => .bad
/-- a list that is never changed -/
def eLv (fs : SemA) : SemE := fun σ h => rb (fs σ h) fun xs h1 => match toDs xs h1 with
  | some (ds, h2) => if ds.length ≤ 1000 then .ok (.d (.lv ds)) h2 else .bad
  | none => .bad
/-- a list that may be changed -/
def eLst (fs : SemA) : SemE := fun σ h => rb (fs σ h) fun xs h1 => match toDs xs h1 with
  | some (ds, h2) => if ds.length ≤ 1000 then .ok (.r h2.length) (h2 ++ [.lst ds]) else .bad
  | none => .bad
def eDk0 : SemE := fun _ h => .ok (.r h.length) (h ++ [.dk []])
def eDt0 : SemE := fun _ h => .ok (.r h.length) (h ++ [.dt []])
section
variable {X : Cx} {ct : CT} {W : WX} {pos : Pos} {e : Expr} {es : List Expr} {f : SemE} {fs : SemA}
theorem le1000 {n : Nat} (h : n ≤ 1000) : n ≤ sizeLine := Nat.le_of_lt (small1000 h)
theorem se_tup {x1} (ha : SA X ct W es fs) : SE X ct W (.Tuple es x1 pos) (eTup fs) :=
  PE.imp (pe_tup ha) fun σV H Q ⟨m, ah, σ, hr, lr, p⟩ => ⟨m, ah, σ, hr, lr, (Po.bind (R := VlRs X.K ct) p).imp fun vs H1 ⟨m1, h1, xs, hr1, e1, r1, p1⟩ => by
    dsimp only at p1
    split at p1
    · rename_i ds h2 e2
      obtain ⟨hr2, ex2, t2⟩ := toDs_sound hr1 e2 r1
      split at p1
      · rename_i hl
        refine ⟨by rw [← t2.length]; exact le1000 hl, fun a ha => p1 m1 _ _ (hr2.pure (o := .tup vs) ha).1 (ex2.trans (hr2.pure (o := .tup vs) ha).2.1) (new_tup t2 (hr2.pure (o := .tup vs) ha).2.1.kp (hr2.freshS ha))⟩
      · exact p1.elim
    · exact p1.elim⟩
theorem se_lv (ha : SA X ct W es fs) : SE X ct W (.List es pos) (eLv fs) :=
  PE.imp (pe_lst ha) fun σV H Q ⟨m, ah, σ, hr, lr, p⟩ => ⟨m, ah, σ, hr, lr, (Po.bind (R := VlRs X.K ct) p).imp fun vs H1 ⟨m1, h1, xs, hr1, e1, r1, p1⟩ => by
    dsimp only at p1
    split at p1
    · rename_i ds h2 e2
      obtain ⟨hr2, ex2, t2⟩ := toDs_sound hr1 e2 r1
      split at p1
      · rename_i hl
        refine ⟨by rw [← t2.length]; exact le1000 hl, fun a ha => p1 m1 _ _ (hr2.pure (o := .lst vs) ha).1 (ex2.trans (hr2.pure (o := .lst vs) ha).2.1) (new_lv t2 (hr2.pure (o := .lst vs) ha).2.1.kp (hr2.freshS ha))⟩
      · exact p1.elim
    · exact p1.elim⟩
theorem at_new {K : PySem.W.Frag} {m : List Addr} {ah : Hs} {H : Hp} (h : HR K ct m ah H) {a : Addr} : (m ++ [a])[ah.length]? = some a := by
  rw [← h.len, List.getElem?_append_right (Nat.le_refl _), Nat.sub_self]; rfl
theorem se_lst (ha : SA X ct W es fs) : SE X ct W (.List es pos) (eLst fs) :=
  PE.imp (pe_lst ha) fun σV H Q ⟨m, ah, σ, hr, lr, p⟩ => ⟨m, ah, σ, hr, lr, (Po.bind (R := VlRs X.K ct) p).imp fun vs H1 ⟨m1, h1, xs, hr1, e1, r1, p1⟩ => by
    dsimp only at p1
    split at p1
    · rename_i ds h2 e2
      obtain ⟨hr2, ex2, t2⟩ := toDs_sound hr1 e2 r1
      split at p1
      · rename_i hl
        refine ⟨by rw [← t2.length]; exact le1000 hl, fun a ha => ?_⟩
        obtain ⟨hr3, ex3⟩ := hr2.alloc ha (OR.lst t2)
        exact p1 _ _ _ hr3 (ex2.trans ex3) ⟨a, at_new hr2, rfl⟩
      · exact p1.elim
    · exact p1.elim⟩
theorem se_dk0 : SE X ct W (.Dict [] [] pos) eDk0 :=
  PE.imp pe_dnewK fun σV H Q ⟨m, ah, σ, hr, lr, p⟩ a ha => by
    obtain ⟨hr3, ex3⟩ := hr.alloc ha (OR.dk (ct := ct) .nil)
    exact p _ _ _ hr3 ex3 ⟨a, at_new hr, rfl⟩
theorem se_dt0 : SE X ct W (.Dict [] [] pos) eDt0 :=
  PE.imp pe_dnewT fun σV H Q ⟨m, ah, σ, hr, lr, p⟩ a ha => by
    obtain ⟨hr3, ex3⟩ := hr.alloc ha (OR.dt (ct := ct) .nil)
    exact p _ _ _ hr3 ex3 ⟨a, at_new hr, rfl⟩
end

/-! ### slices -/
abbrev SemO := Lo → Hs → Res (Option Int)
def rdO (K : PySem.W.Frag) (ct : CT) (W : WX) (f : SemO) : TO := fun σV H Q => ∃ m ah σ, HR K ct m ah H ∧ LR K ct m ah H σ σV ∧ Po K ct W σV (fun _ _ _ b c => b = c) m ah H (f σ ah) Q
theorem PO.imp {X : Cx} {e : Option Expr} {t t' : TO} (h : PO X e t) (i : ∀ σ H Q, t' σ H Q → t σ H Q) : PO X e t' := ⟨fun pins s σ H Q I q => h.run pins s σ H Q I (i _ _ _ q)⟩
abbrev SO (X : Cx) (ct : CT) (W : WX) (e : Option Expr) (f : SemO) : Prop := PO X e (rdO X.K ct W f)
def oNone : SemO := fun _ h => .ok none h
def oSome (f : SemE) : SemO := fun σ h => rb (f σ h) fun x h1 => match x with
  | .d (.int i) => .ok (some i) h1
  | _ => .bad
def cutL {α : Type} (xs : List α) (lo hi : Option Int) : List α := (xs.drop (HT.sIx xs.length 0 lo)).take (HT.sIx xs.length xs.length hi - HT.sIx xs.length 0 lo)
def slO (x : Vl) (lo hi : Option Int) (h : Hs) : Option (Vl × Hs) := match x with
  | .d (.tup xs) => some (.d (.tup (cutL xs lo hi)), h)
  | .d (.str z) => if z.length ≤ sizeLine then some (.d (.str (Txt.slice z lo hi)), h) else none
  | x => (match lstOf x h with
    | some xs => some (.d (.lv (cutL xs lo hi)), h)
    | none => none)
def eSl (f : SemE) (lo hi : SemO) : SemE := fun σ h => rb (f σ h) fun x h1 => rb (lo σ h1) fun a h2 => rb (hi σ h2) fun b h3 => ro (slO x a b h3)
section
variable {X : Cx} {ct : CT} {W : WX} {pos p2 : Pos} {e : Expr} {lo hi : Option Expr} {f : SemE} {l u : SemO}
theorem so_none : SO X ct W none oNone := PO.imp po_none fun σV H Q ⟨m, ah, σ, hr, lr, p⟩ => p m H none hr (Ext.refl _ _ _) rfl
theorem so_some (h : SE X ct W e f) : SO X ct W (some e) (oSome f) := PO.imp (po_some h) fun σV H Q ⟨m, ah, σ, hr, lr, p⟩ => ⟨m, ah, σ, hr, lr, (Po.bind (R := VlR X.K ct) p).imp fun v H1 ⟨m1, h1, x, hr1, e1, r1, p1⟩ => by
  dsimp only at p1
  split at p1
  · cases r1
    exact ⟨_, rfl, p1 m1 H1 _ hr1 (Ext.refl _ _ _) rfl⟩
  · exact p1.elim⟩
theorem cut_drs {K : PySem.W.Frag} {S : Addr → Prop} {H : Hp} {d : List D} {v : List V} (r : DRs K ct S H d v) (lo hi : Option Int) : DRs K ct S H (cutL d lo hi) (cutV v lo hi) := by
  unfold cutL cutV
  rw [r.length]
  exact (r.drop _).take _
theorem cut_whole {α : Type} {xs : List α} {lo hi : Option Int} (h : HT.sIx xs.length 0 lo = 0 ∧ HT.sIx xs.length xs.length hi = xs.length) : cutL xs lo hi = xs := by
  unfold cutL
  rw [h.1, h.2]; simp
def rSlO (K : PySem.W.Frag) (ct : CT) : V → Option Int → Option Int → Hp → VK → Prop := fun x lo hi H Q => ∃ m ah a, HR K ct m ah H ∧ VlR K ct m ah H a x ∧ Pp K ct m ah H (slO a lo hi ah) Q
theorem sl_sound : SlR X (rSlO X.K ct) := by
  refine SlR.imp (sl_tupA.or (SlR.or C8.sl_txt sl_list)) fun x lo hi H Q ⟨m, ah, a, hr, ra, p⟩ => ?_
  unfold slO at p
  split at p
  · obtain ⟨l, vs, rfl, h1, r1⟩ := tup_of ra
    refine .inl ⟨l, vs, rfl, h1, fun hw => ?_, fun hw => p.new hr fun a ha k s => new_tup (cut_drs r1 _ _) k s⟩
    rw [← r1.length] at hw
    rw [cut_whole hw] at p
    exact p.same hr ra
  · cases ra
    split at p
    · rename_i hz
      exact .inr (.inl ⟨_, rfl, hz, p.same hr (.str _)⟩)
    · exact p.elim
  · split at p
    · rename_i xs e
      obtain ⟨l, vs, rfl, h1, r1⟩ := lst_of hr e ra
      exact .inr (.inr ⟨l, vs, rfl, .of h1, p.new hr fun a ha k s => new_lv (cut_drs r1 _ _) k s⟩)
    · exact p.elim
theorem se_slice (he : SE X ct W e f) (hl : SO X ct W lo l) (hh : SO X ct W hi u) : SE X ct W (.Subscript e (.Slice lo hi none p2) pos) (eSl f l u) :=
  PE.imp (pe_slice sl_sound he hl hh) fun σV H Q ⟨m, ah, σ, hr, lr, p⟩ => ⟨m, ah, σ, hr, lr, (Po.bind (R := VlR X.K ct) p).imp fun v H1 ⟨m1, h1, x, hr1, e1, r1, p1⟩ =>
    ⟨m1, h1, σ, hr1, lr.ext e1, (Po.bind (R := fun _ _ _ b c => b = c) p1).imp fun y H2 ⟨m2, h2, y', hr2, e2, r2, p2⟩ =>
      ⟨m2, h2, σ, hr2, (lr.ext e1).ext e2, (Po.bind (R := fun _ _ _ b c => b = c) p2).imp fun z H3 ⟨m3, h3, z', hr3, e3, r3, p3⟩ => by
        subst r2 r3
        exact ⟨m3, h3, x, hr3, (r1.ext e2).ext e3, Pp.of p3⟩⟩⟩⟩
end

/-! ### calls of what is built in -/
abbrev OpN := List Vl → Hs → Option (Vl × Hs)
def rN (K : PySem.W.Frag) (ct : CT) (op : OpN) : List V → Hp → VK → Prop := fun vs H Q => ∃ m ah xs, HR K ct m ah H ∧ VlRs K ct m ah H xs vs ∧ Pp K ct m ah H (op xs ah) Q
def eN (op : OpN) (fs : SemA) : SemE := fun σ h => rb (fs σ h) fun xs h1 => ro (op xs h1)
section
variable {X : Cx} {ct : CT} {W : WX} {pos p : Pos} {e : Expr} {es : List Expr} {fs : SemA} {op : OpN} {x : Str} {id T : String}
theorem rd_n {σV : L2.St} {H : Hp} {Q : VK} (h : rdE X.K ct W (eN op fs) σV H Q) : tCB (rN X.K ct op) (rdA X.K ct W fs) σV H Q := by
  obtain ⟨m, ah, σ, hr, lr, p⟩ := h
  refine ⟨m, ah, σ, hr, lr, (Po.bind (R := VlRs X.K ct) p).imp fun vs H1 ⟨m1, h1, xs, hr1, e1, r1, p1⟩ => ?_⟩
  exact ⟨m1, h1, xs, hr1, r1, Pp.of p1⟩
theorem se_callB (hc : CallR X (.builtin id) (rN X.K ct op)) (hg : Gl X x) (hm : X.mg x = none) (hv : bootBuiltins x = some (.builtin id)) (ha : SA X ct W (e :: es) fs) (hn : x ≠ "__name__" := by decide) (hdb : (x == ("__debug__" : Str)) = false := by decide)
    (he : starEach (e :: es) X.env = (false, eval e X.env) :: starEach es X.env := by rfl) (hpl : (backTo pos (starEach es X.env)).any (·.1) = false := by rfl) : SE X ct W (.Call (.Name x p) (e :: es) [] pos) (eN op fs) := PE.imp (pe_callB hc hg hm hv ha hn hdb he hpl) fun _ _ _ h => rd_n h
theorem se_callTy (hc : CallR X (.type T) (rN X.K ct op)) (hg : Gl X x) (hm : X.mg x = none) (hv : bootBuiltins x = some (.type T)) (ha : SA X ct W (e :: es) fs) (hn : x ≠ "__name__" := by decide) (hdb : (x == ("__debug__" : Str)) = false := by decide)
    (he : starEach (e :: es) X.env = (false, eval e X.env) :: starEach es X.env := by rfl) (hpl : (backTo pos (starEach es X.env)).any (·.1) = false := by rfl) : SE X ct W (.Call (.Name x p) (e :: es) [] pos) (eN op fs) := PE.imp (pe_callTy hc hg hm hv ha hn hdb he hpl) fun _ _ _ h => rd_n h
def nLen : OpN := fun xs h => match xs with
  | [.d (.str y)] => if y.length ≤ sizeLine then some (.d (.int y.length), h) else none
  | [x] => (match seqOf x h with
    | some ys => some (.d (.int ys.length), h)
    | none => none)
  | _ => none
theorem len_sound : CallR X (.builtin "len") (rN X.K ct nLen) := by
  refine CallR.imp call_len fun vs H Q ⟨m, ah, xs, hr, rs, p⟩ => ?_
  unfold nLen at p
  split at p
  · cases rs with
    | cons r t =>
      cases t
      cases r
      split at p
      · rename_i hl
        exact ⟨_, _, rfl, ⟨hl, rfl⟩, p.same hr (.int _)⟩
      · exact p.elim
  · cases rs with
    | cons r t =>
      cases t
      split at p
      · rename_i ys e
        obtain ⟨l, ws, rfl, h1, r1⟩ := seq_of hr e r
        refine ⟨_, _, rfl, h1.imp (fun z => ⟨ws, z, rfl⟩) (fun z => ⟨ws, z, rfl⟩), ?_⟩
        rw [← r1.length]
        exact p.same hr (.int _)
      · exact p.elim
  · exact p.elim
/-- list(x) that is never changed, that may be changed -/
def nListV : OpN := fun xs h => match xs with
  | [x] => (match seqOf x h with
    | some ys => some (.d (.lv ys), h)
    | none => (match x with
      | .d (.scr ys) => some (.d (.lv ys), h)
      | _ => none))
  | _ => none
def nListM : OpN := fun xs h => match xs with
  | [x] => (match seqOf x h with
    | some ys => some (.r h.length, h ++ [.lst ys])
    | none => none)
  | _ => none
theorem listV_sound : CallR X (.type "list") (rN X.K ct nListV) := by
  refine CallR.imp call_list_of fun vs H Q ⟨m, ah, xs, hr, rs, p⟩ => ?_
  unfold nListV at p
  split at p
  · cases rs with
    | cons r t =>
      cases t
      split at p
      · rename_i ys e
        obtain ⟨l, ws, rfl, h1, r1⟩ := seq_of hr e r
        exact ⟨l, ws, rfl, h1, p.new hr fun a ha k s => new_lv r1 k s⟩
      · split at p
        · cases r with
          | scr h1 r1 => exact ⟨_, _, rfl, .inl (h1.imp (fun ⟨⟨o, h⟩, _⟩ => .inr ⟨o, h⟩) id), p.new hr fun a ha k s => new_lv r1 k s⟩
        · exact p.elim
  · exact p.elim
theorem listM_sound : CallR X (.type "list") (rN X.K ct nListM) := by
  refine CallR.imp call_list_of fun vs H Q ⟨m, ah, xs, hr, rs, p⟩ => ?_
  unfold nListM at p
  split at p
  · cases rs with
    | cons r t =>
      cases t
      split at p
      · rename_i ys e
        obtain ⟨l, ws, rfl, h1, r1⟩ := seq_of hr e r
        refine ⟨l, ws, rfl, h1, fun a ha => ?_⟩
        obtain ⟨hr3, ex3⟩ := hr.alloc ha (OR.lst r1)
        exact p _ _ _ hr3 ex3 ⟨a, at_new hr, rfl⟩
      · exact p.elim
  · exact p.elim
def nTuple : OpN := fun xs h => match xs with
  | [x] => (match seqOf x h with
    | some ys => some (.d (.tup ys), h)
    | none => none)
  | _ => none
theorem tuple_sound : CallR X (.type "tuple") (rN X.K ct nTuple) := by
  refine CallR.imp call_tuple_of fun vs H Q ⟨m, ah, xs, hr, rs, p⟩ => ?_
  unfold nTuple at p
  split at p
  · cases rs with
    | cons r t =>
      cases t
      split at p
      · rename_i ys e
        unfold seqOf at e
        split at e
        · cases e
          obtain ⟨l, ws, rfl, h1, r1⟩ := tup_of r
          exact ⟨l, ws, rfl, .inr ⟨h1, p.same hr r⟩⟩
        · cases e
          cases r with
          | lv h1 s1 r1 => exact ⟨_, _, rfl, .inl ⟨.of h1, p.new hr fun a ha k s => new_tup r1 k s⟩⟩
        · rename_i k
          split at e
          · rename_i zs hk
            cases e
            obtain ⟨a, ws, _, rfl, h1, r1⟩ := hr.lstK hk r
            exact ⟨a, ws, rfl, .inl ⟨.of h1, p.new hr fun a ha k s => new_tup r1 k s⟩⟩
          · cases e
        · cases e
      · exact p.elim
  · exact p.elim
def nInt : OpN := fun xs h => match xs with
  | [.d (.int i)] => some (.d (.int i), h)
  | [.d (.bl k)] => some (.d (.int (if k then 1 else 0)), h)
  | _ => none
theorem int_sound : CallR X (.type "int") (rN X.K ct nInt) := by
  refine CallR.imp call_int1 fun vs H Q ⟨m, ah, xs, hr, rs, p⟩ => ?_
  unfold nInt at p
  split at p
  · cases rs with
    | cons r t => cases t; cases r; exact .inl ⟨_, rfl, p.same hr (.int _)⟩
  · cases rs with
    | cons r t => cases t; cases r; exact .inr ⟨_, rfl, p.same hr (.int _)⟩
  · exact p.elim
def nAbs : OpN := fun xs h => match xs with
  | [.d (.int i)] => some (.d (.int (if i < 0 then -i else i)), h)
  | _ => none
theorem abs_sound : CallR X (.builtin "abs") (rN X.K ct nAbs) := by
  refine CallR.imp call_abs fun vs H Q ⟨m, ah, xs, hr, rs, p⟩ => ?_
  unfold nAbs at p
  split at p
  · cases rs with
    | cons r t => cases t; cases r; exact ⟨_, rfl, p.same hr (.int _)⟩
  · exact p.elim
/-- the built-in type's name -/
def tyO (x : Vl) (h : Hs) : Option String := match x with
  | .d .non => some "NoneType" | .d (.bl _) => some "bool" | .d (.int _) => some "int" | .d (.str _) => some "str"
  | .d (.tup _) => some "tuple" | .d (.lv _) => some "list" | .d (.dk _) => some "dict" | .d (.dt _) => some "dict"
  | .r k => (match h[k]? with
    | some (.lst _) => some "list"
    | some (.dk _) => some "dict"
    | some (.dt _) => some "dict"
    | _ => none)
  | _ => none
theorem tyO_sound {K : PySem.W.Frag} {m : List Addr} {ah : Hs} {H : Hp} (hr : HR K ct m ah H) {x : Vl} {v : V} {t : String} (r : VlR K ct m ah H x v) (e : tyO x ah = some t) : TyX K H v (.type t) := by
  unfold tyO at e
  split at e
  · cases e; cases r; exact .base .non
  · cases e; cases r; exact .base (.bl _)
  · cases e; cases r; exact .base (.int _)
  · cases e; cases r; exact .base (.str _)
  · cases e
    cases r with
    | tup h1 h2 => exact .base (.tup h1.1)
  · cases e; cases r with | lv h1 _ _ => exact .base (.lst h1)
  · cases e; cases r with | dk h1 _ _ => exact .base (.dK h1)
  · cases e; cases r with | dt h1 _ _ => exact .base (.dT h1)
  · rename_i k
    obtain ⟨a, h1, rfl⟩ := r
    split at e
    · rename_i hk
      cases e
      obtain ⟨u, h2, h3⟩ := hr.ob k a _ h1 hk
      cases h3; exact .base (.lst h2)
    · rename_i hk
      cases e
      obtain ⟨u, h2, h3⟩ := hr.ob k a _ h1 hk
      cases h3; exact .base (.dK h2)
    · rename_i hk
      cases e
      obtain ⟨u, h2, h3⟩ := hr.ob k a _ h1 hk
      cases h3; exact .base (.dT h2)
    · cases e
  · cases e
end
end Mi

/-! Mi4: statements, targets, loops -/
namespace Mi
open PySem PySem.Spec L2

inductive Fl where
  | nx | ret (v : Vl) | brk | cnt
inductive RS where
  | ok (f : Fl) (σ : Lo) (h : Hs) | exc (e : Ex) (σ : Lo) (h : Hs) | bad
abbrev SemS := Lo → Hs → RS
def PoF (K : PySem.W.Frag) (ct : CT) (D : Ends) (f : Fl) (m : List Addr) (ah : Hs) (H : Hp) (σV : L2.St) : Prop := match f with
  | .nx => D.nx σV H
  | .brk => D.bk σV H
  | .cnt => D.ct σV H
  | .ret v => ∀ u, VlR K ct m ah H v u → D.rt u H
def PoS (K : PySem.W.Frag) (ct : CT) (W : WX) (D : Ends) (m : List Addr) (ah : Hs) (H : Hp) (r : RS) : Prop := match r with
  | .ok f σ' h => ∀ m' H' σV', HR K ct m' h H' → Ext m ah H m' h H' → LR K ct m' h H' σ' σV' → PoF K ct D f m' h H' σV'
  | .exc e σ' h => ∀ m' H' σV' cls d, HR K ct m' h H' → Ext m ah H m' h H' → LR K ct m' h H' σ' σV' → XR K ct (Sf m' h) H' e cls d → W cls d σV' H'
  | .bad => False
def rdS (K : PySem.W.Frag) (ct : CT) (W : WX) (f : SemS) : TS := fun D σV H => ∃ m ah σ, HR K ct m ah H ∧ LR K ct m ah H σ σV ∧ PoS K ct W D m ah H (f σ ah)
abbrev SS (X : Cx) (ct : CT) (W : WX) (st : Stmt) (f : SemS) : Prop := PS X st (rdS X.K ct W f)
abbrev SSs (X : Cx) (ct : CT) (W : WX) (st : List Stmt) (f : SemS) : Prop := PSs X st (rdS X.K ct W f)
/-- from an expression's result -/
def sb {α : Type} (r : Res α) (σ : Lo) (f : α → Hs → RS) : RS := match r with
  | .ok a h => f a h
  | .exc e h => .exc e σ h
  | .bad => .bad
@[simp] theorem sb_ok {α : Type} (a : α) (h : Hs) (σ : Lo) (f : α → Hs → RS) : sb (.ok a h) σ f = f a h := rfl
@[simp] theorem sb_exc {α : Type} (e : Ex) (h : Hs) (σ : Lo) (f : α → Hs → RS) : sb (.exc e h) σ f = .exc e σ h := rfl
@[simp] theorem sb_bad {α : Type} (σ : Lo) (f : α → Hs → RS) : sb .bad σ f = .bad := rfl
def ss (r : RS) (f : SemS) : RS := match r with
  | .ok .nx σ h => f σ h
  | r => r
@[simp] theorem ss_nx (σ : Lo) (h : Hs) (f : SemS) : ss (.ok .nx σ h) f = f σ h := rfl
@[simp] theorem ss_ret (v : Vl) (σ : Lo) (h : Hs) (f : SemS) : ss (.ok (.ret v) σ h) f = .ok (.ret v) σ h := rfl
@[simp] theorem ss_brk (σ : Lo) (h : Hs) (f : SemS) : ss (.ok .brk σ h) f = .ok .brk σ h := rfl
@[simp] theorem ss_cnt (σ : Lo) (h : Hs) (f : SemS) : ss (.ok .cnt σ h) f = .ok .cnt σ h := rfl
@[simp] theorem ss_exc (e : Ex) (σ : Lo) (h : Hs) (f : SemS) : ss (.exc e σ h) f = .exc e σ h := rfl
@[simp] theorem ss_bad (f : SemS) : ss .bad f = .bad := rfl
section
variable {K : PySem.W.Frag} {ct : CT} {W : WX} {D : Ends} {m m' : List Addr} {ah ah' : Hs} {H H' : Hp} {α β : Type}
theorem PoS.ext {r : RS} (p : PoS K ct W D m ah H r) (e : Ext m ah H m' ah' H') : PoS K ct W D m' ah' H' r := by
  cases r with
  | ok f σ h => exact fun m2 H2 σ2 h2 e2 l2 => p m2 H2 σ2 h2 (e.trans e2) l2
  | exc x σ h => exact fun m2 H2 σ2 c d h2 e2 l2 r2 => p m2 H2 σ2 c d h2 (e.trans e2) l2 r2
  | bad => exact p
/-- what a value is worth for the statement -/
theorem PoS.bind {R : List Addr → Hs → Hp → α → β → Prop} {r : Res α} {g : α → Hs → RS} {σ : Lo} {σV : L2.St} (lr : LR K ct m ah H σ σV) (p : PoS K ct W D m ah H (sb r σ g)) :
    Po K ct W σV R m ah H r (Mid K ct m ah H R fun m1 h1 H1 x => PoS K ct W D m1 h1 H1 (g x h1)) := by
  cases r with
  | ok x h => exact fun m2 H2 v h2 e2 r2 => ⟨m2, h, x, h2, e2, r2, PoS.ext (r := g x h) p e2⟩
  | exc x h => exact fun m2 H2 c d h2 e2 r2 => p m2 H2 σV c d h2 e2 (lr.ext e2) r2
  | bad => exact p
theorem PoS.nx {σ : Lo} {σV : L2.St} (hr : HR K ct m ah H) (lr : LR K ct m ah H σ σV) (p : PoS K ct W D m ah H (.ok .nx σ ah)) : D.nx σV H := p m H σV hr (Ext.refl _ _ _) lr
/-- another end, wherever the first one is met -/
theorem PoS.imp {D' : Ends} {r : RS} (p : PoS K ct W D m ah H r)
    (i : ∀ f σ' h m' H' σV', r = .ok f σ' h → HR K ct m' h H' → Ext m ah H m' h H' → LR K ct m' h H' σ' σV' → PoF K ct D f m' h H' σV' → PoF K ct D' f m' h H' σV') : PoS K ct W D' m ah H r := by
  cases r with
  | ok f σ h => exact fun m2 H2 σ2 h2 e2 l2 => i f σ h m2 H2 σ2 rfl h2 e2 l2 (p m2 H2 σ2 h2 e2 l2)
  | exc x σ h => exact p
  | bad => exact p
end

/-! ### blocks and small statements -/
def sNil : SemS := fun σ h => .ok .nx σ h
def sSq (f g : SemS) : SemS := fun σ h => ss (f σ h) g
def sEx (f : SemE) : SemS := fun σ h => sb (f σ h) σ fun _ h1 => .ok .nx σ h1
def sRt (f : SemE) : SemS := fun σ h => sb (f σ h) σ fun x h1 => .ok (.ret x) σ h1
def sRtN : SemS := fun σ h => .ok (.ret (.d .non)) σ h
def sIf (t : SemT) (f g : SemS) : SemS := fun σ h => sb (t σ h) σ fun b h1 => if b = true then f σ h1 else g σ h1
def sBrk : SemS := fun σ h => .ok .brk σ h
def sCnt : SemS := fun σ h => .ok .cnt σ h
def sBad : SemS := fun _ _ => .bad
/-- a list at a name is never changed from here on -/
def sFrz (i : Nat) : SemS := fun σ h => match σ[i]? with
  | some (some x) => (match toD x h with
    | some (d, h1) => .ok .nx (σ.set i (some (.d d))) h1
    | none => .bad)
  | _ => .bad
section
variable {X : Cx} {ct : CT} {W : WX} {pos : Pos} {e c : Expr} {f : SemE} {t : SemT} {st : Stmt} {rest a b : List Stmt} {u v : SemS}
theorem sss_nil : SSs X ct W [] sNil := PSs.imp pss_nil fun D σV H ⟨m, ah, σ, hr, lr, p⟩ => p.nx hr lr
theorem rd_seq {D : Ends} {σV : L2.St} {H : Hp} (h : rdS X.K ct W (sSq u v) D σV H) : tSeq (rdS X.K ct W u) (rdS X.K ct W v) D σV H := by
  obtain ⟨m, ah, σ, hr, lr, p⟩ := h
  refine ⟨m, ah, σ, hr, lr, ?_⟩
  unfold sSq at p
  cases e : u σ ah with
  | ok f σ' h =>
    rw [e] at p
    cases f with
    | nx => exact fun m2 H2 σ2 h2 e2 l2 => ⟨m2, h, σ', h2, l2, PoS.ext (r := v σ' h) p e2⟩
    | ret x => exact p
    | brk => exact p
    | cnt => exact p
  | exc x σ' h => rw [e] at p; exact p
  | bad => rw [e] at p; exact p.elim
theorem sss_cons (h1 : SS X ct W st u) (h2 : SSs X ct W rest v) : SSs X ct W (st :: rest) (sSq u v) := PSs.imp (pss_cons h1 h2) fun _ _ _ h => rd_seq h
theorem sss_one (h1 : SS X ct W st u) : SSs X ct W [st] u := pss_one h1
/-- a remark of ours ahead of a block: the list at slot i is frozen -/
theorem sss_frz {i : Nat} (h2 : SSs X ct W rest v) : SSs X ct W rest (sSq (sFrz i) v) := PSs.imp h2 fun D σV H ⟨m, ah, σ, hr, lr, p⟩ => by
  unfold sSq sFrz at p
  cases e : σ[i]? with
  | none => rw [e] at p; exact p.elim
  | some o =>
    cases o with
    | none => rw [e] at p; exact p.elim
    | some x =>
      rw [e] at p
      dsimp only at p
      cases e2 : toD x ah with
      | none => rw [e2] at p; exact p.elim
      | some q =>
        obtain ⟨d, h1⟩ := q
        rw [e2] at p
        obtain ⟨y, hy, r⟩ := lr.at_ i x e
        obtain ⟨hr1, ex1, r1⟩ := toD_sound hr e2 r
        have l1 : LR X.K ct m h1 H (σ.set i (some (.d d))) σV := by
          refine ⟨by rw [List.length_set]; exact lr.len, fun j z hz => ?_⟩
          by_cases q : i = j
          · subst q
            rw [List.getElem?_set_self (List.getElem?_eq_some_iff.mp e).1] at hz
            cases hz
            exact ⟨y, hy, r1⟩
          · rw [List.getElem?_set_ne q] at hz
            exact (lr.ext ex1).at_ j z hz
        exact ⟨m, h1, _, hr1, l1, PoS.ext (r := v (σ.set i (some (.d d))) h1) p ex1⟩
theorem sss_never {sts : List Stmt} : SSs X ct W sts sBad := PSs.imp pss_never fun D σV H ⟨m, ah, σ, hr, lr, p⟩ => p
theorem ss_never : SS X ct W st sBad := PS.imp ps_never fun D σV H ⟨m, ah, σ, hr, lr, p⟩ => p
theorem ss_pass : SS X ct W (.Pass pos) sNil := PS.imp ps_pass fun D σV H ⟨m, ah, σ, hr, lr, p⟩ => p.nx hr lr
theorem ss_break : SS X ct W (.Break pos) sBrk := PS.imp ps_break fun D σV H ⟨m, ah, σ, hr, lr, p⟩ => p m H σV hr (Ext.refl _ _ _) lr
theorem ss_continue : SS X ct W (.Continue pos) sCnt := PS.imp ps_continue fun D σV H ⟨m, ah, σ, hr, lr, p⟩ => p m H σV hr (Ext.refl _ _ _) lr
theorem ss_expr (he : SE X ct W e f) (hs : swapsWith e none pos.line X.env = pure false := by rfl) : SS X ct W (.Expr e pos) (sEx f) :=
  PS.imp (ps_expr he hs) fun D σV H ⟨m, ah, σ, hr, lr, p⟩ => ⟨m, ah, σ, hr, lr, (PoS.bind (R := VlR X.K ct) lr p).imp fun x H1 ⟨m1, h1, y, hr1, e1, r1, p1⟩ => PoS.nx hr1 (lr.ext e1) p1⟩
theorem ss_ret' (he : SE X ct W e f) : SS X ct W (.Return (some e) pos) (sRt f) :=
  PS.imp (ps_ret he) fun D σV H ⟨m, ah, σ, hr, lr, p⟩ => ⟨m, ah, σ, hr, lr, (PoS.bind (R := VlR X.K ct) lr p).imp fun x H1 ⟨m1, h1, y, hr1, e1, r1, p1⟩ => p1 m1 H1 σV hr1 (Ext.refl _ _ _) (lr.ext e1) x r1⟩
theorem ss_retN : SS X ct W (.Return none pos) sRtN := PS.imp ps_retN fun D σV H ⟨m, ah, σ, hr, lr, p⟩ => p m H σV hr (Ext.refl _ _ _) lr .non .non
theorem ss_if (hc : ST X ct W c t) (ha : SSs X ct W a u) (hb : SSs X ct W b v) : SS X ct W (.If c a b pos) (sIf t u v) :=
  PS.imp (ps_if hc ha hb) fun D σV H ⟨m, ah, σ, hr, lr, p⟩ => ⟨m, ah, σ, hr, lr, (PoS.bind (R := fun _ _ _ b c => b = c) lr p).imp fun x H1 ⟨m1, h1, y, hr1, e1, r1, p1⟩ => by
    subst r1
    dsimp only at p1
    cases y with
    | true => exact ⟨m1, h1, σ, hr1, lr.ext e1, p1⟩
    | false => exact ⟨m1, h1, σ, hr1, lr.ext e1, p1⟩⟩
end

/-! ### targets -/
abbrev SemG := Vl → Lo → Hs → Option (Lo × Hs)
abbrev SemGs := List D → Lo → Hs → Option (Lo × Hs)
def PoG (K : PySem.W.Frag) (ct : CT) (m : List Addr) (ah : Hs) (H : Hp) (o : Option (Lo × Hs)) (Q : L2.St → Hp → Prop) : Prop := match o with
  | some (σ', h) => ∀ m' H' σV', HR K ct m' h H' → Ext m ah H m' h H' → LR K ct m' h H' σ' σV' → Q σV' H'
  | none => False
def rdG (K : PySem.W.Frag) (ct : CT) (g : SemG) : TG := fun v σV H Q => ∃ m ah σ x, HR K ct m ah H ∧ LR K ct m ah H σ σV ∧ VlR K ct m ah H x v ∧ PoG K ct m ah H (g x σ ah) Q
def rdGs (K : PySem.W.Frag) (ct : CT) (g : SemGs) : TGs := fun vs σV H Q => ∃ m ah σ xs, HR K ct m ah H ∧ LR K ct m ah H σ σV ∧ DRs K ct (Sf m ah) H xs vs ∧ PoG K ct m ah H (g xs σ ah) Q
theorem PG.imp {X : Cx} {e : Expr} {t t' : TG} (h : PG X e t) (i : ∀ v σ H Q, t' v σ H Q → t v σ H Q) : PG X e t' := ⟨fun pins s σ H v u Q I r q => h.run pins s σ H v u Q I r (i _ _ _ _ q)⟩
theorem PGs.imp {X : Cx} {e : List Expr} {t t' : TGs} (h : PGs X e t) (i : ∀ v σ H Q, t' v σ H Q → t v σ H Q) : PGs X e t' := ⟨fun pins s σ H v u Q I r q => h.run pins s σ H v u Q I r (i _ _ _ _ q)⟩
abbrev SG (X : Cx) (ct : CT) (e : Expr) (g : SemG) : Prop := PG X e (rdG X.K ct g)
abbrev SGs (X : Cx) (ct : CT) (e : List Expr) (g : SemGs) : Prop := PGs X e (rdGs X.K ct g)
def gNm (i : Nat) : SemG := fun x σ h => some (σ.set i (some x), h)
def gNi : SemGs := fun xs σ h => match xs with
  | [] => some (σ, h)
  | _ => none
def gCo (g : SemG) (gs : SemGs) : SemGs := fun xs σ h => match xs with
  | x :: xs => (g (.d x) σ h).bind fun p => gs xs p.1 p.2
  | [] => none
def gTp (n : Nat) (gs : SemGs) : SemG := fun x σ h => match x with
  | .d (.tup xs) => if xs.length = n then gs xs σ h else none
  | _ => none
section
variable {X : Cx} {ct : CT} {W : WX} {pos : Pos} {e : Expr} {es : List Expr} {f : SemE} {g : SemG} {gs : SemGs}
theorem sg_name {i : Nat} {x : Str} (hN : X.N.Nodup) (hi : X.N[i]? = some x) (hx : Loc X.env.scope x) (hf : X.fn x = true ∨ X.env.scope.names.lookup x = some .local := by first | exact .inl rfl | exact .inr rfl | assumption) : SG X ct (.Name x pos) (gNm i) :=
  PG.imp (pg_name hN hi hx hf) fun v σV H Q ⟨m, ah, σ, x, hr, lr, r, p⟩ => p m H _ hr (Ext.refl _ _ _) (lr.set r i)
theorem sgs_nil : SGs X ct [] gNi := PGs.imp pgs_nil fun vs σV H Q ⟨m, ah, σ, xs, hr, lr, r, p⟩ => by
  unfold gNi at p
  split at p
  · cases r
    exact ⟨rfl, p m H _ hr (Ext.refl _ _ _) lr⟩
  · exact p.elim
theorem sgs_cons (h1 : SG X ct e g) (h2 : SGs X ct es gs) (hs : (assignEach (e :: es) X.env).map (·.2) = assign e X.env :: (assignEach es X.env).map (·.2) := by rfl) : SGs X ct (e :: es) (gCo g gs) :=
  PGs.imp (pgs_cons h1 h2 hs) fun vs σV H Q ⟨m, ah, σ, xs, hr, lr, r, p⟩ => by
    unfold gCo at p
    split at p
    · cases r with
      | cons r t =>
        refine ⟨_, _, rfl, m, ah, σ, .d _, hr, lr, r, ?_⟩
        cases q : g (.d _) σ ah with
        | none => rw [q] at p; exact p.elim
        | some z =>
          obtain ⟨σ', h'⟩ := z
          rw [q] at p
          refine fun m2 H2 σ2 h2 e2 l2 => ⟨m2, h', σ', _, h2, l2, t.mono e2.kp, ?_⟩
          dsimp only [Option.bind_some] at p
          revert p
          cases gs _ σ' h' with
          | none => exact fun p => p.elim
          | some z => exact fun p m3 H3 σ3 h3 e3 l3 => p m3 H3 σ3 h3 (e2.trans e3) l3
    · exact p.elim
theorem sg_tup {k n : Nat} (hc : X.calm = true) (h : SGs X ct es gs) (hn : (assignEach es X.env).length = n := by rfl) (hst : (assignEach es X.env).findIdx? (·.1) = none := by rfl) : SG X ct (.Tuple es k pos) (gTp n gs) :=
  PG.imp (pg_tup hc h hn hst) fun v σV H Q ⟨m, ah, σ, x, hr, lr, r, p⟩ => by
    unfold gTp at p
    split at p
    · obtain ⟨l, vs, rfl, h1, r1⟩ := tup_of r
      split at p
      · rename_i hl
        exact ⟨l, vs, rfl, h1, by rw [← r1.length]; exact hl, m, ah, σ, _, hr, lr, r1, p⟩
      · exact p.elim
    · exact p.elim
end
def sAs (f : SemE) (g : SemG) : SemS := fun σ h => sb (f σ h) σ fun x h1 => match g x σ h1 with
  | some (σ', h2) => .ok .nx σ' h2
  | none => .bad
section
variable {X : Cx} {ct : CT} {W : WX} {pos : Pos} {e tg : Expr} {es : List Expr} {f : SemE} {g : SemG} {gs : SemGs}
theorem rd_asg {D : Ends} {σV : L2.St} {H : Hp} (h : rdS X.K ct W (sAs f g) D σV H) : tAsg (rdE X.K ct W f) (rdG X.K ct g) D σV H := by
  obtain ⟨m, ah, σ, hr, lr, p⟩ := h
  refine ⟨m, ah, σ, hr, lr, (PoS.bind (R := VlR X.K ct) lr p).imp fun x H1 ⟨m1, h1, y, hr1, e1, r1, p1⟩ => ⟨m1, h1, σ, y, hr1, lr.ext e1, r1, ?_⟩⟩
  dsimp only at p1
  cases q : g y σ h1 with
  | none => rw [q] at p1; exact p1.elim
  | some z => rw [q] at p1; exact p1
theorem ss_asg (he : SE X ct W e f) (hg : SG X ct tg g) (hs : swapsWithSole [tg] e pos.line X.env = pure false := by rfl) (hw : swappedStores [tg] e X.env = pure none := by rfl)
    (h1 : (assignEach [tg] X.env).map (·.2) = [assign tg X.env] := by rfl) : SS X ct W (.Assign [tg] e pos) (sAs f g) := PS.imp (ps_asg he hg hs hw h1) fun _ _ _ h => rd_asg h
theorem ss_set {i : Nat} {x : Str} {pos' : Pos} (hN : X.N.Nodup) (hi : X.N[i]? = some x) (hx : Loc X.env.scope x) (he : SE X ct W e f) (hs : swapsWith e (some (.Name x pos')) pos.line X.env = pure false := by rfl) (hf : X.fn x = true ∨ X.env.scope.names.lookup x = some .local := by first | exact .inl rfl | exact .inr rfl | assumption) :
    SS X ct W (.Assign [.Name x pos'] e pos) (sAs f (gNm i)) := PS.imp (ps_set hN hi hx he hs hf) fun D σV H h => by
  obtain ⟨m, ah, σ, hr, lr, p⟩ := h
  exact ⟨m, ah, σ, hr, lr, (PoS.bind (R := VlR X.K ct) lr p).imp fun x H1 ⟨m1, h1, y, hr1, e1, r1, p1⟩ => p1 m1 H1 _ hr1 (Ext.refl _ _ _) ((lr.ext e1).set r1 i)⟩
end

/-! ### x op= e at a name -/
def rIp (K : PySem.W.Frag) (ct : CT) (op : Op2) : TIp := rOp K ct op
def sAu (i : Nat) (op : Op2) (f : SemE) : SemS := fun σ h => match σ[i]? with
  | some (some x) => sb (f σ h) σ fun y h1 => match op x y h1 with
    | some (z, h2) => .ok .nx (σ.set i (some z)) h2
    | none => .bad
  | _ => .bad
section
variable {X : Cx} {ct : CT} {W : WX} {pos pos' : Pos} {e : Expr} {f : SemE}
theorem ss_aug {i : Nat} {x : Str} {op : Operator} {o : Op2} (hN : X.N.Nodup) (hi : X.N[i]? = some x) (hx : Loc X.env.scope x) (he : SE X ct W e f) (ho : OpR X (inplaceOp op) (rOp X.K ct o))
    (hf : X.fn x = true ∨ X.env.scope.names.lookup x = some .local := by first | exact .inl rfl | exact .inr rfl | assumption) : SS X ct W (.AugAssign (.Name x pos') op e pos) (sAu i o f) :=
  PS.imp (ps_aug (ti := rOp X.K ct o) hN hi hx he ho hf) fun D σV H h => by
    obtain ⟨m, ah, σ, hr, lr, p⟩ := h
    unfold sAu at p
    cases q : σ[i]? with
    | none => rw [q] at p; exact p.elim
    | some z =>
      cases z with
      | none => rw [q] at p; exact p.elim
      | some z =>
        rw [q] at p
        obtain ⟨v, hv, rv⟩ := lr.at_ i z q
        refine ⟨v, hv, m, ah, σ, hr, lr, (PoS.bind (R := VlR X.K ct) lr p).imp fun y H1 ⟨m1, h1, y', hr1, e1, r1, p1⟩ => ⟨m1, h1, z, y', hr1, rv.ext e1, r1, ?_⟩⟩
        dsimp only at p1
        revert p1
        cases o z y' h1 with
        | none => exact fun p => p.elim
        | some w => exact fun p m2 H2 u h2 e2 r2 => p m2 H2 _ h2 e2 (((lr.ext e1).ext e2).set r2 i)
def oIAdd : Op2 := fun x y h => match x, y with
  | .d (.int i), .d (.int j) => some (.d (.int (i + j)), h)
  | .d (.str a), .d (.str b) => if a.length + b.length ≤ sizeLine then some (.d (.str (a ++ b)), h) else none
  | _, _ => none
theorem iadd_sound : OpR X (inplaceOp .Add) (rOp X.K ct oIAdd) := by
  refine OpR.imp (iop_add.or iop_add_str) fun x y H Q ⟨m, ah, a, b, hr, ra, rb, p⟩ => ?_
  unfold oIAdd at p
  split at p
  · cases ra; cases rb
    exact .inl ⟨_, _, rfl, rfl, p.same hr (.int _)⟩
  · cases ra; cases rb
    split at p
    · rename_i hc
      exact .inr ⟨_, _, rfl, rfl, hc, p.same hr (.str _)⟩
    · exact p.elim
  · exact p.elim
theorem isub_sound : OpR X (inplaceOp .Sub) (rOp X.K ct oSub) := OpR.imp iop_sub fun x y H Q ⟨m, ah, a, b, hr, ra, rb, p⟩ => by
  unfold oSub oI at p
  split at p
  · cases ra; cases rb
    exact ⟨_, _, rfl, rfl, p.same hr (.int _)⟩
  · exact p.elim
end

/-! ### what a for walks -/
abbrev SemI := Lo → Hs → Res (List D)
/-- the iterator hands out the data ds -/
def Wks (K : PySem.W.Frag) (ct : CT) (ds : List D) (m : List Addr) (ah : Hs) (H : Hp) (J : It) : Prop := ∀ m2 h2 H2, HR K ct m2 h2 H2 → Kp (Sf m ah) H (Sf m2 h2) H2 →
  (∀ i, ds.length ≤ i → J.stop i H2) ∧ ∀ (i : Nat) d, ds[i]? = some d → J.go i H2 ∧ ∀ x H3, J.yld i H2 x H3 → HR K ct m2 h2 H3 ∧ Ext m2 h2 H2 m2 h2 H3 ∧ DR K ct (Sf m2 h2) H3 d x
def rdI (K : PySem.W.Frag) (ct : CT) (W : WX) (f : SemI) : TI := fun σV H R => ∃ m ah σ, HR K ct m ah H ∧ LR K ct m ah H σ σV ∧ Po K ct W σV (fun m1 h1 H1 ds J => Wks K ct ds m1 h1 H1 J) m ah H (f σ ah) R
theorem PI.imp {X : Cx} {tg e : Expr} {t t' : TI} (h : PI X tg e t) (i : ∀ σ H Q, t' σ H Q → t σ H Q) : PI X tg e t' := ⟨fun pins s σ H R I q => h.run pins s σ H R I (i _ _ _ q)⟩
abbrev SI (X : Cx) (ct : CT) (W : WX) (tg e : Expr) (f : SemI) : Prop := PI X tg e (rdI X.K ct W f)
theorem Wks.ext {K : PySem.W.Frag} {ct : CT} {ds : List D} {m m' : List Addr} {ah ah' : Hs} {H H' : Hp} {J : It} (w : Wks K ct ds m ah H J) (e : Ext m ah H m' ah' H') : Wks K ct ds m' ah' H' J := fun m2 h2 H2 hr e2 => w m2 h2 H2 hr (e.kp.trans e2)
/-- the data of a list or tuple that is never changed -/
def pureSeq (x : Vl) : Option (List D) := match x with
  | .d (.tup xs) => some xs
  | .d (.lv xs) => some xs
  | _ => none
def pureLst (x : Vl) : Option (List D) := match x with
  | .d (.lv xs) => some xs
  | _ => none
def pureTup (x : Vl) : Option (List D) := match x with
  | .d (.tup xs) => some xs
  | _ => none
def iOf (p : Vl → Option (List D)) (f : SemE) : SemI := fun σ h => rb (f σ h) fun x h1 => match p x with
  | some xs => .ok xs h1
  | none => .bad
abbrev iLs (f : SemE) : SemI := iOf pureLst f
abbrev iTu (f : SemE) : SemI := iOf pureTup f
def rngD (lo : Int) (n : Nat) : List D := (List.range n).map fun (i : Nat) => D.int (lo + i)
def iR1 (f : SemE) : SemI := fun σ h => rb (f σ h) fun x h1 => match x with
  | .d (.int j) => if j < 2 ^ 62 ∧ -(2 ^ 62) ≤ j then .ok (rngD 0 j.toNat) h1 else .bad
  | _ => .bad
def iR2 (f g : SemE) : SemI := fun σ h => rb (f σ h) fun x h1 => rb (g σ h1) fun y h2 => match x, y with
  | .d (.int i), .d (.int j) => if (-(2 ^ 62) ≤ i ∧ i < 2 ^ 62) ∧ -(2 ^ 62) ≤ j ∧ j < 2 ^ 62 then .ok (rngD i (j - i).toNat) h2 else .bad
  | _, _ => .bad
theorem rngD_get (lo : Int) (n i : Nat) : (rngD lo n)[i]? = if i < n then some (D.int (lo + i)) else none := by
  unfold rngD
  rw [List.getElem?_map]
  by_cases h : i < n
  · rw [List.getElem?_range h, if_pos h]; rfl
  · rw [List.getElem?_eq_none (by simpa using h), if_neg h]; rfl
theorem rngD_len (lo : Int) (n : Nat) : (rngD lo n).length = n := by simp [rngD]
section
variable {K : PySem.W.Frag} {ct : CT} {m : List Addr} {ah : Hs} {H : Hp}
theorem wks_rng (lo : Int) (n : Nat) : Wks K ct (rngD lo n) m ah H (Itr lo n) := fun m2 h2 H2 hr ex => by
  refine ⟨fun i hi => by rw [rngD_len] at hi; exact hi, fun i d hd => ?_⟩
  rw [rngD_get] at hd
  split at hd
  · rename_i hi
    cases hd
    refine ⟨hi, fun x H3 hy => ?_⟩
    obtain ⟨rfl, rfl⟩ := hy
    exact ⟨hr, Ext.refl _ _ _, .int _⟩
  · cases hd
end
theorem pureLst_of {K : PySem.W.Frag} {ct : CT} {m : List Addr} {ah : Hs} {H : Hp} {x : Vl} {ds : List D} {v : V} (e : pureLst x = some ds) (r : VlR K ct m ah H x v) : ∃ a vs, v = .ref a ∧ (H a = some (.lst vs) ∨ ∃ o, H a = some (.frz o (.lst vs))) ∧ Sf m ah a ∧ DRs K ct (Sf m ah) H ds vs := by
  unfold pureLst at e
  split at e
  · cases e
    cases r with
    | lv h s t => exact ⟨_, _, rfl, .inl h, s, t⟩
  · cases e
end Mi

/-! Mi5: what a for walks; loops -/
namespace Mi
open PySem PySem.Spec L2

section
variable {K : PySem.W.Frag} {ct : CT} {m : List Addr} {ah : Hs} {H : Hp}
theorem sqL_uniq {a : Addr} {xs ys : List V} (h : H a = some (.lst xs) ∨ ∃ o, H a = some (.frz o (.lst xs))) : SqL K H a xs := h.elim (fun h => .of h) fun ⟨o, h⟩ => .inl (.inr ⟨o, h⟩)
/-- a yield that is told of every list that may be read there -/
theorem wks_list {a : Addr} {ds : List D} {vs : List V} (h : H a = some (.lst vs) ∨ ∃ o, H a = some (.frz o (.lst vs))) (s : Sf m ah a) (r : DRs K ct (Sf m ah) H ds vs) : Wks K ct ds m ah H (Itl K a) := fun m2 h2 H2 hr ex => by
  have h' : SqL K H2 a vs := sqL_uniq (ys := vs) (h.imp (fun h => (ex _ _ h s).1) fun ⟨o, h⟩ => ⟨o, (ex _ _ h s).1⟩)
  have r' := r.mono ex
  refine ⟨fun i hi => ⟨vs, h', by rw [← r.length]; exact hi⟩, fun i d hd => ?_⟩
  obtain ⟨y, hy, ry⟩ := r'.get hd
  refine ⟨⟨vs, y, h', hy⟩, fun x H3 hx => ?_⟩
  obtain ⟨rfl, hx⟩ := hx
  have e := hx vs h'
  rw [hy] at e
  cases e
  exact ⟨hr, Ext.refl _ _ _, ry⟩
theorem sqT_ext {S S' : Addr → Prop} {H' : Hp} {a : Addr} {vs : List V} (k : Kp S H S' H') (h : H a = some (.tup vs) ∧ S a) : H' a = some (.tup vs) ∧ S' a := k _ _ h.1 h.2
theorem sqT_of {S : Addr → Prop} {a : Addr} {vs : List V} (h : H a = some (.tup vs) ∧ S a) : SqT K H a vs := .inl (.inl h.1)
theorem wks_tup {a : Addr} {ds : List D} {vs : List V} (h : H a = some (.tup vs) ∧ Sf m ah a) (r : DRs K ct (Sf m ah) H ds vs) : Wks K ct ds m ah H (Itt K a) := fun m2 h2 H2 hr ex => by
  have h' : SqT K H2 a vs := sqT_of (sqT_ext ex h)
  have r' := r.mono ex
  refine ⟨fun i hi => ⟨vs, h', by rw [← r.length]; exact hi⟩, fun i d hd => ?_⟩
  obtain ⟨y, hy, ry⟩ := r'.get hd
  refine ⟨⟨vs, y, h', hy⟩, fun x H3 hx => ?_⟩
  obtain ⟨rfl, hx⟩ := hx
  have e := hx vs h'
  rw [hy] at e
  cases e
  exact ⟨hr, Ext.refl _ _ _, ry⟩
def enumD (ds : List D) : List D := (List.range ds.length).map fun (i : Nat) => D.tup [.int (i : Nat), ds.getD i .non]
theorem enumD_get (ds : List D) (i : Nat) : (enumD ds)[i]? = (ds[i]?).map fun d => D.tup [.int (i : Nat), d] := by
  unfold enumD
  rw [List.getElem?_map]
  by_cases h : i < ds.length
  · rw [List.getElem?_range h, List.getElem?_eq_getElem h]
    simp [List.getD, List.getElem?_eq_getElem h]
  · rw [List.getElem?_eq_none (by simpa using h), List.getElem?_eq_none (by omega)]; rfl
theorem enumD_len (ds : List D) : (enumD ds).length = ds.length := by simp [enumD]
/-- a new pair -/
theorem pair_new {m2 : List Addr} {h2 : Hs} {H2 : Hp} (hr : HR K ct m2 h2 H2) {T : Addr} (hT : H2 T = none) {x y : V} {d e : D} (rx : DR K ct (Sf m2 h2) H2 d x) (ry : DR K ct (Sf m2 h2) H2 e y) :
    HR K ct m2 h2 (upd H2 T (.tup [x, y])) ∧ Ext m2 h2 H2 m2 h2 (upd H2 T (.tup [x, y])) ∧ DR K ct (Sf m2 h2) (upd H2 T (.tup [x, y])) (.tup [d, e]) (.ref T) :=
  ⟨(hr.pure (o := .tup [x, y]) hT).1, (hr.pure (o := .tup [x, y]) hT).2.1, new_tup (.cons rx (.cons ry .nil)) (hr.pure (o := .tup [x, y]) hT).2.1.kp (hr.freshS hT)⟩
theorem wks_enum {a : Addr} {ds : List D} {vs : List V} (h : H a = some (.lst vs) ∨ ∃ o, H a = some (.frz o (.lst vs))) (s : Sf m ah a) (r : DRs K ct (Sf m ah) H ds vs) : Wks K ct (enumD ds) m ah H (Ite K a) := fun m2 h2 H2 hr ex => by
  have h' : SqL K H2 a vs := sqL_uniq (ys := vs) (h.imp (fun h => (ex _ _ h s).1) fun ⟨o, h⟩ => ⟨o, (ex _ _ h s).1⟩)
  have r' := r.mono ex
  refine ⟨fun i hi => ⟨vs, h', by rw [← r.length]; rw [enumD_len] at hi; exact hi⟩, fun i d hd => ?_⟩
  rw [enumD_get] at hd
  cases q : ds[i]? with
  | none => rw [q] at hd; cases hd
  | some d0 =>
    rw [q] at hd; cases hd
    obtain ⟨y, hy, ry⟩ := r'.get q
    refine ⟨⟨vs, y, h', hy⟩, fun x H3 hx => ?_⟩
    obtain ⟨T, x1, rfl, hT, rfl, hx⟩ := hx
    have e := hx vs h'
    rw [hy] at e
    cases e
    exact pair_new hr hT (.int _) ry
def zipD (xs ys : List D) : List D := List.zipWith (fun x y => D.tup [x, y]) xs ys
theorem zipD_get {xs ys : List D} {i : Nat} {d : D} (h : (zipD xs ys)[i]? = some d) : ∃ x y, xs[i]? = some x ∧ ys[i]? = some y ∧ d = .tup [x, y] := by
  unfold zipD at h
  rw [List.getElem?_zipWith] at h
  split at h
  · rename_i x y hx hy
    cases h
    exact ⟨x, y, hx, hy, rfl⟩
  · cases h
theorem zipD_len (xs ys : List D) : (zipD xs ys).length = min xs.length ys.length := by simp [zipD]
theorem wks_zip {a b : Addr} {ds es : List D} {vs ws : List V} (h : H a = some (.lst vs) ∨ ∃ o, H a = some (.frz o (.lst vs))) (s : Sf m ah a) (r : DRs K ct (Sf m ah) H ds vs)
    (g : H b = some (.lst ws) ∨ ∃ o, H b = some (.frz o (.lst ws))) (s2 : Sf m ah b) (r2 : DRs K ct (Sf m ah) H es ws) : Wks K ct (zipD ds es) m ah H (Itz K a b) := fun m2 h2 H2 hr ex => by
  have h' : SqL K H2 a vs := sqL_uniq (ys := vs) (h.imp (fun h => (ex _ _ h s).1) fun ⟨o, h⟩ => ⟨o, (ex _ _ h s).1⟩)
  have g' : SqL K H2 b ws := sqL_uniq (ys := ws) (g.imp (fun h => (ex _ _ h s2).1) fun ⟨o, h⟩ => ⟨o, (ex _ _ h s2).1⟩)
  have r' := r.mono ex
  have r2' := r2.mono ex
  refine ⟨fun i hi => ⟨vs, ws, h', g', by rw [zipD_len, r.length, r2.length] at hi; omega⟩, fun i d hd => ?_⟩
  obtain ⟨x0, y0, h1, h2', rfl⟩ := zipD_get hd
  obtain ⟨x, hx, rx⟩ := r'.get h1
  obtain ⟨y, hy, ry⟩ := r2'.get h2'
  refine ⟨⟨vs, ws, x, y, h', g', hx, hy⟩, fun z H3 hz => ?_⟩
  obtain ⟨T, x1, y1, rfl, hT, rfl, f1, f2⟩ := hz
  have e1 := f1 vs h'
  have e2 := f2 ws g'
  rw [hx] at e1
  rw [hy] at e2
  cases e1; cases e2
  exact pair_new hr hT rx ry
theorem wks_zipT {a b : Addr} {ds es : List D} {vs ws : List V} (h : H a = some (.tup vs) ∧ Sf m ah a) (r : DRs K ct (Sf m ah) H ds vs)
    (g : H b = some (.tup ws) ∧ Sf m ah b) (r2 : DRs K ct (Sf m ah) H es ws) : Wks K ct (zipD ds es) m ah H (RZ.ItzT K a b) := fun m2 h2 H2 hr ex => by
  have h' : SqT K H2 a vs := sqT_of (sqT_ext ex h)
  have g' : SqT K H2 b ws := sqT_of (sqT_ext ex g)
  have r' := r.mono ex
  have r2' := r2.mono ex
  refine ⟨fun i hi => ⟨vs, ws, h', g', by rw [zipD_len, r.length, r2.length] at hi; omega⟩, fun i d hd => ?_⟩
  obtain ⟨x0, y0, h1, h2', rfl⟩ := zipD_get hd
  obtain ⟨x, hx, rx⟩ := r'.get h1
  obtain ⟨y, hy, ry⟩ := r2'.get h2'
  refine ⟨⟨vs, ws, x, y, h', g', hx, hy⟩, fun z H3 hz => ?_⟩
  obtain ⟨T, x1, y1, rfl, hT, rfl, f1, f2⟩ := hz
  have e1 := f1 vs h'
  have e2 := f2 ws g'
  rw [hx] at e1
  rw [hy] at e2
  cases e1; cases e2
  exact pair_new hr hT rx ry
end
def strD (x : Str) : List D := x.cps.toList.map fun c => D.str ⟨#[c]⟩
theorem wks_str {K : PySem.W.Frag} {ct : CT} {m : List Addr} {ah : Hs} {H : Hp} (x : Str) : Wks K ct (strD x) m ah H (Its x) := fun m2 h2 H2 hr ex => by
  refine ⟨fun i hi => by unfold strD at hi; rw [List.length_map, Array.length_toList] at hi; exact hi, fun i d hd => ?_⟩
  unfold strD at hd
  rw [List.getElem?_map, Array.getElem?_toList] at hd
  cases q : x.cps[i]? with
  | none => rw [q] at hd; cases hd
  | some c =>
    rw [q] at hd; cases hd
    refine ⟨(Array.getElem?_eq_some_iff.mp q).1, fun v H3 hv => ?_⟩
    obtain ⟨rfl, c', hc, rfl⟩ := hv
    rw [q] at hc; cases hc
    exact ⟨hr, Ext.refl _ _ _, .str _⟩
def iEn (f : SemA) : SemI := fun σ h => rb (f σ h) fun xs h1 => match xs with
  | [x] => (match pureLst x with
    | some ds => .ok (enumD ds) h1
    | none => .bad)
  | _ => .bad
def iZp (f : SemA) : SemI := fun σ h => rb (f σ h) fun xs h1 => match xs with
  | [x, y] => (match pureLst x, pureLst y with
    | some ds, some es => .ok (zipD ds es) h1
    | _, _ => (match pureTup x, pureTup y with
      | some ds, some es => .ok (zipD ds es) h1
      | _, _ => .bad))
  | _ => .bad
def iSt (f : SemE) : SemI := fun σ h => rb (f σ h) fun x h1 => match x with
  | .d (.str z) => .ok (strD z) h1
  | _ => .bad
/-- a small number, told without reckoning on its sign -/
def smI (j : Int) : Bool := Nat.ble j.natAbs 1000000000
theorem smI_ok {j : Int} (h : smI j = true) : j < 2 ^ 62 ∧ -(2 ^ 62) ≤ j := by
  have := Nat.le_of_ble_eq_true h
  omega
def iA1 (f : SemA) : SemI := fun σ h => rb (f σ h) fun xs h1 => match xs with
  | [.d (.int j)] => if smI j = true then .ok (rngD 0 j.toNat) h1 else .bad
  | _ => .bad
def iA2 (f : SemA) : SemI := fun σ h => rb (f σ h) fun xs h1 => match xs with
  | [.d (.int i), .d (.int j)] => if smI i = true ∧ smI j = true then .ok (rngD i (j - i).toNat) h1 else .bad
  | _ => .bad
section
variable {X : Cx} {ct : CT} {W : WX} {tg e e2 : Expr} {f : SemE} {fs : SemA} {p pos tpos : Pos} {elts : List Expr} {kk : Nat}
theorem si_list (he : SE X ct W e f) : SI X ct W tg e (iLs f) :=
  PI.imp (pi_list he) fun σV H R ⟨m, ah, σ, hr, lr, p⟩ => ⟨m, ah, σ, hr, lr, (Po.bind (R := VlR X.K ct) p).imp fun v H1 ⟨m1, h1, x, hr1, e1, r1, p1⟩ => by
    dsimp only at p1
    split at p1
    · rename_i ds q
      obtain ⟨a, vs, rfl, h, s, r⟩ := pureLst_of q r1
      exact ⟨a, rfl, ⟨vs, sqL_uniq (ys := vs) h⟩, p1 m1 H1 _ hr1 (Ext.refl _ _ _) (wks_list h s r)⟩
    · exact p1.elim⟩
theorem si_tup (he : SE X ct W e f) : SI X ct W tg e (iTu f) :=
  PI.imp (pi_tup he) fun σV H R ⟨m, ah, σ, hr, lr, p⟩ => ⟨m, ah, σ, hr, lr, (Po.bind (R := VlR X.K ct) p).imp fun v H1 ⟨m1, h1, x, hr1, e1, r1, p1⟩ => by
    dsimp only at p1
    split at p1
    · rename_i ds q
      unfold pureTup at q
      split at q
      · cases q
        cases r1 with
        | tup h r => exact ⟨_, rfl, ⟨_, sqT_of h⟩, p1 m1 H1 _ hr1 (Ext.refl _ _ _) (wks_tup h r)⟩
      · cases q
    · exact p1.elim⟩
theorem si_rng1 (hg : Gl X "range") (hm : X.mg "range" = none) (ha : SA X ct W [e] fs) (hs : starEach [e] X.env = [(false, eval e X.env)] := by rfl) : SI X ct W tg (.Call (.Name "range" p) [e] [] pos) (iA1 fs) :=
  PI.imp (pi_range1 hg hm ha hs) fun σV H R ⟨m, ah, σ, hr, lr, p⟩ => ⟨m, ah, σ, hr, lr, (Po.bind (R := VlRs X.K ct) p).imp fun vs H1 ⟨m1, h1, x, hr1, e1, r1, p1⟩ => by
    dsimp only at p1
    split at p1
    · rename_i j
      cases r1 with
      | cons r t =>
        cases t; cases r
        split at p1
        · rename_i hj
          exact ⟨j, rfl, (smI_ok hj).2, (smI_ok hj).1, p1 m1 H1 _ hr1 (Ext.refl _ _ _) (wks_rng 0 _)⟩
        · exact p1.elim
    · exact p1.elim⟩
theorem si_rng2 (hg : Gl X "range") (hm : X.mg "range" = none) (ha : SA X ct W [e, e2] fs) (hs : starEach [e, e2] X.env = [(false, eval e X.env), (false, eval e2 X.env)] := by rfl) (hs2 : starEach [e2] X.env = [(false, eval e2 X.env)] := by rfl) :
    SI X ct W tg (.Call (.Name "range" p) [e, e2] [] pos) (iA2 fs) :=
  PI.imp (pi_range2 hg hm ha hs hs2) fun σV H R ⟨m, ah, σ, hr, lr, p⟩ => ⟨m, ah, σ, hr, lr, (Po.bind (R := VlRs X.K ct) p).imp fun vs H1 ⟨m1, h1, x, hr1, e1, r1, p1⟩ => by
    dsimp only at p1
    split at p1
    · rename_i i j
      cases r1 with
      | cons r t =>
        cases t with
        | cons r2 t =>
          cases t; cases r; cases r2
          split at p1
          · rename_i hj
            exact ⟨i, j, rfl, ⟨(smI_ok hj.1).2, (smI_ok hj.1).1, (smI_ok hj.2).2, (smI_ok hj.2).1⟩, p1 m1 H1 _ hr1 (Ext.refl _ _ _) (wks_rng i _)⟩
          · exact p1.elim
    · exact p1.elim⟩
theorem si_enum (hg : Gl X "enumerate") (hm : X.mg "enumerate" = none) (ha : SA X ct W [e] fs) (hs : starEach [e] X.env = [(false, eval e X.env)] := by rfl) : SI X ct W (.Tuple elts kk tpos) (.Call (.Name "enumerate" p) [e] [] pos) (iEn fs) :=
  PI.imp (pi_enum hg hm ha hs) fun σV H R ⟨m, ah, σ, hr, lr, p⟩ => ⟨m, ah, σ, hr, lr, (Po.bind (R := VlRs X.K ct) p).imp fun vs H1 ⟨m1, h1, x, hr1, e1, r1, p1⟩ => by
    dsimp only at p1
    split at p1
    · cases r1 with
      | cons r t =>
        cases t
        split at p1
        · rename_i ds q
          obtain ⟨a, vs, rfl, h, s, r⟩ := pureLst_of q r
          exact ⟨a, vs, rfl, sqL_uniq (ys := vs) h, p1 m1 H1 _ hr1 (Ext.refl _ _ _) (wks_enum h s r)⟩
        · exact p1.elim
    · exact p1.elim⟩
theorem si_zip (hg : Gl X "zip") (hm : X.mg "zip" = none) (ha : SA X ct W [e, e2] fs)
    (hs : starEach [e, e2] X.env = (false, eval e X.env) :: starEach [e2] X.env := by rfl) (hpl : (backTo pos (starEach [e2] X.env)).any (·.1) = false := by rfl) :
    SI X ct W (.Tuple elts kk tpos) (.Call (.Name "zip" p) [e, e2] [] pos) (iZp fs) :=
  PI.imp (RZ.pi_zipA hg hm ha hs hpl) fun σV H R ⟨m, ah, σ, hr, lr, p⟩ => ⟨m, ah, σ, hr, lr, (Po.bind (R := VlRs X.K ct) p).imp fun vs H1 ⟨m1, h1, x, hr1, e1, r1, p1⟩ => by
    dsimp only at p1
    split at p1
    · cases r1 with
      | cons r t =>
        cases t with
        | cons r2 t =>
          cases t
          split at p1
          · rename_i ds es q1 q2
            obtain ⟨a, vs, rfl, h, s, r⟩ := pureLst_of q1 r
            obtain ⟨b, ws, rfl, h2, s2, r2⟩ := pureLst_of q2 r2
            exact ⟨a, b, vs, ws, rfl, .inl ⟨sqL_uniq (ys := vs) h, sqL_uniq (ys := ws) h2, p1 m1 H1 _ hr1 (Ext.refl _ _ _) (wks_zip h s r h2 s2 r2)⟩⟩
          · split at p1
            · rename_i ds es q1 q2
              unfold pureTup at q1 q2
              split at q1
              · cases q1
                split at q2
                · cases q2
                  cases r with
                  | tup h r =>
                    cases r2 with
                    | tup h2 r2 => exact ⟨_, _, _, _, rfl, .inr ⟨sqT_of h, sqT_of h2, p1 m1 H1 _ hr1 (Ext.refl _ _ _) (wks_zipT h r h2 r2)⟩⟩
                · cases q2
              · cases q1
            · exact p1.elim
    · exact p1.elim⟩
theorem si_str (he : SE X ct W e f) : SI X ct W tg e (iSt f) :=
  PI.imp (pi_str he) fun σV H R ⟨m, ah, σ, hr, lr, p⟩ => ⟨m, ah, σ, hr, lr, (Po.bind (R := VlR X.K ct) p).imp fun v H1 ⟨m1, h1, x, hr1, e1, r1, p1⟩ => by
    dsimp only at p1
    split at p1
    · cases r1
      exact ⟨_, rfl, p1 m1 H1 _ hr1 (Ext.refl _ _ _) (wks_str _)⟩
    · exact p1.elim⟩
end

/-! ### for -/
/-- forget the objects from the n-th on -/
def clr (n : Nat) (σ : Lo) : Lo := σ.map fun o => match o with
  | some (.r k) => if k < n then some (.r k) else none
  | o => o
def forL (g : SemG) (body : SemS) : List D → Lo → Hs → RS
  | [], σ, h => .ok .nx σ h
  | d :: ds, σ, h => match g (.d d) σ h with
    | none => .bad
    | some (σ1, h1) => match body σ1 h1 with
      | .ok .nx σ2 h2 => forL g body ds (clr h.length σ2) (h2.take h.length)
      | .ok .cnt σ2 h2 => forL g body ds (clr h.length σ2) (h2.take h.length)
      | .ok .brk σ2 h2 => .ok .nx (clr h.length σ2) (h2.take h.length)
      | .ok (.ret v) σ2 h2 => .ok (.ret v) σ2 h2
      | .exc e σ2 h2 => .exc e σ2 h2
      | .bad => .bad
def sFor (it : SemI) (g : SemG) (body : SemS) : SemS := fun σ h => sb (it σ h) σ fun ds h1 => forL g body ds σ h1
/-- .. where new objects outlive a turn -/
def forN (g : SemG) (body : SemS) : List D → Lo → Hs → RS
  | [], σ, h => .ok .nx σ h
  | d :: ds, σ, h => match g (.d d) σ h with
    | none => .bad
    | some (σ1, h1) => match body σ1 h1 with
      | .ok .nx σ2 h2 => forN g body ds σ2 h2
      | .ok .cnt σ2 h2 => forN g body ds σ2 h2
      | .ok .brk σ2 h2 => .ok .nx σ2 h2
      | .ok (.ret v) σ2 h2 => .ok (.ret v) σ2 h2
      | .exc e σ2 h2 => .exc e σ2 h2
      | .bad => .bad
def sForN (it : SemI) (g : SemG) (body : SemS) : SemS := fun σ h => sb (it σ h) σ fun ds h1 => forN g body ds σ h1
section
variable {K : PySem.W.Frag} {ct : CT} {W : WX} {m m' : List Addr} {ah ah' : Hs} {H H' : Hp}
theorem LR.clr {σ : Lo} {σV : L2.St} (hr : HR K ct m' ah' H') (e : Ext m ah H m' ah' H') (hl : m.length = ah.length) (lr : LR K ct m' ah' H' σ σV) : LR K ct m (ah'.take ah.length) H' (clr ah.length σ) σV := by
  refine ⟨by unfold Mi.clr; rw [List.length_map]; exact lr.len, fun i x hx => ?_⟩
  unfold Mi.clr at hx
  rw [List.getElem?_map] at hx
  have kp := (hr.trim m.length).2
  have em : m'.take m.length = m := by
    obtain ⟨t, rfl⟩ := e.pre
    rw [List.take_left' rfl]
  rw [em, hl] at kp
  cases q : σ[i]? with
  | none => rw [q] at hx; cases hx
  | some o =>
    rw [q] at hx
    cases o with
    | none => simp at hx
    | some y =>
      obtain ⟨v, hv, rv⟩ := lr.at_ i y q
      cases y with
      | d y =>
        simp only [Option.map_some, Option.some.injEq] at hx
        subst hx
        exact ⟨v, hv, DR.mono kp rv⟩
      | r k =>
        simp only [Option.map_some, Option.some.injEq] at hx
        split at hx
        · rename_i hk
          cases hx
          obtain ⟨a, ha, rfl⟩ := rv
          refine ⟨_, hv, a, ?_, rfl⟩
          obtain ⟨t, rfl⟩ := e.pre
          rw [List.getElem?_append_left (by rw [hl]; exact hk)] at ha
          exact ha
        · cases hx
theorem HR.trim' (hr : HR K ct m ah H) (h' : HR K ct m' ah' H') (e : Ext m ah H m' ah' H') : HR K ct m (ah'.take ah.length) H' ∧ Ext m ah H m (ah'.take ah.length) H' := by
  rw [← hr.len]
  exact ⟨HR.trimmed h' e, Ext.trimmed h' e⟩
end
section
variable {X : Cx} {ct : CT} {W : WX} {pos : Pos} {tg iter : Expr} {body : List Stmt} {it : SemI} {g : SemG} {u : SemS}
theorem rd_for {D : Ends} {σV : L2.St} {H : Hp} (h : rdS X.K ct W (sFor it g u) D σV H) : tFor (rdI X.K ct W it) (rdG X.K ct g) (rdS X.K ct W u) D σV H := by
  obtain ⟨m, ah, σ, hr, lr, p⟩ := h
  refine ⟨m, ah, σ, hr, lr, (PoS.bind (R := fun m1 h1 H1 ds J => Wks X.K ct ds m1 h1 H1 J) lr p).imp fun J H1 ⟨m1, h1, ds, hr1, e1, w1, p1⟩ => ?_⟩
  dsimp only at p1 w1
  refine ⟨fun i n σV H => n = ds.length - i ∧ i ≤ ds.length ∧ ∃ m2 h2 σ2, HR X.K ct m2 h2 H ∧ LR X.K ct m2 h2 H σ2 σV ∧ Ext m1 h1 H1 m2 h2 H ∧ PoS X.K ct W D m2 h2 H (forL g u (ds.drop i) σ2 h2),
    ⟨ds.length, by simp, Nat.zero_le _, m1, h1, σ, hr1, lr.ext e1, Ext.refl _ _ _, by rw [List.drop_zero]; exact p1⟩, ?_⟩
  rintro i n σV2 H2 ⟨rfl, hi, m2, h2, σ2, hr2, l2, e2, p2⟩
  obtain ⟨ws, wg⟩ := w1 m2 h2 H2 hr2 e2.kp
  by_cases hlt : i < ds.length
  · rw [List.drop_eq_getElem_cons hlt] at p2
    obtain ⟨go, wy⟩ := wg i _ (List.getElem?_eq_getElem hlt)
    refine .inr ⟨go, fun σV3 H3 => ∃ m3 h3 σ3, HR X.K ct m3 h3 H3 ∧ LR X.K ct m3 h3 H3 σ3 σV3 ∧ Ext m1 h1 H1 m3 h3 H3 ∧ PoS X.K ct W D m3 h3 H3 (forL g u (ds.drop (i + 1)) σ3 h3),
      fun σV3 H3 ⟨m3, h3, σ3, q1, q2, q3, q4⟩ => ⟨ds.length - (i + 1), by omega, rfl, hlt, m3, h3, σ3, q1, q2, q3, q4⟩, fun x H3 hy => ?_⟩
    obtain ⟨hr3, e3, rd⟩ := wy x H3 hy
    refine ⟨m2, h2, σ2, .d _, hr3, l2.ext e3, rd, ?_⟩
    rw [forL] at p2
    cases q : g (.d ds[i]) σ2 h2 with
    | none => rw [q] at p2; exact p2.elim
    | some z =>
      obtain ⟨σ4, h4⟩ := z
      rw [q] at p2
      dsimp only at p2
      refine fun m4 H4 σV4 hr4 e4 l4 => ⟨m4, h4, σ4, hr4, l4, ?_⟩
      have e14 := (e2.trans e3).trans e4
      cases q2 : u σ4 h4 with
      | bad => rw [q2] at p2; exact p2.elim
      | exc e σ5 h5 =>
        rw [q2] at p2
        exact fun m5 H5 σV5 c d hr5 e5 l5 x5 => p2 m5 H5 σV5 c d hr5 ((e3.trans e4).trans e5) l5 x5
      | ok f σ5 h5 =>
        rw [q2] at p2
        cases f with
        | nx =>
          refine fun m5 H5 σV5 hr5 e5 l5 => ?_
          obtain ⟨hr6, e6⟩ := HR.trim' hr2 hr5 ((e3.trans e4).trans e5)
          exact ⟨m2, _, _, hr6, LR.clr hr5 ((e3.trans e4).trans e5) hr2.len l5, e2.trans e6, PoS.ext p2 e6⟩
        | cnt =>
          refine fun m5 H5 σV5 hr5 e5 l5 => ?_
          obtain ⟨hr6, e6⟩ := HR.trim' hr2 hr5 ((e3.trans e4).trans e5)
          exact ⟨m2, _, _, hr6, LR.clr hr5 ((e3.trans e4).trans e5) hr2.len l5, e2.trans e6, PoS.ext p2 e6⟩
        | brk =>
          refine fun m5 H5 σV5 hr5 e5 l5 => ?_
          obtain ⟨hr6, e6⟩ := HR.trim' hr2 hr5 ((e3.trans e4).trans e5)
          exact p2 m2 H5 σV5 hr6 e6 (LR.clr hr5 ((e3.trans e4).trans e5) hr2.len l5)
        | ret v => exact fun m5 H5 σV5 hr5 e5 l5 => p2 m5 H5 σV5 hr5 ((e3.trans e4).trans e5) l5
  · have e : i = ds.length := by omega
    subst e
    rw [List.drop_length] at p2
    exact .inl ⟨ws _ (Nat.le_refl _), PoS.nx hr2 l2 p2⟩
theorem ss_for (hp : PassesOwn (model X.prog X.w) X.A X.env X.xe) (hc : X.calm = true) (hi : SI X ct W tg iter it) (hg : SG X ct tg g) (hb : SSs X ct W body u)
    (hs : ∀ x, foldedSetIterable iter X.env x = pure x := by intro _; rfl) : SS X ct W (.For tg iter body [] pos) (sFor it g u) := PS.imp (ps_for hp hc hi hg hb hs) fun _ _ _ h => rd_for h
theorem rd_forN {D : Ends} {σV : L2.St} {H : Hp} (h : rdS X.K ct W (sForN it g u) D σV H) : tFor (rdI X.K ct W it) (rdG X.K ct g) (rdS X.K ct W u) D σV H := by
  obtain ⟨m, ah, σ, hr, lr, p⟩ := h
  refine ⟨m, ah, σ, hr, lr, (PoS.bind (R := fun m1 h1 H1 ds J => Wks X.K ct ds m1 h1 H1 J) lr p).imp fun J H1 ⟨m1, h1, ds, hr1, e1, w1, p1⟩ => ?_⟩
  dsimp only at p1 w1
  refine ⟨fun i n σV H => n = ds.length - i ∧ i ≤ ds.length ∧ ∃ m2 h2 σ2, HR X.K ct m2 h2 H ∧ LR X.K ct m2 h2 H σ2 σV ∧ Ext m1 h1 H1 m2 h2 H ∧ PoS X.K ct W D m2 h2 H (forN g u (ds.drop i) σ2 h2),
    ⟨ds.length, by simp, Nat.zero_le _, m1, h1, σ, hr1, lr.ext e1, Ext.refl _ _ _, by rw [List.drop_zero]; exact p1⟩, ?_⟩
  rintro i n σV2 H2 ⟨rfl, hi, m2, h2, σ2, hr2, l2, e2, p2⟩
  obtain ⟨ws, wg⟩ := w1 m2 h2 H2 hr2 e2.kp
  by_cases hlt : i < ds.length
  · rw [List.drop_eq_getElem_cons hlt] at p2
    obtain ⟨go, wy⟩ := wg i _ (List.getElem?_eq_getElem hlt)
    refine .inr ⟨go, fun σV3 H3 => ∃ m3 h3 σ3, HR X.K ct m3 h3 H3 ∧ LR X.K ct m3 h3 H3 σ3 σV3 ∧ Ext m1 h1 H1 m3 h3 H3 ∧ PoS X.K ct W D m3 h3 H3 (forN g u (ds.drop (i + 1)) σ3 h3),
      fun σV3 H3 ⟨m3, h3, σ3, q1, q2, q3, q4⟩ => ⟨ds.length - (i + 1), by omega, rfl, hlt, m3, h3, σ3, q1, q2, q3, q4⟩, fun x H3 hy => ?_⟩
    obtain ⟨hr3, e3, rd⟩ := wy x H3 hy
    refine ⟨m2, h2, σ2, .d _, hr3, l2.ext e3, rd, ?_⟩
    rw [forN] at p2
    cases q : g (.d ds[i]) σ2 h2 with
    | none => rw [q] at p2; exact p2.elim
    | some z =>
      obtain ⟨σ4, h4⟩ := z
      rw [q] at p2
      dsimp only at p2
      refine fun m4 H4 σV4 hr4 e4 l4 => ⟨m4, h4, σ4, hr4, l4, ?_⟩
      cases q2 : u σ4 h4 with
      | bad => rw [q2] at p2; exact p2.elim
      | exc e σ5 h5 =>
        rw [q2] at p2
        exact fun m5 H5 σV5 c d hr5 e5 l5 x5 => p2 m5 H5 σV5 c d hr5 ((e3.trans e4).trans e5) l5 x5
      | ok f σ5 h5 =>
        rw [q2] at p2
        cases f with
        | nx => exact fun m5 H5 σV5 hr5 e5 l5 => ⟨m5, h5, σ5, hr5, l5, e2.trans ((e3.trans e4).trans e5), PoS.ext p2 ((e3.trans e4).trans e5)⟩
        | cnt => exact fun m5 H5 σV5 hr5 e5 l5 => ⟨m5, h5, σ5, hr5, l5, e2.trans ((e3.trans e4).trans e5), PoS.ext p2 ((e3.trans e4).trans e5)⟩
        | brk => exact fun m5 H5 σV5 hr5 e5 l5 => p2 m5 H5 σV5 hr5 ((e3.trans e4).trans e5) l5
        | ret v => exact fun m5 H5 σV5 hr5 e5 l5 => p2 m5 H5 σV5 hr5 ((e3.trans e4).trans e5) l5
  · have e : i = ds.length := by omega
    subst e
    rw [List.drop_length] at p2
    exact .inl ⟨ws _ (Nat.le_refl _), PoS.nx hr2 l2 p2⟩
theorem ss_forN (hp : PassesOwn (model X.prog X.w) X.A X.env X.xe) (hc : X.calm = true) (hi : SI X ct W tg iter it) (hg : SG X ct tg g) (hb : SSs X ct W body u)
    (hs : ∀ x, foldedSetIterable iter X.env x = pure x := by intro _; rfl) : SS X ct W (.For tg iter body [] pos) (sForN it g u) := PS.imp (ps_for hp hc hi hg hb hs) fun _ _ _ h => rd_forN h
end

/-! ### while -/
def whL (t : SemT) (body : SemS) : Nat → Lo → Hs → RS
  | 0, _, _ => .bad
  | n + 1, σ, h => sb (t σ h) σ fun b h1 => if b = true then (match body σ h1 with
      | .ok .nx σ2 h2 => whL t body n (clr h.length σ2) (h2.take h.length)
      | .ok .cnt σ2 h2 => whL t body n (clr h.length σ2) (h2.take h.length)
      | .ok .brk σ2 h2 => .ok .nx (clr h.length σ2) (h2.take h.length)
      | .ok (.ret v) σ2 h2 => .ok (.ret v) σ2 h2
      | .exc e σ2 h2 => .exc e σ2 h2
      | .bad => .bad) else .ok .nx σ h1
/-- as many turns as anything may ask -/
def most : Nat := 10 ^ 30
def sWh (t : SemT) (body : SemS) : SemS := whL t body most
theorem whL_more {t : SemT} {body : SemS} : ∀ (n k : Nat) (σ : Lo) (h : Hs), whL t body n σ h ≠ .bad → whL t body (n + k) σ h = whL t body n σ h
  | 0, k, σ, h, hb => absurd rfl hb
  | n + 1, k, σ, h, hb => by
    rw [show n + 1 + k = (n + k) + 1 by omega, whL, whL]
    rw [whL] at hb
    cases e : t σ h with
    | bad => rfl
    | exc x h1 => rfl
    | ok b h1 =>
      rw [e] at hb
      simp only [sb_ok] at hb ⊢
      cases b with
      | false => rfl
      | true =>
        simp only [if_true] at hb ⊢
        cases e2 : body σ h1 with
        | bad => rfl
        | exc x σ2 h2 => rfl
        | ok f σ2 h2 =>
          rw [e2] at hb
          cases f with
          | nx => exact whL_more n k _ _ hb
          | cnt => exact whL_more n k _ _ hb
          | brk => rfl
          | ret v => rfl
/-- a while comes to an end in n turns -/
theorem sWh_of {t : SemT} {body : SemS} {n : Nat} {σ : Lo} {h : Hs} {r : RS} (e : whL t body n σ h = r) (hr : r ≠ .bad) (hn : n ≤ most) : sWh t body σ h = r := by
  unfold sWh
  obtain ⟨k, hk⟩ : ∃ k, most = n + k := ⟨most - n, by omega⟩
  rw [hk, whL_more n k σ h (by rw [e]; exact hr), e]
section
variable {X : Cx} {ct : CT} {W : WX} {pos : Pos} {c : Expr} {body : List Stmt} {t : SemT} {u : SemS}
theorem rd_while {D : Ends} {σV : L2.St} {H : Hp} (h : rdS X.K ct W (sWh t u) D σV H) : tWhile (rdT X.K ct W t) (rdS X.K ct W u) D σV H := by
  obtain ⟨m, ah, σ, hr, lr, p⟩ := h
  refine ⟨fun n σV H => ∃ m2 h2 σ2, HR X.K ct m2 h2 H ∧ LR X.K ct m2 h2 H σ2 σV ∧ PoS X.K ct W D m2 h2 H (whL t u n σ2 h2), ⟨most, m, ah, σ, hr, lr, p⟩, ?_⟩
  rintro n σV2 H2 ⟨m2, h2, σ2, hr2, l2, p2⟩
  cases n with
  | zero => exact p2.elim
  | succ n =>
    rw [whL] at p2
    refine ⟨m2, h2, σ2, hr2, l2, ?_⟩
    cases e : t σ2 h2 with
    | bad => rw [e] at p2; exact p2.elim
    | exc x h3 => rw [e] at p2; exact fun m3 H3 c d hr3 e3 x3 => p2 m3 H3 σV2 c d hr3 e3 (l2.ext e3) x3
    | ok b h3 =>
      rw [e] at p2
      simp only [sb_ok] at p2
      refine fun m3 H3 b' hr3 e3 r3 => ?_
      subst r3
      cases b with
      | false => exact p2 m3 H3 σV2 hr3 e3 (l2.ext e3)
      | true =>
        refine ⟨fun σV4 H4 => ∃ m4 h4 σ4, HR X.K ct m4 h4 H4 ∧ LR X.K ct m4 h4 H4 σ4 σV4 ∧ PoS X.K ct W D m4 h4 H4 (whL t u n σ4 h4), fun σV4 H4 q => ⟨n, Nat.lt_succ_self _, q⟩, m3, h3, σ2, hr3, l2.ext e3, ?_⟩
        simp only [if_true] at p2
        cases q2 : u σ2 h3 with
        | bad => rw [q2] at p2; exact p2.elim
        | exc e σ5 h5 =>
          rw [q2] at p2
          exact fun m5 H5 σV5 c d hr5 e5 l5 x5 => p2 m5 H5 σV5 c d hr5 (e3.trans e5) l5 x5
        | ok f σ5 h5 =>
          rw [q2] at p2
          cases f with
          | nx =>
            refine fun m5 H5 σV5 hr5 e5 l5 => ?_
            obtain ⟨hr6, e6⟩ := HR.trim' hr2 hr5 (e3.trans e5)
            exact ⟨m2, _, _, hr6, LR.clr hr5 (e3.trans e5) hr2.len l5, PoS.ext p2 e6⟩
          | cnt =>
            refine fun m5 H5 σV5 hr5 e5 l5 => ?_
            obtain ⟨hr6, e6⟩ := HR.trim' hr2 hr5 (e3.trans e5)
            exact ⟨m2, _, _, hr6, LR.clr hr5 (e3.trans e5) hr2.len l5, PoS.ext p2 e6⟩
          | brk =>
            refine fun m5 H5 σV5 hr5 e5 l5 => ?_
            obtain ⟨hr6, e6⟩ := HR.trim' hr2 hr5 (e3.trans e5)
            exact p2 m2 H5 σV5 hr6 e6 (LR.clr hr5 (e3.trans e5) hr2.len l5)
          | ret v => exact fun m5 H5 σV5 hr5 e5 l5 => p2 m5 H5 σV5 hr5 (e3.trans e5) l5
theorem ss_while (hp : PassesOwn (model X.prog X.w) X.A X.env X.xe) (hc : ST X ct W c t) (hb : SSs X ct W body u) : SS X ct W (.While c body [] pos) (sWh t u) := PS.imp (ps_while hp hc hb) fun _ _ _ h => rd_while h
end
end Mi

/-! Mi6: defs and their calls, instances -/
namespace Mi
open PySem PySem.Spec L2

/-! ### calls that know that no repr is under way -/
structure Room (k : Nat) (A : Around) : Prop extends L2.Room k A where
  gd : A.guards = some []
theorem Room.mono {j k : Nat} {A : Around} (r : Room k A) (h : j ≤ k) : Room j A := ⟨r.toRoom.mono h, r.gd⟩
theorem Room.units {k : Nat} {A : Around} (r : Room k A) : A.units + 64 < cLine := r.toRoom.units
theorem Room.units0 {k : Nat} {A : Around} (r : Room k A) : A.units < cLine := r.toRoom.units0
theorem Room.depth {k : Nat} {A : Around} (r : Room k A) : A.depth < recursionLimit := r.toRoom.depth
theorem Room.deeper {k : Nat} {A : Around} (r : Room (k + 1) A) (env : Env) : Room k (A.deeper env) := ⟨r.toRoom.deeper env, r.gd⟩
theorem make_guards {A : Around} {C : Addr} {us : List Value} {kw : List (Str × Value)} (h : A.guards = some []) : (A.under (.builtin "type.__call__" ⟨.ref C :: us, kw⟩)).guards = some [] := by
  show pushGuards (Code.guards (.builtin "type.__call__" ⟨.ref C :: us, kw⟩)) A.guards = some []
  rw [h, show Code.guards (.builtin "type.__call__" ⟨.ref C :: us, kw⟩) = [] by simp [Code.guards, Code.isGuard, guardIds]]
  rfl
theorem Room.make {k : Nat} {A : Around} (r : Room (k + 1) A) (C : Addr) (us : List Value) (kw : List (Str × Value)) : Room k (A.under (.builtin "type.__call__" ⟨.ref C :: us, kw⟩)) := ⟨r.toRoom.make C us kw, make_guards r.gd⟩
structure FnOk (P : Program) (w : World) (K : PySem.W.Frag) (mg : Str → Option Value) (base : Heap) (CX : CXT) (k : Nat) (f : Addr) (fd : FuncData) (ps : List Str) (sp : Sp) : Prop where
  len : ∀ vs H Q E, sp vs H Q E → vs.length = ps.length
  run : ∀ (A : Around) (outer : List Env) (s : Shared) (H : Hp) (args : Args) (us : List Value) (vs : List V) (Q : VK) (E : XK), Room k A → Env0 P w K mg base A outer s H → BindsTo s fd args (ps.zip us) → Vals vs us → sp vs H Q E → codeAny (model P w) A (.call (.ref f) args) (CR CX outer P w H s Q E) s
/-- a def keeps its promise if its body does -/
theorem fun_ok {P : Program} {w : World} {K : PySem.W.Frag} {mg : Str → Option Value} {base : Heap} {x qual : Str} {params : Arguments} {body : List Stmt} {scope : Scope} {dvs : List V} {kws : List (Str × V)} {f : Addr} {fd : FuncData} {CX : CXT} {N ps : List Str} {k : Nat} {sp : Sp}
    (F : FunD K x qual params body scope dvs kws f fd) (S : FnScope N ps scope) (len : ∀ vs H Q E, sp vs H Q E → vs.length = ps.length)
    (hbody : ∀ (cdv : Value) (A : Around) (outer : List Env) (s : Shared) (H : Hp) (vs : List V) (Q : VK) (E : XK), Room k (A.deeper (PyProof.Rows.envOfC qual scope s.heap.objs.size f cdv)) → sp vs H Q E →
      ∃ t, PSs (cxOf CX P w K mg base N qual scope f cdv A outer s H E) body t ∧ t { nx := fun _ H' => Q .non H', rt := Q } (L2.start N vs) H) : FnOk P w K mg base CX (k + 1) f fd ps sp := by
  obtain ⟨oc, od, dV, kV, doc, pm, an, cdv, ct, osl, rfl, lk, hcd, _, _⟩ := F.ex
  refine ⟨len, fun A outer s H args us vs Q E hr e0 hb r hsp => ?_⟩
  have l0 := len _ _ _ _ hsp
  have kin : K.In s.heap := e0.mod.kin.keeps fun b o e => (e0.bs b o e).1
  have nolim : s.heap.NoLimit := e0.mod.nolimit.keeps fun b o e => (e0.bs b o e).1
  have kinds : ∀ y ∈ ps.zip us, scope.names.lookup y.1 = some .local ∨ (scope.names.lookup y.1 = some .cell ∧ ((cellsFrom (s.heap.objs.size + 1) scope.names []).lookup y.1).isSome = true) := fun ⟨n, v⟩ hy =>
    (S.par n (List.of_mem_zip hy).1).imp id fun q => ⟨q, PySem.W.cellsFrom_some _ _ _ (.inl q)⟩
  refine codeAny_call_function hr.depth (kin _ _ lk) rfl S.co S.gen rfl (PySem.W.codeRec_of kin hcd) (hb _ _ _ _ (wpAny_newFunctionEnv_cells S.kind kinds fun env he s1 y => ?_))
  subst he
  refine ⟨nolim.keeps y.toInCall.keep, codeAny_func ?_⟩
  obtain ⟨t, ht, hq⟩ := hbody cdv A outer s H vs Q E (hr.deeper _) hsp
  have I0 : Inv (cxOf CX P w K mg base N qual scope f cdv A outer s H E) [] (L2.start N vs) H s1 := inv_start S hr.hd e0 l0 r y
  refine wpAny_mono (ht.run [] s1 (L2.start N vs) H _ I0 hq) (fun fl s' z => ?_) fun e s' z => z
  have done : ∀ {σ' : L2.St} {H' : Hp} {v : V} {u : Value}, Inv (cxOf CX P w K mg base N qual scope f cdv A outer s H E) [] σ' H' s' → RelV v u → Q v H' → CE outer P w H s Q u s' := fun {σ' H' v u} J rv q => ⟨v, H', J.os, J.bare, J.base, J.hok, rv, q⟩
  cases fl with
  | ret u => obtain ⟨v, σ', H', J, rv, q⟩ := z; exact done J rv q
  | next => obtain ⟨σ', H', J, q⟩ := z; exact done (v := V.non) (u := Value.none) J rfl q
  | brk => obtain ⟨_, _, _, q⟩ := z; exact q.elim
  | cont => obtain ⟨_, _, _, q⟩ := z; exact q.elim
theorem run_fnG {X : Cx} {CX : CXT} {k : Nat} {f : Addr} {fd : FuncData} {ps : List Str} {sp : Sp} {dvs : List V} {ds : List Value} {E : L2.St → XK} {pins : List (Addr × Obj)} {σ : L2.St} {H : Hp} {s : Shared} {Q : VK} {us : List Value} {vs : List V}
    (F : FnOk X.prog X.w X.K X.mg X.base CX k f fd ps sp) (hr : Room k X.A) (hb : Binds X.K fd ps ds) (hd : Vals dvs ds) (hx : PassesAt CX X σ (E σ)) (I : Inv X pins σ H s) (r : Vals vs us) (h : sp (vs ++ dvs) H Q (E σ)) : wpAny (model X.prog X.w) X.A (PySem.call (.ref f) us) (EP X pins σ Q) X.xe s := by
  have r2 : Vals (vs ++ dvs) (us ++ ds) := r.append hd
  have l2 : (us ++ ds).length = ps.length := by rw [← r2.length]; exact F.len _ _ _ _ h
  refine wpAny_call (codeAny_mono (F.run X.A X.stack s H ⟨us, []⟩ (us ++ ds) (vs ++ dvs) Q (E σ) hr I.env0 (hb s us I.kIn l2) r2 h) fun r s' q => ?_)
  cases r with
  | error e => exact hx pins H s e s' I q
  | ok fl => cases fl <;> first | exact I.after q | exact False.elim q

abbrev CallT := Nat → List Vl → Hs → Res Vl
structure MDef where
  np : Nat
  ns : Nat
  keep : Bool
  body : CallT → SemS
def startL (n : Nat) (xs : List Vl) : Lo := xs.map some ++ List.replicate (n - xs.length) none
/-- what a def hands back: data, or (keep) the changeable object itself -/
def retV (keep : Bool) (n0 : Nat) (v : Vl) (h : Hs) : Res Vl := match keep with
  | false => (match toD v h with
    | some (d, h') => .ok (.d d) (h'.take n0)
    | none => .bad)
  | true => (match v with
    | .d x => .ok (.d x) (h.take n0)
    | .r k => if k < n0 then .ok (.r k) (h.take n0) else (match h[k]? with
      | some o => .ok (.r n0) (h.take n0 ++ [o])
      | none => .bad))
def fin (keep : Bool) (n0 : Nat) (r : RS) : Res Vl := match r with
  | .ok .nx _ h => .ok (.d .non) (h.take n0)
  | .ok (.ret v) _ h => retV keep n0 v h
  | .exc e _ h => .exc e (h.take n0)
  | _ => .bad
def runD (md : MDef) (call : CallT) (xs : List Vl) (h : Hs) : Res Vl := if xs.length = md.np then fin md.keep h.length (md.body call (startL md.ns xs) h) else .bad
def callF (defs : List MDef) : Nat → CallT
  | 0 => fun _ _ _ => .bad
  | n + 1 => fun i xs h => match defs[i]? with
    | none => .bad
    | some md => runD md (callF defs n) xs h
theorem callF_len {defs : List MDef} {n i : Nat} {xs : List Vl} {h : Hs} {md : MDef} (hd : defs[i]? = some md) (hb : callF defs n i xs h ≠ .bad) : xs.length = md.np := by
  cases n with
  | zero => exact absurd rfl hb
  | succ n =>
    unfold callF at hb
    rw [hd] at hb
    dsimp only at hb
    unfold runD at hb
    by_cases e : xs.length = md.np
    · exact e
    · rw [if_neg e] at hb; exact absurd rfl hb
/-- what a caller is promised of def i -/
def spC (K : PySem.W.Frag) (ct : CT) (call : CallT) (i : Nat) : Sp := fun vs H Q E => ∃ m ah xs, HR K ct m ah H ∧ VlRs K ct m ah H xs vs ∧ Po K ct (fun c d _ H' => E c d H') [] (VlR K ct) m ah H (call i xs ah) Q

section
variable {K : PySem.W.Frag} {ct : CT} {W : WX} {m m' : List Addr} {ah ah' : Hs} {H H' : Hp}
theorem LR.start {xs : List Vl} {vs : List V} {N : List Str} (r : VlRs K ct m ah H xs vs) (hl : xs.length ≤ N.length) : LR K ct m ah H (startL N.length xs) (L2.start N vs) := by
  have hv : xs.length = vs.length := r.length
  unfold startL L2.start
  refine ⟨by simp [hv], fun i x hx => ?_⟩
  by_cases hi : i < xs.length
  · rw [List.getElem?_append_left (by simpa using hi), List.getElem?_map] at hx
    rw [List.getElem?_append_left (by simpa [← hv] using hi), List.getElem?_map]
    have get : ∀ {xs : List Vl} {vs : List V} {i : Nat} {x : Vl}, VlRs K ct m ah H xs vs → xs[i]? = some x → ∃ v, vs[i]? = some v ∧ VlR K ct m ah H x v := by
      intro xs vs i x r
      induction r generalizing i with
      | nil => intro e; simp at e
      | cons r t ih =>
        intro e
        cases i with
        | zero => simp at e; subst e; exact ⟨_, rfl, r⟩
        | succ i => simpa using ih (i := i) (by simpa using e)
    cases q : xs[i]? with
    | none => rw [q] at hx; cases hx
    | some y =>
      rw [q] at hx; cases hx
      obtain ⟨v, h1, h2⟩ := get r q
      exact ⟨v, by rw [h1]; rfl, h2⟩
  · rw [List.getElem?_append_right (by simpa using hi)] at hx
    rw [List.getElem?_replicate] at hx
    split at hx <;> cases hx
theorem fin_sound {keep : Bool} {E : XK} {r : RS} {Q : VK} (hr0 : HR K ct m ah H) (p : Po K ct (fun c d _ H' => E c d H') [] (VlR K ct) m ah H (fin keep ah.length r) Q) :
    PoS K ct (fun c d _ H' => E c d H') { nx := fun _ H' => Q .non H', rt := Q } m ah H r := by
  cases r with
  | bad => exact p
  | exc e σ h =>
    refine fun m1 H1 σV c d hr ex lr x => ?_
    obtain ⟨hr2, ex2⟩ := HR.trim' hr0 hr ex
    refine p m H1 c d hr2 ex2 ?_
    obtain ⟨x1, vs, x2, x3⟩ := x
    have kp := (hr.trim m.length).2
    obtain ⟨t, rfl⟩ := ex.pre
    rw [List.take_left' rfl, hr0.len] at kp
    exact ⟨x1, vs, x2.mono kp, x3.imp id fun ⟨dx, y1, y2, y3⟩ => ⟨dx, y1, (kp _ _ y2 y3).1, (kp _ _ y2 y3).2⟩⟩
  | ok f σ h =>
    cases f with
    | brk => exact p.elim
    | cnt => exact p.elim
    | nx =>
      refine fun m1 H1 σV hr ex lr => ?_
      obtain ⟨hr2, ex2⟩ := HR.trim' hr0 hr ex
      exact p m H1 .non hr2 ex2 .non
    | ret v =>
      refine fun m1 H1 σV hr ex lr u ru => ?_
      obtain ⟨hr2, ex2⟩ := HR.trim' hr0 hr ex
      have kp := (hr.trim m.length).2
      obtain ⟨t, et⟩ := ex.pre
      rw [et, List.take_left' rfl, hr0.len, ← et] at kp
      unfold fin retV at p
      cases keep with
      | false =>
        dsimp only at p
        cases e : toD v h with
        | none => rw [e] at p; exact p.elim
        | some q =>
          obtain ⟨d, h1⟩ := q
          rw [e] at p
          obtain ⟨hr3, ex3, r3⟩ := toD_sound hr e ru
          obtain ⟨hr4, ex4⟩ := HR.trim' hr0 hr3 (ex.trans ex3)
          have kp2 := (hr3.trim m.length).2
          rw [et, List.take_left' rfl, hr0.len, ← et] at kp2
          exact p m H1 u hr4 ex4 (DR.mono kp2 r3)
      | true =>
        dsimp only at p
        cases v with
        | d x => exact p m H1 u hr2 ex2 (DR.mono kp ru)
        | r k =>
          obtain ⟨a, ha, rfl⟩ := ru
          dsimp only at p
          split at p
          · rename_i hk
            refine p m H1 (.ref a) hr2 ex2 ⟨a, ?_, rfl⟩
            rw [et, List.getElem?_append_left (by rw [hr0.len]; exact hk)] at ha
            exact ha
          · rename_i hk
            obtain ⟨o, w, e2, hw, ow⟩ := hr.there ha
            rw [e2] at p
            dsimp only at p
            -- the new object, known at the end of the caller's
            have hm1 : ∀ (j : Nat) (b : Addr), m[j]? = some b → m1[j]? = some b := fun j b hb => ex.at hb
            have nin : ∀ j : Nat, m[j]? ≠ some a := fun j hj => by
              have := hr.inj _ _ _ (hm1 j a hj) ha
              have hj2 := (List.getElem?_eq_some_iff.mp hj).1
              rw [hr0.len] at hj2
              omega
            have lt : (h.take ah.length).length = m.length := by rw [← hr2.len]
            have lv : ∀ b, Lv (m ++ [a]) (h.take ah.length ++ [o]) b → Lv m1 h b := fun b ⟨j, q, f1, f2, f3⟩ => by
              by_cases hj : j < m.length
              · rw [List.getElem?_append_left hj] at f1
                rw [List.getElem?_append_left (by rw [lt]; exact hj), List.getElem?_take, if_pos (by rw [← hr0.len]; exact hj)] at f2
                exact ⟨j, q, hm1 j b f1, f2, f3⟩
              · rw [List.getElem?_append_right (by omega)] at f1
                rw [List.getElem?_append_right (by rw [lt]; omega), lt] at f2
                have z : j - m.length = 0 := by
                  have := (List.getElem?_eq_some_iff.mp f1).1
                  simpa using this
                rw [z] at f1 f2
                have f1' : a = b := by simpa using f1
                have f2' : o = q := by simpa using f2
                subst f1' f2'
                exact ⟨k, o, ha, e2, f3⟩
            have kp3 : Kp (Sf m1 h) H1 (Sf (m ++ [a]) (h.take ah.length ++ [o])) H1 := fun b q e s => ⟨e, fun l => s (lv b l)⟩
            have hr5 : HR K ct (m ++ [a]) (h.take ah.length ++ [o]) H1 := by
              refine ⟨by rw [List.length_append, List.length_append, lt]; rfl, fun i j b f1 f2 => ?_, fun j b q f1 f2 => ?_⟩
              · by_cases hi : i < m.length
                · rw [List.getElem?_append_left hi] at f1
                  by_cases hj : j < m.length
                  · rw [List.getElem?_append_left hj] at f2
                    exact hr0.inj _ _ _ f1 f2
                  · rw [List.getElem?_append_right (by omega)] at f2
                    have z : j - m.length = 0 := by
                      have := (List.getElem?_eq_some_iff.mp f2).1
                      simpa using this
                    rw [z] at f2
                    have : a = b := by simpa using f2
                    subst this
                    exact absurd f1 (nin i)
                · rw [List.getElem?_append_right (by omega)] at f1
                  have z : i - m.length = 0 := by
                    have := (List.getElem?_eq_some_iff.mp f1).1
                    simpa using this
                  rw [z] at f1
                  have : a = b := by simpa using f1
                  subst this
                  by_cases hj : j < m.length
                  · rw [List.getElem?_append_left hj] at f2
                    exact absurd f2 (nin j)
                  · have := (List.getElem?_eq_some_iff.mp f2).1
                    rw [List.length_append, List.length_singleton] at this
                    omega
              · by_cases hj : j < m.length
                · rw [List.getElem?_append_left hj] at f1
                  rw [List.getElem?_append_left (by rw [lt]; exact hj), List.getElem?_take, if_pos (by rw [← hr0.len]; exact hj)] at f2
                  obtain ⟨v, g1, g2⟩ := hr.ob j b q (hm1 j b f1) f2
                  exact ⟨v, g1, g2.mono kp3⟩
                · rw [List.getElem?_append_right (by omega)] at f1
                  rw [List.getElem?_append_right (by rw [lt]; omega), lt] at f2
                  have z : j - m.length = 0 := by
                    have := (List.getElem?_eq_some_iff.mp f1).1
                    simpa using this
                  rw [z] at f1 f2
                  have f1' : a = b := by simpa using f1
                  have f2' : o = q := by simpa using f2
                  subst f1' f2'
                  exact ⟨w, hw, ow.mono kp3⟩
            refine p (m ++ [a]) H1 (.ref a) hr5 ⟨⟨[a], rfl⟩, ex.kp.trans kp3⟩ ⟨a, ?_, rfl⟩
            rw [← hr0.len, List.getElem?_append_right (Nat.le_refl _), Nat.sub_self]; rfl
end

/-! ### all defs keep their promises -/
/-- one def: where it stands, its names, its parameters -/
structure Fn where
  f : Addr
  fd : FuncData
  ps : List Str
structure CallOk (P : Program) (w : World) (K : PySem.W.Frag) (mg : Str → Option Value) (base : Heap) (ct : CT) (fns : List Fn) (call : CallT) (n : Nat) : Prop where
  ok : ∀ (i : Nat) F, fns[i]? = some F → FnOk P w K mg base (L2.CX P w) (2 * n + 1) F.f F.fd F.ps (spC K ct call i)
/-- one def's body means what its MDef says -/
structure BodyOk (P : Program) (w : World) (K : PySem.W.Frag) (mg : Str → Option Value) (base : Heap) (ct : CT) (fns : List Fn) (F : Fn) (md : MDef) : Prop where
  ex : ∃ (x qual : Str) (params : Arguments) (body : List Stmt) (scope : Scope) (dvs : List V) (kws : List (Str × V)) (N : List Str), FunD K x qual params body scope dvs kws F.f F.fd ∧ FnScope N F.ps scope ∧ F.ps.length = md.np ∧ N.length = md.ns ∧ md.np ≤ md.ns ∧
    ∀ (call : CallT) (n : Nat), CallOk P w K mg base ct fns call n → ∀ (cdv : Value) (A : Around) (outer : List Env) (s : Shared) (H : Hp) (E : XK), Room (2 * n + 2) (A.deeper (PyProof.Rows.envOfC qual scope s.heap.objs.size F.f cdv)) →
      SSs (cxOf (L2.CX P w) P w K mg base N qual scope F.f cdv A outer s H E) ct (fun c d _ H' => E c d H') body (md.body call)
theorem all_ok {P : Program} {w : World} {K : PySem.W.Frag} {mg : Str → Option Value} {base : Heap} {ct : CT} {fns : List Fn} {defs : List MDef} (hl : fns.length = defs.length)
    (hb : ∀ (i : Nat) F md, fns[i]? = some F → defs[i]? = some md → BodyOk P w K mg base ct fns F md) : ∀ n, CallOk P w K mg base ct fns (callF defs n) n
  | 0 => ⟨fun i F _ => ⟨fun vs H Q E ⟨_, _, _, _, _, p⟩ => p.elim, fun A outer s H args us vs Q E hr e0 hb r ⟨_, _, _, _, _, p⟩ => p.elim⟩⟩
  | n + 1 => ⟨fun i F hF => by
    have hi : i < defs.length := by rw [← hl]; exact (List.getElem?_eq_some_iff.mp hF).1
    have hd : defs[i]? = some defs[i] := List.getElem?_eq_getElem hi
    obtain ⟨x, qual, params, body, scope, dvs, kws, N, FD, sc, e1, e2, e3, hB⟩ := (hb i F _ hF hd).ex
    have ih := all_ok hl hb n
    have len : ∀ {xs : List Vl} {h : Hs}, callF defs (n + 1) i xs h ≠ .bad → xs.length = F.ps.length := fun q => by rw [e1]; exact callF_len hd q
    have nb : ∀ {K : PySem.W.Frag} {W : WX} {m : List Addr} {ah : Hs} {H : Hp} {Q : VK} {r : Res Vl}, Po K ct W [] (VlR K ct) m ah H r Q → r ≠ .bad := fun p e => by subst e; exact p
    refine fun_ok (k := 2 * n + 2) FD sc (fun vs H Q E ⟨m, ah, xs, hr, rs, p⟩ => by rw [← rs.length]; exact len (nb p)) fun cdv A outer s H vs Q E hr ⟨m, ah, xs, h1, rs, p⟩ => ?_
    have hx : xs.length = defs[i].np := callF_len hd (nb p)
    unfold callF at p
    rw [hd] at p
    dsimp only at p
    unfold runD at p
    rw [if_pos hx] at p
    refine ⟨_, hB (callF defs n) n ih cdv A outer s H E hr, m, ah, startL defs[i].ns xs, h1, ?_, fin_sound h1 p⟩
    rw [← e2]
    exact LR.start rs (by omega)⟩

/-! ### calls -/
def eCl (call : CallT) (i : Nat) (ds : List D) (fs : SemA) : SemE := fun σ h => rb (fs σ h) fun xs h1 => call i (xs ++ ds.map Vl.d) h1
theorem VlRs.append {K : PySem.W.Frag} {ct : CT} {m : List Addr} {ah : Hs} {H : Hp} : ∀ {xs vs ys ws}, VlRs K ct m ah H xs vs → VlRs K ct m ah H ys ws → VlRs K ct m ah H (xs ++ ys) (vs ++ ws)
  | _, _, _, _, .nil, s => s
  | _, _, _, _, .cons r t, s => .cons r (VlRs.append t s)
/-- the defaults that fill up: data that stands in no heap -/
def Dfl (K : PySem.W.Frag) (ct : CT) (ds : List D) (dvs : List V) : Prop := ∀ m ah H, VlRs K ct m ah H (ds.map Vl.d) dvs
theorem Dfl.nil {K : PySem.W.Frag} {ct : CT} : Dfl K ct [] [] := fun _ _ _ => .nil
theorem Po.stil {α β : Type} {K : PySem.W.Frag} {ct : CT} {W : WX} {σV : L2.St} {R : List Addr → Hs → Hp → α → β → Prop} {m : List Addr} {ah : Hs} {H : Hp} {r : Res α} {Q : β → Hp → Prop} (p : Po K ct W σV R m ah H r Q) : Po K ct (fun c d _ H' => W c d σV H') [] R m ah H r Q := by
  cases r with
  | ok x h => exact p
  | exc x h => exact p
  | bad => exact p
section
variable {X : Cx} {ct : CT} {W : WX} {pos p apos : Pos} {e o : Expr} {es : List Expr} {f : SemE} {fs : SemA} {call : CallT} {n i : Nat} {F : Fn} {x : Str} {ds : List D} {dvs : List V} {dus : List Value} {fns : List Fn}
theorem run_cl {pins : List (Addr × Obj)} {σ : L2.St} {H : Hp} {s : Shared} {Q : VK} {us : List Value} {vs : List V} (co : CallOk X.prog X.w X.K X.mg X.base ct fns call n) (hF : fns[i]? = some F) (hr : Room (2 * n + 1) X.A) (hb : Binds X.K F.fd F.ps dus) (hd : Vals dvs dus) (tk : Takes X W)
    (I : Inv X pins σ H s) (r : Vals vs us) (h : spC X.K ct call i (vs ++ dvs) H Q (WE W σ)) : wpAny (model X.prog X.w) X.A (PySem.call (.ref F.f) us) (EP X pins σ Q) X.xe s :=
  run_fnG (E := WE W) (co.ok i F hF) hr hb hd (passAt tk σ) I r h
theorem se_call (co : CallOk X.prog X.w X.K X.mg X.base ct fns call n) (tk : Takes X W) (hr : Room (2 * n + 1) X.A) (hF : fns[i]? = some F) (hg : Gl X x) (hm : X.mg x = some (.ref F.f)) (hk : PySem.W.keepIn X.K (.ref F.f) = true) (hb : Binds X.K F.fd F.ps dus) (hd : Vals dvs dus) (hq : Dfl X.K ct ds dvs)
    (ha : SA X ct W (e :: es) fs) (hdb : (x == ("__debug__" : Str)) = false := by decide) (he : starEach (e :: es) X.env = (false, eval e X.env) :: starEach es X.env := by rfl) (hpl : (backTo pos (starEach es X.env)).any (·.1) = false := by rfl) :
    SE X ct W (.Call (.Name x p) (e :: es) [] pos) (eCl call i ds fs) := by
  refine ⟨fun pins s σV H Q I ⟨m, ah, σ, hr0, lr, p⟩ => ?_⟩
  refine wpAny_Call_Name_kw (ld_glob I hg hm ?_ hdb)
  refine PySem.W.callWith_K (h₀ := X.base) I.ok.mod.kin hk (thn (ha.run pos pins s σV H _ I ⟨m, ah, σ, hr0, lr, Po.bind (R := VlRs X.K ct) p⟩) fun us s1 ⟨vs, H1, I1, r, m1, h1, xs, hr1, e1, r1, p1⟩ => ⟨I1.kIn, ?_⟩) he hpl
  exact run_cl co hF hr hb hd tk I1 r ⟨m1, h1, _, hr1, r1.append (hq _ _ _), Po.stil p1⟩
theorem se_call0 (co : CallOk X.prog X.w X.K X.mg X.base ct fns call n) (tk : Takes X W) (hr : Room (2 * n + 1) X.A) (hF : fns[i]? = some F) (hg : Gl X x) (hm : X.mg x = some (.ref F.f)) (hk : PySem.W.keepIn X.K (.ref F.f) = true) (hb : Binds X.K F.fd F.ps dus) (hd : Vals dvs dus) (hq : Dfl X.K ct ds dvs)
    (hdb : (x == ("__debug__" : Str)) = false := by decide) : SE X ct W (.Call (.Name x p) [] [] pos) (eCl call i ds aNil) := by
  refine ⟨fun pins s σV H Q I ⟨m, ah, σ, hr0, lr, p⟩ => ?_⟩
  refine wpAny_Call_Name_kw (ld_glob I hg hm ?_ hdb)
  refine PySem.W.callWith_K0 I.kIn hk ?_
  exact run_cl (us := []) (vs := []) co hF hr hb hd tk I .nil ⟨m, ah, _, hr0, VlRs.append .nil (hq _ _ _), Po.stil p⟩
/-- the instance behind a value -/
def insOf (x : Vl) (h : Hs) : Option (Nat × List (Nat × D)) := match x with
  | .d (.ins C fs) => some (C, fs)
  | .r k => (match h[k]? with
    | some (.ins C fs) => some (C, fs)
    | _ => none)
  | _ => none
theorem ins_of {K : PySem.W.Frag} {m : List Addr} {ah : Hs} {H : Hp} (h : HR K ct m ah H) {x : Vl} {C : Nat} {fs : List (Nat × D)} {v : V} (e : insOf x ah = some (C, fs)) (r : VlR K ct m ah H x v) : ∃ a dx vs, v = .ref a ∧ H a = some (.ins (ct.ca C) dx vs) ∧ DRf K ct (Sf m ah) H fs vs := by
  unfold insOf at e
  split at e
  · cases e
    cases r with
    | ins h1 _ h2 => exact ⟨_, _, _, rfl, h1, h2⟩
  · rename_i k
    split at e
    · rename_i C' fs' hk
      cases e
      obtain ⟨a, h1, rfl⟩ := r
      obtain ⟨u, h2, h3⟩ := h.ob k a _ h1 hk
      cases h3 with
      | ins t => exact ⟨a, _, _, rfl, h2, t⟩
    · cases e
  · cases e
theorem lookup_drf {K : PySem.W.Frag} {S : Addr → Prop} {H : Hp} {n : Nat} : ∀ {fs : List (Nat × D)} {vs : List (Str × V)}, DRf K ct S H fs vs → (∀ d, fs.lookup n = some d → ∃ v, vs.lookup (ct.nm n) = some v ∧ DR K ct S H d v) ∧ (fs.lookup n = none → vs.lookup (ct.nm n) = none)
  | _, _, .nil => ⟨fun d e => (by cases e), fun _ => rfl⟩
  | _, _, .cons (n := k) (d := d0) (v := v0) r t => by
    obtain ⟨i1, i2⟩ := lookup_drf (n := n) t
    by_cases q : n = k
    · subst q
      have b1 : (n == n) = true := beq_self_eq_true n
      have b2 : (ct.nm n == ct.nm n) = true := beq_self_eq_true _
      refine ⟨fun d e => ?_, fun e => ?_⟩
      · simp only [List.lookup, b1] at e
        cases e
        exact ⟨_, by simp only [List.lookup, b2], r⟩
      · simp only [List.lookup, b1] at e
        cases e
    · have b1 : (n == k) = false := beq_eq_false_iff_ne.mpr q
      have b2 : (ct.nm n == ct.nm k) = false := beq_eq_false_iff_ne.mpr fun z => q (ct.inj _ _ z)
      refine ⟨fun d e => ?_, fun e => ?_⟩
      · simp only [List.lookup, b1] at e
        obtain ⟨v, h1, h2⟩ := i1 d e
        exact ⟨v, by simp only [List.lookup, b2]; exact h1, h2⟩
      · simp only [List.lookup, b1] at e
        simp only [List.lookup, b2]; exact i2 e
theorem lookup_none {K : PySem.W.Frag} {S : Addr → Prop} {H : Hp} {mm : Str} (hn : ∀ n, ct.nm n ≠ mm) : ∀ {fs : List (Nat × D)} {vs : List (Str × V)}, DRf K ct S H fs vs → vs.lookup mm = none
  | _, _, .nil => rfl
  | _, _, .cons (n := k) r t => by
    have b : (mm == ct.nm k) = false := beq_eq_false_iff_ne.mpr fun z => hn k z.symm
    simp only [List.lookup, b]
    exact lookup_none hn t
def putN (n : Nat) (d : D) : List (Nat × D) → List (Nat × D)
  | [] => [(n, d)]
  | (k, x) :: r => if k = n then (k, d) :: r else (k, x) :: putN n d r
theorem putN_drf {K : PySem.W.Frag} {S : Addr → Prop} {H : Hp} {n : Nat} {d : D} {v : V} (r : DR K ct S H d v) : ∀ {fs : List (Nat × D)} {vs : List (Str × V)}, DRf K ct S H fs vs → DRf K ct S H (putN n d fs) (putF (ct.nm n) v vs)
  | _, _, .nil => .cons r .nil
  | _, _, .cons (n := k) r0 t => by
    unfold putN putF
    by_cases q : k = n
    · subst q
      rw [if_pos rfl, if_pos rfl]
      exact .cons r t
    · rw [if_neg q, if_neg fun z => q (ct.inj _ _ z)]
      exact .cons r0 (putN_drf r t)
/-- e.f -/
def eFd (ok : Nat → Bool) (n : Nat) (f : SemE) : SemE := fun σ h => rb (f σ h) fun x h1 => match insOf x h1 with
  | some (C, fs) => if ok C = true then (match fs.lookup n with
    | some d => .ok (.d d) h1
    | none => .bad) else .bad
  | none => .bad
theorem se_fld {ok : Nat → Bool} {k : Nat} {fl : Str} (he : SE X ct W e f) (hf : ct.nm k = fl) (hok : ∀ C, ok C = true → Cls X.K (ct.ca C) ∧ NoAttr X.K (ct.ca C) fl) (hb : attributeBase e fl X.env (eval e X.env) = eval e X.env := by rfl) : SE X ct W (.Attribute e fl pos) (eFd ok k f) := by
  subst hf
  exact PE.imp (pe_fld he hb) fun σV H Q ⟨m, ah, σ, hr, lr, p⟩ => ⟨m, ah, σ, hr, lr, (Po.bind (R := VlR X.K ct) p).imp fun v H1 ⟨m1, h1, x, hr1, e1, r1, p1⟩ => by
    dsimp only at p1
    cases q : insOf x h1 with
    | none => rw [q] at p1; exact p1.elim
    | some z =>
      obtain ⟨C, fs⟩ := z
      rw [q] at p1
      dsimp only at p1
      split at p1
      · rename_i hc
        obtain ⟨a, dx, vs, rfl, h2, r2⟩ := ins_of hr1 q r1
        cases q2 : fs.lookup k with
        | none => rw [q2] at p1; exact p1.elim
        | some d =>
          rw [q2] at p1
          obtain ⟨v, h3, r3⟩ := (lookup_drf r2).1 d q2
          exact ⟨a, _, dx, vs, v, rfl, h2, (hok C hc).1, (hok C hc).2, h3, p1 m1 H1 v hr1 (Ext.refl _ _ _) r3⟩
      · exact p1.elim⟩
/-- self.f = e -/
def sFd (ok : Nat → Bool) (n : Nat) (f : SemE) (g : SemE) : SemS := fun σ h => sb (g σ h) σ fun y h1 => match toD y h1 with
  | none => .bad
  | some (d, h2) => sb (f σ h2) σ fun x h3 => match x with
    | .r k => (match h3[k]? with
      | some (.ins C fs) => if ok C = true ∧ fs.length < 900 then .ok .nx σ (h3.set k (.ins C (putN n d fs))) else .bad
      | _ => .bad)
    | _ => .bad
theorem ss_fld {ok : Nat → Bool} {k : Nat} {fl : Str} {g : SemE} {pos' : Pos} (he : SE X ct W o f) (hv : SE X ct W e g) (hf : ct.nm k = fl) (hok : ∀ C, ok C = true → Cls X.K (ct.ca C) ∧ NoAttr X.K (ct.ca C) fl)
    (hs : swapsWith e (some (.Attribute o fl pos')) pos.line X.env = pure false := by rfl) : SS X ct W (.Assign [.Attribute o fl pos'] e pos) (sFd ok k f g) := by
  subst hf
  exact PS.imp (ps_fld he hv hs) fun D σV H ⟨m, ah, σ, hr, lr, p⟩ => ⟨m, ah, σ, hr, lr, (PoS.bind (R := VlR X.K ct) lr p).imp fun y H1 ⟨m1, h1, y', hr1, e1, r1, p1⟩ => by
    dsimp only at p1
    cases q : toD y' h1 with
    | none => rw [q] at p1; exact p1.elim
    | some z =>
      obtain ⟨d, h2⟩ := z
      rw [q] at p1
      dsimp only at p1
      obtain ⟨hr2, e2, r2⟩ := toD_sound hr1 q r1
      have l2 := (lr.ext e1).ext e2
      refine ⟨m1, h2, σ, hr2, l2, (PoS.bind (R := VlR X.K ct) l2 (PoS.ext (r := sb (f σ h2) σ fun x h3 => _) p1 e2)).imp fun x H2 ⟨m3, h3, x', hr3, e3, r3, p3⟩ => ?_⟩
      dsimp only at p3
      split at p3
      · rename_i k0
        split at p3
        · rename_i C fs hk
          split at p3
          · rename_i hc
            obtain ⟨a, ha, rfl⟩ := r3
            obtain ⟨u, h4, h5⟩ := hr3.ob k0 a _ ha hk
            cases h5 with
            | ins t =>
              have t2 := putN_drf (n := k) (r2.mono e3.kp) t
              obtain ⟨hr6, e6⟩ := hr3.write ha hk (by simp) (OR.ins t2)
              refine ⟨a, _, _, _, rfl, h4, (hok C hc.1).1, (hok C hc.1).2, by rw [← t.length]; exact Nat.lt_trans hc.2 (by decide), ?_⟩
              exact p3 m3 _ σV hr6 e6 ((l2.ext e3).ext e6)
          · exact p3.elim
        · exact p3.elim
      · exact p3.elim⟩
/-- o.m(..) of an instance of class C -/
def eMe (call : CallT) (i C : Nat) (ds : List D) (f : SemE) (fs : SemA) : SemE := fun σ h => rb (f σ h) fun x h1 => match insOf x h1 with
  | some (C', _) => if C' = C then rb (fs σ h1) fun xs h2 => call i (x :: (xs ++ ds.map Vl.d)) h2 else .bad
  | none => .bad
theorem se_meth {mm : Str} {C : Nat} {pl : Sem Bool} (co : CallOk X.prog X.w X.K X.mg X.base ct fns call n) (tk : Takes X W) (hr : Room (2 * n + 1) X.A) (hF : fns[i]? = some F) (he : SE X ct W o f) (c : Cls X.K (ct.ca C)) (hm : Meth X.K (ct.ca C) mm F.f) (hn : ∀ n, ct.nm n ≠ mm)
    (hb : Binds X.K F.fd F.ps dus) (hd : Vals dvs dus) (hq : Dfl X.K ct ds dvs) (ha : SA X ct W (e :: es) fs)
    (hst : starEach (e :: es) X.env = (false, eval e X.env) :: starEach es X.env := by rfl) (hpl : (backTo pos (starEach es X.env)).any (·.1) = false := by rfl)
    (ht : eval (.Call (.Attribute o mm apos) (e :: es) [] pos) X.env = (do
      let ov ← eval o X.env
      standAt apos.atName
      let (f, first) ← holding [ov] (getMethod ov mm pl)
      callWith pos f first (backTo pos (starEach (e :: es) X.env)) (backToKw pos (keywordEach [] X.env))) := by rfl) :
    SE X ct W (.Call (.Attribute o mm apos) (e :: es) [] pos) (eMe call i C ds f fs) := by
  refine ⟨fun pins s σV H Q I ⟨m, ah, σ, hr0, lr, p⟩ => ?_⟩
  refine PySem.W.methodCall_KW (pl := pl) (thn (he.run pins s σV H _ I ⟨m, ah, σ, hr0, lr, Po.bind (R := VlR X.K ct) p⟩) fun u s1 ⟨v, H1, I1, rx, m1, h1, x, hr1, e1, r1, p1⟩ => ?_) ht
  dsimp only at p1
  cases q : insOf x h1 with
  | none => rw [q] at p1; exact p1.elim
  | some z =>
    obtain ⟨C', fl⟩ := z
    rw [q] at p1
    dsimp only at p1
    split at p1
    · rename_i hC
      subst hC
      obtain ⟨a, dx, vs, rfl, h2, r2⟩ := ins_of hr1 q r1
      obtain rfl : u = Value.ref a := rx
      refine getmeth_ok I1 h2 c hm (lookup_none hn r2) ?_
      refine PySem.W.callWith_K (first := [.ref a]) (h₀ := X.base) I.ok.mod.kin hm.kp (thn (ha.run pos pins s1 σV H1 _ I1 ⟨m1, h1, σ, hr1, lr.ext e1, Po.bind (R := VlRs X.K ct) p1⟩) fun us s2 ⟨ws, H2, I2, r, m2, h2', xs, hr2, e2, r3, p2⟩ => ⟨I2.kIn, ?_⟩) hst hpl
      exact run_cl (us := .ref a :: us) (vs := .ref a :: ws) co hF hr hb hd tk I2 (.cons rfl r) ⟨m2, h2', _, hr2, .cons (r1.ext e2) (r3.append (hq _ _ _)), Po.stil p2⟩
    · exact p1.elim
theorem se_meth0 {mm : Str} {C : Nat} {pl : Sem Bool} (co : CallOk X.prog X.w X.K X.mg X.base ct fns call n) (tk : Takes X W) (hr : Room (2 * n + 1) X.A) (hF : fns[i]? = some F) (he : SE X ct W o f) (c : Cls X.K (ct.ca C)) (hm : Meth X.K (ct.ca C) mm F.f) (hn : ∀ n, ct.nm n ≠ mm)
    (hb : Binds X.K F.fd F.ps dus) (hd : Vals dvs dus) (hq : Dfl X.K ct ds dvs)
    (ht : eval (.Call (.Attribute o mm apos) [] [] pos) X.env = (do
      let ov ← eval o X.env
      standAt apos.atName
      let (f, first) ← holding [ov] (getMethod ov mm pl)
      callWith pos f first (backTo pos (starEach [] X.env)) (backToKw pos (keywordEach [] X.env))) := by rfl) :
    SE X ct W (.Call (.Attribute o mm apos) [] [] pos) (eMe call i C ds f aNil) := by
  refine ⟨fun pins s σV H Q I ⟨m, ah, σ, hr0, lr, p⟩ => ?_⟩
  refine PySem.W.methodCall_KW (pl := pl) (thn (he.run pins s σV H _ I ⟨m, ah, σ, hr0, lr, Po.bind (R := VlR X.K ct) p⟩) fun u s1 ⟨v, H1, I1, rx, m1, h1, x, hr1, e1, r1, p1⟩ => ?_) ht
  dsimp only at p1
  cases q : insOf x h1 with
  | none => rw [q] at p1; exact p1.elim
  | some z =>
    obtain ⟨C', fl⟩ := z
    rw [q] at p1
    dsimp only at p1
    split at p1
    · rename_i hC
      subst hC
      obtain ⟨a, dx, vs, rfl, h2, r2⟩ := ins_of hr1 q r1
      obtain rfl : u = Value.ref a := rx
      refine getmeth_ok I1 h2 c hm (lookup_none hn r2) ?_
      refine PySem.W.callWith_K0 (first := [.ref a]) I1.kIn hm.kp ?_
      exact run_cl (us := [.ref a]) (vs := [.ref a]) co hF hr hb hd tk I1 (.cons rfl .nil) ⟨m1, h1, _, hr1, .cons r1 (VlRs.append .nil (hq _ _ _)), Po.stil p1⟩
    · exact p1.elim
/-- C(..) -/
def mkI (call : CallT) (i C : Nat) (xs : List Vl) (h : Hs) : Res Vl := match call i (.r h.length :: xs) (h ++ [.ins C []]) with
  | .ok (.d .non) h2 => (match h2[h.length]? with
    | some (.ins C' fs) => .ok (.d (.ins C' fs)) (h2.take h.length)
    | _ => .bad)
  | .exc e h2 => .exc e (h2.take h.length)
  | _ => .bad
def eMk (call : CallT) (i C : Nat) (ds : List D) (fs : SemA) : SemE := fun σ h => rb (fs σ h) fun xs h1 => mkI call i C (xs ++ ds.map Vl.d) h1
theorem run_makeS {pins : List (Addr × Obj)} {σ : L2.St} {H : Hp} {s : Shared} {Q : VK} {us : List Value} {vs : List V} {C f : Addr} {k : Nat} {fd : FuncData} {ps : List Str} {sp : Sp} {CX : CXT} {E : XK} (M : Mk X.K C f) (F : FnOk X.prog X.w X.K X.mg X.base CX k f fd ps sp) (hr : Room (k + 1) X.A) (hb : Binds X.K fd ps dus) (hd : Vals dvs dus)
    (hx : PassesAt CX X σ E) (I : Inv X pins σ H s) (r : Vals vs us)
    (h : ∀ x dx, H x = none → H dx = none → dx ≠ x → sp (.ref x :: (vs ++ dvs)) (upd (upd H dx (.own x)) x (.ins C dx [])) (fun v H2 => v = .non ∧ Q (.ref x) H2) E) :
    wpAny (model X.prog X.w) X.A (PySem.call (.ref C) us) (EP X pins σ Q) X.xe s := by
  have hq := h (s.heap.objs.size + 1) s.heap.objs.size (I.hok.fresh (Nat.le_succ _)) (I.hok.fresh (Nat.le_refl _)) (Nat.ne_of_lt (Nat.lt_succ_self _))
  have I2 := Inv.made (C := C) I
  have r2 : Vals (V.ref (s.heap.objs.size + 1) :: (vs ++ dvs)) (Value.ref (s.heap.objs.size + 1) :: (us ++ dus)) := .cons rfl (r.append hd)
  have hl : (Value.ref (s.heap.objs.size + 1) :: us ++ dus).length = ps.length := by
    have e := r2.length
    rw [F.len _ _ _ _ hq] at e
    exact e.symm
  refine wpAny_call (make_map (f := f) I.kIn M.makes M.init (beq_iff_eq.mp M.fn) (codeAny_mono (F.run _ X.stack _ _ ⟨Value.ref (s.heap.objs.size + 1) :: us, []⟩ (Value.ref (s.heap.objs.size + 1) :: (us ++ dus)) _ _ E (hr.make C us [])
    (I2.env0.make C us []) (hb _ (Value.ref (s.heap.objs.size + 1) :: us) I2.kIn hl) r2 hq) fun r s' hq' => ?_))
  cases r with
  | error e => exact hx pins _ _ e s' I2 hq'
  | ok fl =>
    cases fl with
    | ret u =>
      obtain ⟨v, H', I3, rv, ev, q3⟩ := I2.after hq'
      subst ev
      exact ⟨rv, ⟨V.ref (s.heap.objs.size + 1), H', I3, rfl, q3⟩⟩
    | next => exact False.elim hq'
    | brk => exact False.elim hq'
    | cont => exact False.elim hq'
theorem mkI_sound {K : PySem.W.Frag} {m : List Addr} {ah : Hs} {H : Hp} {xs : List Vl} {vs : List V} {Q : VK} {E : XK} {C : Nat} (hr : HR K ct m ah H) (rs : VlRs K ct m ah H xs vs) (p : Po K ct (fun c d _ H' => E c d H') [] (VlR K ct) m ah H (mkI call i C xs ah) Q) :
    ∀ x dx, H x = none → H dx = none → dx ≠ x → spC K ct call i (.ref x :: vs) (upd (upd H dx (.own x)) x (.ins (ct.ca C) dx [])) (fun v H2 => v = .non ∧ Q (.ref x) H2) E := by
  intro x dx hx hdx ne
  obtain ⟨hr1, e1⟩ := hr.more (upd_more (o := .own x) hdx)
  have hx1 : upd H dx (.own x) x = none := by rw [upd_ne ne.symm]; exact hx
  obtain ⟨hr2, e2⟩ := hr1.alloc hx1 (OR.ins (ct := ct) (C := C) (dx := dx) .nil)
  have e12 := e1.trans e2
  refine ⟨_, _, .r ah.length :: xs, hr2, .cons ⟨x, at_new hr1, rfl⟩ (rs.ext e12), ?_⟩
  unfold mkI at p
  cases q : call i (.r ah.length :: xs) (ah ++ [.ins C []]) with
  | bad => rw [q] at p; exact p.elim
  | exc ex h2 =>
    rw [q] at p
    refine fun m3 H3 c d hr3 e3 x3 => ?_
    obtain ⟨hr4, e4⟩ := HR.trim' hr hr3 (e12.trans e3)
    refine p m H3 c d hr4 e4 ?_
    obtain ⟨x1, ws, x2, x3⟩ := x3
    have kp := (hr3.trim m.length).2
    obtain ⟨t, rfl⟩ := (e12.trans e3).pre
    rw [List.take_left' rfl, hr.len] at kp
    exact ⟨x1, ws, x2.mono kp, x3.imp id fun ⟨dx, y1, y2, y3⟩ => ⟨dx, y1, (kp _ _ y2 y3).1, (kp _ _ y2 y3).2⟩⟩
  | ok v h2 =>
    rw [q] at p
    cases v with
    | r k => exact p.elim
    | d v =>
      cases v with
      | non =>
        dsimp only at p
        refine fun m3 H3 w hr3 e3 rw3 => ?_
        cases rw3
        refine ⟨rfl, ?_⟩
        have hx3 : m3[ah.length]? = some x := e3.at (at_new hr1)
        cases q2 : h2[ah.length]? with
        | none => rw [q2] at p; exact p.elim
        | some o =>
          rw [q2] at p
          cases o with
          | ins C' fs =>
            dsimp only at p
            obtain ⟨u, h4, h5⟩ := hr3.ob _ x _ hx3 q2
            cases h5 with
            | ins t =>
              obtain ⟨hr4, e4⟩ := HR.trim' hr hr3 (e12.trans e3)
              have kp := (hr3.trim m.length).2
              obtain ⟨tt, et⟩ := (e12.trans e3).pre
              rw [et, List.take_left' rfl, hr.len, ← et] at kp
              refine p m H3 (.ref x) hr4 e4 (.ins h4 (fun ⟨j, o, f1, f2, f3⟩ => ?_) (t.mono kp))
              have := hr3.inj _ _ _ ((e12.trans e3).at f1) hx3
              have hj := (List.getElem?_eq_some_iff.mp f1).1
              rw [hr.len] at hj
              omega
          | _ => exact p.elim
      | _ => exact p.elim
theorem se_make {C : Nat} (co : CallOk X.prog X.w X.K X.mg X.base ct fns call n) (tk : Takes X W) (hr : Room (2 * n + 2) X.A) (hF : fns[i]? = some F) (M : Mk X.K (ct.ca C) F.f) (hg : Gl X x) (hm : X.mg x = some (.ref (ct.ca C))) (hb : Binds X.K F.fd F.ps dus) (hd : Vals dvs dus) (hq : Dfl X.K ct ds dvs)
    (ha : SA X ct W (e :: es) fs) (hdb : (x == ("__debug__" : Str)) = false := by decide) (he : starEach (e :: es) X.env = (false, eval e X.env) :: starEach es X.env := by rfl) (hpl : (backTo pos (starEach es X.env)).any (·.1) = false := by rfl) :
    SE X ct W (.Call (.Name x p) (e :: es) [] pos) (eMk call i C ds fs) := by
  refine ⟨fun pins s σV H Q I ⟨m, ah, σ, hr0, lr, p⟩ => ?_⟩
  refine wpAny_Call_Name_kw (ld_glob I hg hm ?_ hdb)
  refine PySem.W.callWith_K (h₀ := X.base) I.ok.mod.kin M.kp (thn (ha.run pos pins s σV H _ I ⟨m, ah, σ, hr0, lr, Po.bind (R := VlRs X.K ct) p⟩) fun us s1 ⟨vs, H1, I1, r, m1, h1, xs, hr1, e1, r1, p1⟩ => ⟨I1.kIn, ?_⟩) he hpl
  exact run_makeS (E := WE W σV) M (co.ok i F hF) hr hb hd (passAt tk σV) I1 r (mkI_sound hr1 (r1.append (hq _ _ _)) (Po.stil p1))
theorem se_make0 {C : Nat} (co : CallOk X.prog X.w X.K X.mg X.base ct fns call n) (tk : Takes X W) (hr : Room (2 * n + 2) X.A) (hF : fns[i]? = some F) (M : Mk X.K (ct.ca C) F.f) (hg : Gl X x) (hm : X.mg x = some (.ref (ct.ca C))) (hb : Binds X.K F.fd F.ps dus) (hd : Vals dvs dus) (hq : Dfl X.K ct ds dvs)
    (hdb : (x == ("__debug__" : Str)) = false := by decide) : SE X ct W (.Call (.Name x p) [] [] pos) (eMk call i C ds aNil) := by
  refine ⟨fun pins s σV H Q I ⟨m, ah, σ, hr0, lr, p⟩ => ?_⟩
  refine wpAny_Call_Name_kw (ld_glob I hg hm ?_ hdb)
  refine PySem.W.callWith_K0 I.kIn M.kp ?_
  exact run_makeS (us := []) (vs := []) (E := WE W σV) M (co.ok i F hF) hr hb hd (passAt tk σV) I .nil (mkI_sound hr0 (VlRs.append .nil (hq _ _ _)) (Po.stil p))
end
end Mi

/-! Mi7: list comprehensions -/
namespace Mi
open PySem PySem.Spec L2

def wipeL (σ : Lo) : List Nat → Lo
  | [] => σ
  | v :: vs => (wipeL σ vs).set v none
abbrev W0 : WX := fun _ _ _ _ => False
section
variable {K : PySem.W.Frag} {ct : CT} {m : List Addr} {ah : Hs} {H : Hp}
theorem LR.none {σ : Lo} {σV : L2.St} (lr : LR K ct m ah H σ σV) (i : Nat) : LR K ct m ah H (σ.set i Option.none) (σV.set i Option.none) := by
  refine ⟨by rw [List.length_set, List.length_set, lr.len], fun j y hy => ?_⟩
  by_cases e : i = j
  · subst e
    by_cases hi : i < σ.length
    · rw [List.getElem?_set_self hi] at hy; cases hy
    · rw [List.getElem?_eq_none (by rw [List.length_set]; omega)] at hy; cases hy
  · rw [List.getElem?_set_ne e] at hy ⊢
    exact lr.at_ j y hy
theorem LR.wipe {σ : Lo} {σV : L2.St} (lr : LR K ct m ah H σ σV) : ∀ vs : List Nat, LR K ct m ah H (wipeL σ vs) (L2.wipe σV vs)
  | [] => lr
  | v :: vs => (LR.wipe lr vs).none v
theorem wipe_set {σV : L2.St} {i : Nat} {x : Option V} : ∀ {vs : List Nat}, L2.wipe (σV.set i x) vs = if i ∈ vs then L2.wipe σV vs else (L2.wipe σV vs).set i x
  | [] => by simp [L2.wipe]
  | v :: vs => by
    unfold L2.wipe
    rw [wipe_set (vs := vs)]
    by_cases h : i ∈ vs
    · rw [if_pos h, if_pos (List.mem_cons_of_mem _ h)]
    · rw [if_neg h]
      by_cases e : i = v
      · subst e
        rw [if_pos List.mem_cons_self, List.set_set]
      · rw [if_neg (by simp [e, h])]
        rw [List.set_comm _ _ e]
end
/-! ### targets of a block's own names -/
def PoGc (K : PySem.W.Frag) (ct : CT) (vs : List Nat) (σ0 : L2.St) (m : List Addr) (ah : Hs) (H : Hp) (o : Option (Lo × Hs)) (Q : L2.St → Hp → Prop) : Prop := match o with
  | some (σ', h) => ∀ m' H' σV', HR K ct m' h H' → Ext m ah H m' h H' → LR K ct m' h H' σ' σV' → L2.wipe σV' vs = L2.wipe σ0 vs → Q σV' H'
  | none => False
def rdGc (K : PySem.W.Frag) (ct : CT) (vs : List Nat) (g : SemG) : TG := fun v σV H Q => ∃ m ah σ x, HR K ct m ah H ∧ LR K ct m ah H σ σV ∧ VlR K ct m ah H x v ∧ PoGc K ct vs σV m ah H (g x σ ah) Q
def rdGsc (K : PySem.W.Frag) (ct : CT) (vs : List Nat) (g : SemGs) : TGs := fun ws σV H Q => ∃ m ah σ xs, HR K ct m ah H ∧ LR K ct m ah H σ σV ∧ DRs K ct (Sf m ah) H xs ws ∧ PoGc K ct vs σV m ah H (g xs σ ah) Q
abbrev SGc (X : Cx) (ct : CT) (vs : List Nat) (e : Expr) (g : SemG) : Prop := PG X e (rdGc X.K ct vs g)
abbrev SGsc (X : Cx) (ct : CT) (vs : List Nat) (e : List Expr) (g : SemGs) : Prop := PGs X e (rdGsc X.K ct vs g)
section
variable {X : Cx} {ct : CT} {pos : Pos} {e : Expr} {es : List Expr} {g : SemG} {gs : SemGs} {vs : List Nat}
theorem sgc_name {i : Nat} {x : Str} (hN : X.N.Nodup) (hi : X.N[i]? = some x) (hx : Loc X.env.scope x) (hm : i ∈ vs) (hf : X.fn x = true ∨ X.env.scope.names.lookup x = some .local := by first | exact .inl rfl | exact .inr rfl | assumption) : SGc X ct vs (.Name x pos) (gNm i) :=
  PG.imp (pg_name hN hi hx hf) fun v σV H Q ⟨m, ah, σ, x, hr, lr, r, p⟩ => p m H _ hr (Ext.refl _ _ _) (lr.set r i) (by rw [wipe_set, if_pos hm])
theorem sgsc_nil : SGsc X ct vs [] gNi := PGs.imp pgs_nil fun ws σV H Q ⟨m, ah, σ, xs, hr, lr, r, p⟩ => by
  unfold gNi at p
  split at p
  · cases r
    exact ⟨rfl, p m H _ hr (Ext.refl _ _ _) lr rfl⟩
  · exact p.elim
theorem sgsc_cons (h1 : SGc X ct vs e g) (h2 : SGsc X ct vs es gs) (hs : (assignEach (e :: es) X.env).map (·.2) = assign e X.env :: (assignEach es X.env).map (·.2) := by rfl) : SGsc X ct vs (e :: es) (gCo g gs) :=
  PGs.imp (pgs_cons h1 h2 hs) fun ws σV H Q ⟨m, ah, σ, xs, hr, lr, r, p⟩ => by
    unfold gCo at p
    split at p
    · cases r with
      | cons r t =>
        refine ⟨_, _, rfl, m, ah, σ, .d _, hr, lr, r, ?_⟩
        cases q : g (.d _) σ ah with
        | none => rw [q] at p; exact p.elim
        | some z =>
          obtain ⟨σ', h'⟩ := z
          rw [q] at p
          refine fun m2 H2 σ2 h2 e2 l2 w2 => ⟨m2, h', σ', _, h2, l2, t.mono e2.kp, ?_⟩
          dsimp only [Option.bind_some] at p
          revert p
          cases gs _ σ' h' with
          | none => exact fun p => p.elim
          | some z => exact fun p m3 H3 σ3 h3 e3 l3 w3 => p m3 H3 σ3 h3 (e2.trans e3) l3 (w3.trans w2)
    · exact p.elim
theorem sgc_tup {k n : Nat} (hc : X.calm = true) (h : SGsc X ct vs es gs) (hn : (assignEach es X.env).length = n := by rfl) (hst : (assignEach es X.env).findIdx? (·.1) = none := by rfl) : SGc X ct vs (.Tuple es k pos) (gTp n gs) :=
  PG.imp (pg_tup hc h hn hst) fun v σV H Q ⟨m, ah, σ, x, hr, lr, r, p⟩ => by
    unfold gTp at p
    split at p
    · obtain ⟨l, ws, rfl, h1, r1⟩ := tup_of r
      split at p
      · rename_i hl
        exact ⟨l, ws, rfl, h1, by rw [← r1.length]; exact hl, m, ah, σ, _, hr, lr, r1, p⟩
      · exact p.elim
    · exact p.elim
end
/-! ### the tests of a clause -/
abbrev SPT (X : Cx) (ct : CT) (W : WX) (es : List Expr) (f : SemT) : Prop := PTs X es (rdT X.K ct W f)
theorem PTs.imp {X : Cx} {e : List Expr} {t t' : TT} (h : PTs X e t) (i : ∀ σ H Q, t' σ H Q → t σ H Q) : PTs X e t' := ⟨fun pins s σ H Q I q => h.run pins s σ H Q I (i _ _ _ q)⟩
def tYs : SemT := fun _ h => .ok true h
theorem spt_nil {X : Cx} {ct : CT} {W : WX} : SPT X ct W [] tYs := PTs.imp pts_nil fun σV H Q ⟨m, ah, σ, hr, lr, p⟩ => p m H true hr (Ext.refl _ _ _) rfl
theorem spt_one {X : Cx} {ct : CT} {W : WX} {c : Expr} {t : SemT} (h : ST X ct W c t) : SPT X ct W [c] t := pts_one h

/-! ### what is made -/
def cmpAdd (n0 : Nat) (y : Vl) (h : Hs) : Option Hs := match toD y h with
  | some (d, h') => (match h'[n0]? with
    | some (.lst acc) => if acc.length < sizeLine then some ((h'.set n0 (.lst (acc ++ [d]))).take (n0 + 1)) else none
    | _ => none)
  | none => none
def cmpL (vs : List Nat) (g : SemG) (t : SemT) (f : SemE) (n0 : Nat) : List D → Lo → Hs → Option Hs
  | [], _, h => some h
  | d :: ds, σ, h => match g (.d d) (wipeL σ vs) h with
    | none => none
    | some (σ1, h1) => match t σ1 h1 with
      | .ok b h2 => if b = true then (match f σ1 h2 with
          | .ok y h3 => (match cmpAdd n0 y h3 with
            | some h4 => cmpL vs g t f n0 ds σ h4
            | none => none)
          | _ => none)
        else cmpL vs g t f n0 ds σ (h2.take (n0 + 1))
      | _ => none
def lcEnd (mu : Bool) (n0 : Nat) (h : Hs) : Res Vl := match mu with
  | true => .ok (.r n0) h
  | false => (match h[n0]? with
    | some (.lst acc) => .ok (.d (.lv acc)) (h.take n0)
    | _ => .bad)
def eLc (mu : Bool) (vs : List Nat) (it : SemI) (g : SemG) (t : SemT) (f : SemE) : SemE := fun σ h => rb (it σ h) fun ds h1 => match cmpL vs g t f h1.length ds σ (h1 ++ [.lst []]) with
  | some h2 => lcEnd mu h1.length h2
  | none => .bad
/-- [f for g in it if t for g1 in it1 if t1] -/
def cm2L (vs vs1 : List Nat) (g : SemG) (t : SemT) (it1 : SemI) (g1 : SemG) (t1 : SemT) (f : SemE) (n0 : Nat) : List D → Lo → Hs → Option Hs
  | [], _, h => some h
  | d :: ds, σ, h => match g (.d d) (wipeL σ vs) h with
    | none => none
    | some (σ1, h1) => match t σ1 h1 with
      | .ok b h2 => if b = true then (match it1 σ1 h2 with
          | .ok es h3 => (match cmpL vs1 g1 t1 f n0 es (clr (n0 + 1) σ1) (h3.take (n0 + 1)) with
            | some h4 => cm2L vs vs1 g t it1 g1 t1 f n0 ds σ h4
            | none => none)
          | _ => none)
        else cm2L vs vs1 g t it1 g1 t1 f n0 ds σ (h2.take (n0 + 1))
      | _ => none
def eLc2 (mu : Bool) (vs vs1 : List Nat) (it : SemI) (g : SemG) (t : SemT) (it1 : SemI) (g1 : SemG) (t1 : SemT) (f : SemE) : SemE := fun σ h => rb (it σ h) fun ds h1 => match cm2L vs vs1 g t it1 g1 t1 f h1.length ds σ (h1 ++ [.lst []]) with
  | some h2 => lcEnd mu h1.length h2
  | none => .bad

section
variable {K : PySem.W.Frag} {ct : CT} {m m' : List Addr} {ah ah' : Hs} {H H' : Hp}
/-- one more -/
theorem cmpAdd_sound {Dd : Addr} {h : Hs} (hr1 : HR K ct m ah H) (hrA : HR K ct (m ++ [Dd]) ah' H') {m5 : List Addr} {h5 : Hs} {H5 : Hp} (hr5 : HR K ct m5 h5 H5) (e5 : Ext (m ++ [Dd]) ah' H' m5 h5 H5) (hl : ah'.length = ah.length + 1) {y : Vl} {v : V} (r : VlR K ct m5 h5 H5 y v) (q : cmpAdd ah.length y h5 = some h) :
    ∃ acc, H5 Dd = some (.lst acc) ∧ acc.length < sizeLine ∧ HR K ct (m ++ [Dd]) h (upd H5 Dd (.lst (acc ++ [v]))) ∧ Ext (m ++ [Dd]) ah' H' (m ++ [Dd]) h (upd H5 Dd (.lst (acc ++ [v]))) := by
  unfold cmpAdd at q
  cases q1 : toD y h5 with
  | none => rw [q1] at q; cases q
  | some z =>
    obtain ⟨d, h6⟩ := z
    rw [q1] at q
    dsimp only at q
    obtain ⟨hr6, e6, r6⟩ := toD_sound hr5 q1 r
    have hD : m5[ah.length]? = some Dd := e5.at (at_new hr1)
    cases q2 : h6[ah.length]? with
    | none => rw [q2] at q; cases q
    | some o =>
      rw [q2] at q
      cases o with
      | lst acc =>
        dsimp only at q
        split at q
        · rename_i hz
          cases q
          obtain ⟨u, hu, ou⟩ := hr6.ob _ _ _ hD q2
          cases ou with
          | lst t =>
            obtain ⟨hr7, e7⟩ := hr6.write hD q2 (by simp) (OR.lst (t.append (.cons r6 .nil)))
            obtain ⟨hr8, e8⟩ := HR.trim' hrA hr7 ((e5.trans e6).trans e7)
            rw [hl] at hr8 e8
            exact ⟨_, hu, by rw [← t.length]; exact hz, hr8, e8⟩
        · cases q
      | _ => cases q
/-- the list is made -/
theorem lcEnd_sound {W : WX} {σV : L2.St} {Dd : Addr} {h : Hs} {mu : Bool} {Q : VK} (hr1 : HR K ct m ah H) (hD : H Dd = none) (hr : HR K ct (m ++ [Dd]) h H') (e : Ext m ah H (m ++ [Dd]) h H') (p : Po K ct W σV (VlR K ct) m ah H (lcEnd mu ah.length h) Q) : Q (.ref Dd) H' := by
  cases mu with
  | true => exact p _ H' _ hr e ⟨Dd, at_new hr1, rfl⟩
  | false =>
    unfold lcEnd at p
    dsimp only at p
    cases q : h[ah.length]? with
    | none => rw [q] at p; exact p.elim
    | some o =>
      rw [q] at p
      cases o with
      | lst acc =>
        dsimp only at p
        obtain ⟨u, hu, ou⟩ := hr.ob _ _ _ (at_new hr1) q
        cases ou with
        | lst t =>
          obtain ⟨hr2, e2⟩ := HR.trim' hr1 hr e
          have kp := (hr.trim m.length).2
          rw [List.take_left' rfl, hr1.len] at kp
          exact p m H' _ hr2 e2 (.lv hu (fun ⟨j, o, f1, f2, f3⟩ => hr1.fresh hD j f1) (t.mono kp))
      | _ => exact p.elim
end

section
variable {X : Cx} {ct : CT} {W : WX} {pos : Pos} {it it1 : SemI} {g g1 : SemG} {t t1 : SemT} {f : SemE} {vs vs1 : List Nat} {mu : Bool}
theorem wipe_wipe (σV : L2.St) (us : List Nat) : L2.wipe (L2.wipe σV us) us = L2.wipe σV us := by
  have key : ∀ (us : List Nat) (τ : L2.St), (∀ v ∈ us, τ[v]? = none ∨ τ[v]? = some Option.none) → L2.wipe τ us = τ := by
    intro us
    induction us with
    | nil => intro τ _; rfl
    | cons v us ih =>
      intro τ hτ
      unfold L2.wipe
      rw [ih τ fun w hw => hτ w (List.mem_cons_of_mem _ hw)]
      rcases hτ v List.mem_cons_self with z | z
      · rw [List.set_eq_of_length_le (List.getElem?_eq_none_iff.mp z)]
      · apply List.ext_getElem?
        intro j
        by_cases e : v = j
        · subst e; rw [List.getElem?_set_self (List.getElem?_eq_some_iff.mp z).1, z]
        · rw [List.getElem?_set_ne e]
  refine key us _ fun v hv => ?_
  cases e : (L2.wipe σV us)[v]? with
  | none => exact .inl rfl
  | some o =>
    cases o with
    | none => exact .inr rfl
    | some y => exact absurd hv (wipe_some e).2
theorem rd_lc {σV : L2.St} {H : Hp} {Q : VK} (h : rdE X.K ct W (eLc mu vs it g t f) σV H Q) : tLc (rdI X.K ct W it) (rdGc X.K ct vs g) (rdT X.K ct W0 t) (rdE X.K ct W0 f) vs σV H Q := by
  obtain ⟨m, ah, σ, hr, lr, p⟩ := h
  refine ⟨m, ah, σ, hr, lr, (Po.bind (R := fun m1 h1 H1 ds J => Wks X.K ct ds m1 h1 H1 J) p).imp fun J H1 ⟨m1, h1, ds, hr1, e1, w1, p1⟩ Dd hD => ?_⟩
  dsimp only at p1 w1
  cases q : cmpL vs g t f h1.length ds σ (h1 ++ [.lst []]) with
  | none => rw [q] at p1; exact p1.elim
  | some hE =>
    rw [q] at p1
    dsimp only at p1
    obtain ⟨hrA, eA⟩ := hr1.alloc hD (OR.lst (ct := ct) .nil)
    have lrA := (lr.ext e1).ext eA
    refine ⟨fun i n H => n = ds.length - i ∧ i ≤ ds.length ∧ ∃ h2, HR X.K ct (m1 ++ [Dd]) h2 H ∧ Ext (m1 ++ [Dd]) (h1 ++ [.lst []]) (upd H1 Dd (.lst [])) (m1 ++ [Dd]) h2 H ∧ cmpL vs g t f h1.length (ds.drop i) σ h2 = some hE,
      ⟨ds.length, by simp, Nat.zero_le _, _, hrA, Ext.refl _ _ _, by rw [List.drop_zero]; exact q⟩, ?_⟩
    rintro i n H2 ⟨rfl, hi, h2, hr2, e2, q2⟩
    obtain ⟨ws, wg⟩ := w1 _ h2 H2 hr2 (eA.trans e2).kp
    by_cases hlt : i < ds.length
    · rw [List.drop_eq_getElem_cons hlt] at q2
      obtain ⟨go, wy⟩ := wg i _ (List.getElem?_eq_getElem hlt)
      refine .inr ⟨go, fun H3 => ∃ h3, HR X.K ct (m1 ++ [Dd]) h3 H3 ∧ Ext (m1 ++ [Dd]) (h1 ++ [.lst []]) (upd H1 Dd (.lst [])) (m1 ++ [Dd]) h3 H3 ∧ cmpL vs g t f h1.length (ds.drop (i + 1)) σ h3 = some hE,
        fun H3 ⟨h3, a1, a2, a3⟩ => ⟨ds.length - (i + 1), by omega, rfl, hlt, h3, a1, a2, a3⟩, fun x H3 hy => ?_⟩
      obtain ⟨hr3, e3, rd⟩ := wy x H3 hy
      refine ⟨_, h2, _, .d _, hr3, ((lrA.ext e2).ext e3).wipe vs, rd, ?_⟩
      rw [cmpL] at q2
      cases q3 : g (.d ds[i]) (wipeL σ vs) h2 with
      | none => rw [q3] at q2; cases q2
      | some z =>
        obtain ⟨σ4, h4⟩ := z
        rw [q3] at q2
        dsimp only at q2
        refine fun m4 H4 σV4 hr4 e4 l4 w4 => ⟨w4.trans ?_, m4, h4, σ4, hr4, l4, ?_⟩
        · exact wipe_wipe _ _
        cases q4 : t σ4 h4 with
        | bad => rw [q4] at q2; cases q2
        | exc e h5 => rw [q4] at q2; cases q2
        | ok b h5 =>
          rw [q4] at q2
          dsimp only at q2
          refine fun m5 H5 b' hr5 e5 rb5 => ?_
          subst rb5
          have e25 := (e3.trans e4).trans e5
          cases b with
          | false =>
            rw [if_neg Bool.false_ne_true] at q2
            obtain ⟨hr6, e6⟩ := HR.trim' hr2 hr5 e25
            have hl : h2.length = h1.length + 1 := by rw [← hr2.len, ← hr1.len, List.length_append]; rfl
            rw [hl] at hr6 e6
            exact ⟨_, hr6, e2.trans e6, q2⟩
          | true =>
            rw [if_pos rfl] at q2
            refine ⟨m5, h5, σ4, hr5, l4.ext e5, ?_⟩
            cases q5 : f σ4 h5 with
            | bad => rw [q5] at q2; cases q2
            | exc e h6 => rw [q5] at q2; cases q2
            | ok y h6 =>
              rw [q5] at q2
              dsimp only at q2
              cases q6 : cmpAdd h1.length y h6 with
              | none => rw [q6] at q2; cases q2
              | some h7 =>
                rw [q6] at q2
                dsimp only at q2
                refine fun m6 H6 v hr6 e6 r6 => ?_
                have hl : h2.length = h1.length + 1 := by rw [← hr2.len, ← hr1.len, List.length_append]; rfl
                obtain ⟨acc, a1, a2, a3, a4⟩ := cmpAdd_sound hr1 hr2 hr6 (e25.trans e6) hl r6 q6
                exact ⟨acc, a1, a2, h7, a3, e2.trans a4, q2⟩
    · have e : i = ds.length := by omega
      subst e
      rw [List.drop_length, cmpL] at q2
      cases q2
      exact .inl ⟨ws _ (Nat.le_refl _), lcEnd_sound hr1 hD hr2 (eA.trans e2) p1⟩
theorem rd_lc2 {σV : L2.St} {H : Hp} {Q : VK} (h : rdE X.K ct W (eLc2 mu vs vs1 it g t it1 g1 t1 f) σV H Q) : tLc2 (rdI X.K ct W it) (rdGc X.K ct vs g) (rdT X.K ct W0 t) (rdI X.K ct W0 it1) (rdGc X.K ct vs1 g1) (rdT X.K ct W0 t1) (rdE X.K ct W0 f) vs vs1 σV H Q := by
  obtain ⟨m, ah, σ, hr, lr, p⟩ := h
  refine ⟨m, ah, σ, hr, lr, (Po.bind (R := fun m1 h1 H1 ds J => Wks X.K ct ds m1 h1 H1 J) p).imp fun J H1 ⟨m1, h1, ds, hr1, e1, w1, p1⟩ Dd hD => ?_⟩
  dsimp only at p1 w1
  cases q : cm2L vs vs1 g t it1 g1 t1 f h1.length ds σ (h1 ++ [.lst []]) with
  | none => rw [q] at p1; exact p1.elim
  | some hE =>
    rw [q] at p1
    dsimp only at p1
    obtain ⟨hrA, eA⟩ := hr1.alloc hD (OR.lst (ct := ct) .nil)
    have lrA := (lr.ext e1).ext eA
    refine ⟨fun i n H => n = ds.length - i ∧ i ≤ ds.length ∧ ∃ h2, HR X.K ct (m1 ++ [Dd]) h2 H ∧ Ext (m1 ++ [Dd]) (h1 ++ [.lst []]) (upd H1 Dd (.lst [])) (m1 ++ [Dd]) h2 H ∧ cm2L vs vs1 g t it1 g1 t1 f h1.length (ds.drop i) σ h2 = some hE,
      ⟨ds.length, by simp, Nat.zero_le _, _, hrA, Ext.refl _ _ _, by rw [List.drop_zero]; exact q⟩, ?_⟩
    rintro i n H2 ⟨rfl, hi, h2, hr2, e2, q2⟩
    have hl2 : h2.length = h1.length + 1 := by rw [← hr2.len, ← hr1.len, List.length_append]; rfl
    obtain ⟨ws, wg⟩ := w1 _ h2 H2 hr2 (eA.trans e2).kp
    by_cases hlt : i < ds.length
    · rw [List.drop_eq_getElem_cons hlt] at q2
      obtain ⟨go, wy⟩ := wg i _ (List.getElem?_eq_getElem hlt)
      refine .inr ⟨go, fun H3 => ∃ h3, HR X.K ct (m1 ++ [Dd]) h3 H3 ∧ Ext (m1 ++ [Dd]) (h1 ++ [.lst []]) (upd H1 Dd (.lst [])) (m1 ++ [Dd]) h3 H3 ∧ cm2L vs vs1 g t it1 g1 t1 f h1.length (ds.drop (i + 1)) σ h3 = some hE,
        fun H3 ⟨h3, a1, a2, a3⟩ => ⟨ds.length - (i + 1), by omega, rfl, hlt, h3, a1, a2, a3⟩, fun x H3 hy => ?_⟩
      obtain ⟨hr3, e3, rd⟩ := wy x H3 hy
      refine ⟨_, h2, _, .d _, hr3, ((lrA.ext e2).ext e3).wipe vs, rd, ?_⟩
      rw [cm2L] at q2
      cases q3 : g (.d ds[i]) (wipeL σ vs) h2 with
      | none => rw [q3] at q2; cases q2
      | some z =>
        obtain ⟨σ4, h4⟩ := z
        rw [q3] at q2
        dsimp only at q2
        refine fun m4 H4 σV4 hr4 e4 l4 w4 => ⟨w4.trans (wipe_wipe _ _), m4, h4, σ4, hr4, l4, ?_⟩
        cases q4 : t σ4 h4 with
        | bad => rw [q4] at q2; cases q2
        | exc e h5 => rw [q4] at q2; cases q2
        | ok b h5 =>
          rw [q4] at q2
          dsimp only at q2
          refine fun m5 H5 b' hr5 e5 rb5 => ?_
          subst rb5
          have e25 := (e3.trans e4).trans e5
          cases b with
          | false =>
            rw [if_neg Bool.false_ne_true] at q2
            obtain ⟨hr6, e6⟩ := HR.trim' hr2 hr5 e25
            rw [hl2] at hr6 e6
            exact ⟨_, hr6, e2.trans e6, q2⟩
          | true =>
            rw [if_pos rfl] at q2
            have l5 := l4.ext e5
            refine ⟨m5, h5, σ4, hr5, l5, ?_⟩
            cases q5 : it1 σ4 h5 with
            | bad => rw [q5] at q2; cases q2
            | exc e h6 => rw [q5] at q2; cases q2
            | ok es h6 =>
              rw [q5] at q2
              dsimp only at q2
              cases q6 : cmpL vs1 g1 t1 f h1.length es (clr (h1.length + 1) σ4) (h6.take (h1.length + 1)) with
              | none => rw [q6] at q2; cases q2
              | some h7 =>
                rw [q6] at q2
                dsimp only at q2
                refine fun m6 H6 J1 hr6 e6 w6 => ?_
                have e26 := e25.trans e6
                obtain ⟨hrB, eB⟩ := HR.trim' hr2 hr6 e26
                rw [hl2] at hrB eB
                have kpB : Kp (Sf m6 h6) H6 (Sf (m1 ++ [Dd]) (h6.take (h1.length + 1))) H6 := by
                  have := (hr6.trim (m1 ++ [Dd]).length).2
                  obtain ⟨tt, et⟩ := e26.pre
                  rw [et, List.take_left' rfl, hr2.len, hl2, ← et] at this
                  exact this
                have lB : LR X.K ct (m1 ++ [Dd]) (h6.take (h1.length + 1)) H6 (clr (h1.length + 1) σ4) σV4 := by
                  have := LR.clr hr6 e26 hr2.len (l5.ext e6)
                  rw [hl2] at this
                  exact this
                refine ⟨fun j k H => k = es.length - j ∧ j ≤ es.length ∧ ∃ h8, HR X.K ct (m1 ++ [Dd]) h8 H ∧ Ext (m1 ++ [Dd]) (h6.take (h1.length + 1)) H6 (m1 ++ [Dd]) h8 H ∧ cmpL vs1 g1 t1 f h1.length (es.drop j) (clr (h1.length + 1) σ4) h8 = some h7,
                  ⟨es.length, by simp, Nat.zero_le _, _, hrB, Ext.refl _ _ _, by rw [List.drop_zero]; exact q6⟩, ?_⟩
                rintro j k H8 ⟨rfl, hj, h8, hr8, e8, q8⟩
                obtain ⟨ws1, wg1⟩ := w6 _ h8 H8 hr8 (kpB.trans e8.kp)
                by_cases hlt1 : j < es.length
                · rw [List.drop_eq_getElem_cons hlt1] at q8
                  obtain ⟨go1, wy1⟩ := wg1 j _ (List.getElem?_eq_getElem hlt1)
                  refine .inr ⟨go1, fun H9 => ∃ h9, HR X.K ct (m1 ++ [Dd]) h9 H9 ∧ Ext (m1 ++ [Dd]) (h6.take (h1.length + 1)) H6 (m1 ++ [Dd]) h9 H9 ∧ cmpL vs1 g1 t1 f h1.length (es.drop (j + 1)) (clr (h1.length + 1) σ4) h9 = some h7,
                    fun H9 ⟨h9, a1, a2, a3⟩ => ⟨es.length - (j + 1), by omega, rfl, hlt1, h9, a1, a2, a3⟩, fun x1 H9 hy1 => ?_⟩
                  obtain ⟨hr9, e9, rd9⟩ := wy1 x1 H9 hy1
                  refine ⟨_, h8, _, .d _, hr9, ((lB.ext e8).ext e9).wipe vs1, rd9, ?_⟩
                  rw [cmpL] at q8
                  cases q9 : g1 (.d es[j]) (wipeL (clr (h1.length + 1) σ4) vs1) h8 with
                  | none => rw [q9] at q8; cases q8
                  | some z =>
                    obtain ⟨σA, hA⟩ := z
                    rw [q9] at q8
                    dsimp only at q8
                    refine fun mA HA σVA hrA' eA' lA' wA' => ⟨wA'.trans (wipe_wipe _ _), mA, hA, σA, hrA', lA', ?_⟩
                    have hl8 : h8.length = h1.length + 1 := by rw [← hr8.len, ← hr1.len, List.length_append]; rfl
                    cases qA : t1 σA hA with
                    | bad => rw [qA] at q8; cases q8
                    | exc e h5 => rw [qA] at q8; cases q8
                    | ok b hB =>
                      rw [qA] at q8
                      dsimp only at q8
                      refine fun mB HB b' hrB' eB' rb5 => ?_
                      subst rb5
                      have e9B := (e9.trans eA').trans eB'
                      cases b with
                      | false =>
                        rw [if_neg Bool.false_ne_true] at q8
                        obtain ⟨hrC, eC⟩ := HR.trim' hr8 hrB' e9B
                        rw [hl8] at hrC eC
                        exact ⟨_, hrC, e8.trans eC, q8⟩
                      | true =>
                        rw [if_pos rfl] at q8
                        refine ⟨mB, hB, σA, hrB', lA'.ext eB', ?_⟩
                        cases qB : f σA hB with
                        | bad => rw [qB] at q8; cases q8
                        | exc e h6 => rw [qB] at q8; cases q8
                        | ok y hC =>
                          rw [qB] at q8
                          dsimp only at q8
                          cases qC : cmpAdd h1.length y hC with
                          | none => rw [qC] at q8; cases q8
                          | some hD' =>
                            rw [qC] at q8
                            dsimp only at q8
                            refine fun mC HC v hrC eC rC => ?_
                            obtain ⟨acc, a1, a2, a3, a4⟩ := cmpAdd_sound hr1 hr8 hrC (e9B.trans eC) hl8 rC qC
                            exact ⟨acc, a1, a2, hD', a3, e8.trans a4, q8⟩
                · have e : j = es.length := by omega
                  subst e
                  rw [List.drop_length, cmpL] at q8
                  cases q8
                  exact .inl ⟨ws1 _ (Nat.le_refl _), _, hr8, e2.trans (eB.trans e8), q2⟩
    · have e : i = ds.length := by omega
      subst e
      rw [List.drop_length, cm2L] at q2
      cases q2
      exact .inl ⟨ws _ (Nat.le_refl _), lcEnd_sound hr1 hD hr2 (eA.trans e2) p1⟩
variable {elt tg iter tg1 iter1 : Expr} {ifs ifs1 : List Expr} {scope : Scope} {own : List (Str × Nat)}
abbrev BlkA (X : Cx) (scope : Scope) (φ : Cx → Prop) : Prop := ∀ (s : Shared) (H : Hp) (C : Addr) (cl : List (Str × Addr)) (fp : List Addr), φ (X.blk s H scope (compEnvC scope cl C X.env) fp)
theorem se_lc (mu : Bool) (hc : X.calm = true) (hN : X.N.Nodup) (hi : SI X ct W tg iter it) (ok : BlkOk X.N X.env.scope scope own) (hvs : own.map (·.2) = vs)
    (hg : BlkA X scope fun Y => SGc Y ct vs tg g) (ht : BlkA X scope fun Y => SPT Y ct W0 ifs t) (he : BlkA X scope fun Y => SE Y ct W0 elt f) (hs : ∀ x, foldedSetIterable iter X.env x = pure x := by intro _; rfl) :
    SE X ct W (.ListComp elt [⟨tg, iter, ifs, 0⟩] scope pos) (eLc mu vs it g t f) := by
  subst hvs
  exact PE.imp (pe_lc hc hN hi ok hg ht he hs) fun _ _ _ h => rd_lc h
theorem ss_setLc (mu : Bool) {i : Nat} {y : Str} {py spos : Pos} (hc : X.calm = true) (hN : X.N.Nodup) (hy : X.N[i]? = some y) (hyl : X.env.scope.names.lookup y = some .local)
    (hsw : swapsWith (.ListComp elt [⟨tg, iter, ifs, 0⟩] scope pos) (some (.Name y py)) spos.line X.env = pure true) (hi : SI X ct W tg iter it) (ok : BlkOk X.N X.env.scope scope own) (hvs : own.map (·.2) = vs)
    (hg : BlkA X scope fun Y => SGc Y ct vs tg g) (ht : BlkA X scope fun Y => SPT Y ct W0 ifs t) (he : BlkA X scope fun Y => SE Y ct W0 elt f) (hs : ∀ x, foldedSetIterable iter X.env x = pure x := by intro _; rfl) :
    SS X ct W (.Assign [.Name y py] (.ListComp elt [⟨tg, iter, ifs, 0⟩] scope pos) spos) (sAs (eLc mu vs it g t f) (gNm i)) := by
  subst hvs
  refine PS.imp (ps_setLc (g := rdGc X.K ct (own.map (·.2)) g) (tt := rdT X.K ct W0 t) (te := rdE X.K ct W0 f) hc hN hy hyl hsw hi ok hg ht he hs) fun D σV H ⟨m, ah, σ, hr, lr, p⟩ => ?_
  exact rd_lc ⟨m, ah, σ, hr, lr, (PoS.bind (R := VlR X.K ct) lr p).imp fun x H1 ⟨m1, h1, y, hr1, e1, r1, p1⟩ => p1 m1 H1 _ hr1 (Ext.refl _ _ _) ((lr.ext e1).set r1 i)⟩
theorem se_lc2 (mu : Bool) (hc : X.calm = true) (hN : X.N.Nodup) (hi : SI X ct W tg iter it) (ok : BlkOk X.N X.env.scope scope own) (hvs : own.map (·.2) = vs) (hv : ∀ i ∈ vs1, i ∈ own.map (·.2))
    (hg : BlkA X scope fun Y => SGc Y ct vs tg g) (ht : BlkA X scope fun Y => SPT Y ct W0 ifs t)
    (hi1 : BlkA X scope fun Y => SI Y ct W0 tg1 iter1 it1) (hg1 : BlkA X scope fun Y => SGc Y ct vs1 tg1 g1) (ht1 : BlkA X scope fun Y => SPT Y ct W0 ifs1 t1)
    (he : BlkA X scope fun Y => SE Y ct W0 elt f) (hs : ∀ x, foldedSetIterable iter X.env x = pure x := by intro _; rfl) (hs1 : ∀ env x, foldedSetIterable iter1 env x = pure x := by intro _ _; rfl) :
    SE X ct W (.ListComp elt [⟨tg, iter, ifs, 0⟩, ⟨tg1, iter1, ifs1, 0⟩] scope pos) (eLc2 mu vs vs1 it g t it1 g1 t1 f) := by
  subst hvs
  exact PE.imp (pe_lc2 hc hN hi ok hv hg ht hi1 hg1 ht1 he hs hs1) fun _ _ _ h => rd_lc2 h
theorem ss_setLc2 (mu : Bool) {i : Nat} {y : Str} {py spos : Pos} (hc : X.calm = true) (hN : X.N.Nodup) (hy : X.N[i]? = some y) (hyl : X.env.scope.names.lookup y = some .local)
    (hsw : swapsWith (.ListComp elt [⟨tg, iter, ifs, 0⟩, ⟨tg1, iter1, ifs1, 0⟩] scope pos) (some (.Name y py)) spos.line X.env = pure true) (hi : SI X ct W tg iter it) (ok : BlkOk X.N X.env.scope scope own) (hvs : own.map (·.2) = vs) (hv : ∀ i ∈ vs1, i ∈ own.map (·.2))
    (hg : BlkA X scope fun Y => SGc Y ct vs tg g) (ht : BlkA X scope fun Y => SPT Y ct W0 ifs t)
    (hi1 : BlkA X scope fun Y => SI Y ct W0 tg1 iter1 it1) (hg1 : BlkA X scope fun Y => SGc Y ct vs1 tg1 g1) (ht1 : BlkA X scope fun Y => SPT Y ct W0 ifs1 t1)
    (he : BlkA X scope fun Y => SE Y ct W0 elt f) (hs : ∀ x, foldedSetIterable iter X.env x = pure x := by intro _; rfl) (hs1 : ∀ env x, foldedSetIterable iter1 env x = pure x := by intro _ _; rfl) :
    SS X ct W (.Assign [.Name y py] (.ListComp elt [⟨tg, iter, ifs, 0⟩, ⟨tg1, iter1, ifs1, 0⟩] scope pos) spos) (sAs (eLc2 mu vs vs1 it g t it1 g1 t1 f) (gNm i)) := by
  subst hvs
  refine PS.imp (ps_setLc2 (g := rdGc X.K ct (own.map (·.2)) g) (tt := rdT X.K ct W0 t) (wi1 := rdI X.K ct W0 it1) (g1 := rdGc X.K ct vs1 g1) (tt1 := rdT X.K ct W0 t1) (te := rdE X.K ct W0 f) hc hN hy hyl hsw hi ok hv hg ht hi1 hg1 ht1 he hs hs1) fun D σV H ⟨m, ah, σ, hr, lr, p⟩ => ?_
  exact rd_lc2 ⟨m, ah, σ, hr, lr, (PoS.bind (R := VlR X.K ct) lr p).imp fun x H1 ⟨m1, h1, y, hr1, e1, r1, p1⟩ => p1 m1 H1 _ hr1 (Ext.refl _ _ _) ((lr.ext e1).set r1 i)⟩
end
end Mi

/-! Mi8: more operations: min, max, append, extend, stores, tuples of ranges, in for tuples, isinstance, own == -/
namespace Mi
open PySem PySem.Spec L2

section
variable {X : Cx} {ct : CT} {W : WX} {pos p apos : Pos} {e o : Expr} {es : List Expr} {f g : SemE} {fs : SemA}
/-! ### min, max of two ints -/
def n2 (k : Int → Int → Int) : OpN := fun xs h => match xs with
  | [.d (.int i), .d (.int j)] => some (.d (.int (k i j)), h)
  | _ => none
def nMin2 : OpN := n2 fun i j => if j < i then j else i
def nMax2 : OpN := n2 fun i j => if j > i then j else i
theorem n2_sound {id : String} {k : Int → Int → Int} (hc : CallR X (.builtin id) (fun xs H Q => ∃ i j, xs = [.int i, .int j] ∧ Q (.int (k i j)) H)) : CallR X (.builtin id) (rN X.K ct (n2 k)) := by
  refine CallR.imp hc fun vs H Q ⟨m, ah, xs, hr, rs, p⟩ => ?_
  unfold n2 at p
  split at p
  · cases rs with
    | cons r t =>
      cases t with
      | cons r2 t => cases t; cases r; cases r2; exact ⟨_, _, rfl, p.same hr (.int _)⟩
  · exact p.elim
theorem min2_sound (hc : X.calm = true) : CallR X (.builtin "min") (rN X.K ct nMin2) := n2_sound (call_min2 hc)
theorem max2_sound (hc : X.calm = true) : CallR X (.builtin "max") (rN X.K ct nMax2) := n2_sound (call_max2 hc)

/-! ### methods of a changeable list -/
def eLm (op : List D → List D → Hs → Option (List D × Vl)) (f : SemE) (fs : SemA) : SemE := fun σ h => rb (f σ h) fun x h1 => match x with
  | .r k => (match h1[k]? with
    | some (.lst _) => rb (fs σ h1) fun ys h2 => (match h2[k]? with
      | some (.lst xs) => (match toDs ys h2 with
        | some (ds, h3) => (match h3[k]? with
          | some (.lst _) => (match op xs ds h3 with
            | some (xs', v) => .ok v (h3.set k (.lst xs'))
            | none => .bad)
          | _ => .bad)
        | none => .bad)
      | _ => .bad)
    | _ => .bad)
  | _ => .bad
def lmAppend : List D → List D → Hs → Option (List D × Vl) := fun xs ds _ => match ds with
  | [d] => if xs.length < sizeLine then some (xs ++ [d], .d .non) else none
  | _ => none
theorem toDs_keep {k : Nat} {xs : List D} : ∀ {ys : List Vl} {h : Hs} {ds : List D} {h' : Hs}, toDs ys h = some (ds, h') → h'[k]? = some (.lst xs) → h[k]? = some (.lst xs)
  | [], h, ds, h', e, q => by cases e; exact q
  | y :: ys, h, ds, h', e, q => by
    unfold toDs at e
    cases e1 : toD y h with
    | none => rw [e1] at e; cases e
    | some z =>
      obtain ⟨d, h1⟩ := z
      rw [e1] at e
      simp only [Option.bind_some] at e
      cases e2 : toDs ys h1 with
      | none => rw [e2] at e; cases e
      | some z2 =>
        obtain ⟨ds2, h2⟩ := z2
        rw [e2] at e
        simp only [Option.map_some, Option.some.injEq, Prod.mk.injEq] at e
        obtain ⟨_, rfl⟩ := e
        have q1 := toDs_keep (k := k) (xs := xs) e2 q
        unfold toD at e1
        split at e1
        · cases e1; exact q1
        · rename_i j
          have hj : ∀ o : O, h1 = h.set j .dead → h[k]? = some (.lst xs) := fun _ z => by
            subst z
            by_cases hk : j = k
            · subst hk
              by_cases hl : j < h.length
              · rw [List.getElem?_set_self hl] at q1; cases q1
              · rw [List.getElem?_eq_none (by rw [List.length_set]; omega)] at q1; cases q1
            · rw [List.getElem?_set_ne hk] at q1; exact q1
          split at e1 <;> first | (cases e1; exact hj .dead rfl) | cases e1
theorem se_append {cpos : Pos} (he : SE X ct W o f) (ha : SA X ct W [e] fs)
    (hbase : attributeBase o "append" X.env (eval o X.env) = eval o X.env := by rfl)
    (hfew : ((backTo cpos (starEach [e] X.env)).all (fun x => !x.1) && (backToKw cpos (keywordEach [] X.env)).all (fun x => x.1.isSome)
      && decide ([e].length + ([] : List Keyword).length + (if ([] : List Keyword).isEmpty then 0 else 1) < 30)) = true := by rfl)
    (hline : (apos.endLine == cpos.line) = true := by rfl) (hs : starEach [e] X.env = (false, eval e X.env) :: starEach [] X.env := by rfl) (hplain : (backTo cpos (starEach [] X.env)).any (·.1) = false := by rfl) :
    SE X ct W (.Call (.Attribute o "append" apos) [e] [] cpos) (eLm lmAppend f fs) :=
  PE.imp (pe_bm PySem.F.plainAttrs_list PySem.F.slot_list_append PySem.F.type_list_append (r := rAppend) mt_append he ha hbase hfew hline hs hplain) fun σV H Q ⟨m, ah, σ, hr, lr, p⟩ => by
    refine ⟨m, ah, σ, hr, lr, (Po.bind (R := VlR X.K ct) p).imp fun v H1 ⟨m1, h1, x, hr1, e1, r1, p1⟩ => ?_⟩
    dsimp only at p1
    split at p1
    · rename_i k
      split at p1
      · rename_i ys hk
        obtain ⟨a, vs, ha, rfl, g1, g2⟩ := hr1.lstK hk r1
        refine ⟨.inl ⟨rfl, vs, .of g1⟩, m1, h1, σ, hr1, lr.ext e1, (Po.bind (R := VlRs X.K ct) p1).imp fun us H2 ⟨m2, h2, ys2, hr2, e2, r2, p2⟩ => ?_⟩
        dsimp only at p2
        split at p2
        · rename_i xs hk2
          split at p2
          · rename_i ds h3 q3
            obtain ⟨hr3, e3, r3⟩ := toDs_sound hr2 q3 r2
            split at p2
            · rename_i xs2 hk3
              have ee := toDs_keep q3 hk3
              rw [hk2] at ee
              cases ee
              unfold lmAppend at p2
              split at p2
              · rename_i xs' v hop
                split at hop
                · split at hop
                  · rename_i hz
                    cases hop
                    have ha2 := e2.at ha
                    obtain ⟨u, g3, g4⟩ := hr3.ob k a _ ha2 hk3
                    cases g4 with
                    | lst t =>
                      cases r3 with
                      | cons r3 tt =>
                        cases tt
                        obtain ⟨hr4, e4⟩ := hr3.write ha2 hk3 (by simp) (OR.lst (t.append (.cons r3 .nil)))
                        refine ⟨a, _, _, rfl, rfl, g3, by rw [← t.length]; exact hz, p2 m2 _ _ hr4 (e3.trans e4) .non⟩
                  · cases hop
                · cases hop
              · exact p2.elim
            · exact p2.elim
          · exact p2.elim
        · exact p2.elim
      · exact p1.elim
    · exact p1.elim
/-- x.extend(y), y a list or tuple of data -/
theorem ext_tup (l : Addr) (items : Array Value) (n : Nat) (b : Addr) (items2 : Array Value) (n2 : Nat) (dct : Option Addr) (sl : Array (Option Value)) (h0 : (!items.isEmpty && Builtin.List.listTooLong (items.size + items2.size)) = false) (h1 : items.size ≤ sizeLine) (h2 : items.size + items2.size ≤ sizeLine + 1) :
    Meets (Builtin.«list.extend» ⟨[.ref l, .ref b], []⟩) (fun _ R s => s.heap.get? l = some { cls := .type "list", data := .seq items n } ∧ s.heap.get? b = some { cls := .type "tuple", dict := dct, data := .seq items2 n2, slots := sl } ∧
      R (.ok (.ret .none)) { s with heap := s.heap.update l (Obj.mapSeq fun x => x ++ items2) }) :=
  .of_wp fun prog w A R s ⟨hl, hb, h⟩ => by
    obtain ⟨hp, g, d, tk, os⟩ := s
    have f1 := AutoSeq1.idx_int
    have f2 := AutoSeq1.sub_tuple_tuple
    have f3 := AutoSeq1.sub_list_list
    have f4 := AutoSeq1.sub_tuple_list
    have f5 := AutoSeq1.sub_list_tuple
    have hs0 : ¬ (!items.isEmpty && Builtin.List.listTooLong (items.size + items2.size)) = true := by rw [h0]; exact Bool.false_ne_true
    have hz' : (items ++ items2).size ≤ sizeLine + 1 := by rw [Array.size_append]; exact h2
    wp_walk using (wpAny_updateSeq hl rfl (hz := h1) (_hz' := hz')), AutoSeq1.wpAny_loadPart' hl, AutoSeq1.wpAny_loadPart' hb
    exact ⟨_, rfl, h⟩
def rExtS (K : PySem.W.Frag) : V → List V → Hp → VK → Prop := fun x vs H Q => ∃ l b xs zs, x = .ref l ∧ vs = [.ref b] ∧ H l = some (.lst xs) ∧ (H b = some (.lst zs) ∨ SqT K H b zs) ∧ xs.length + zs.length ≤ sizeLine ∧ Q .non (upd H l (.lst (xs ++ zs)))
theorem mt_extS : MtM X "list.extend" (rExtS X.K) := by
  intro pins s σ H x vs v us Q I rx rv h
  obtain ⟨l, b, xs, zs, rfl, rfl, hH, hB | hB, hz, q⟩ := h
  · exact mt_extend pins s σ H _ _ v us Q I rx rv ⟨l, b, xs, zs, rfl, rfl, hH, hB, hz, q⟩
  · cases rx
    obtain ⟨u, rfl, ru⟩ := rv.one
    cases ru
    obtain ⟨z, its, n, r, hl, e⟩ := I.lstM hH
    obtain ⟨its2, r2, ⟨⟨c2, d2, dt2, sl2⟩, e2, hc2, n2, hd2⟩, hz2⟩ := I.tuple hB
    dsimp only at hc2 hd2
    subst hc2 hd2
    have l2 := r2.length
    have hsz : its.toArray.size + its2.toArray.size ≤ sizeLine := by rw [List.size_toArray, List.size_toArray]; omega
    refine call_meets PySem.F.slot_list_extend ⟨_, e, rfl⟩ PySem.F.entry_list_extend (PySem.F.args_list_extend_2 _ _)
      (ext_tup l its.toArray n b its2.toArray n2 d2 sl2 (by rw [notLongL hsz, Bool.and_false]) (by rw [List.size_toArray]; omega) (by omega)) ⟨e, e2, ?_⟩
    refine ⟨.non, _, I.lset (its' := its ++ its2) (t' := s.toks) hH e (by simp) (r.append r2) ?_, rfl, q⟩
    rw [List.length_append]
    omega
def eXt (f : SemE) (fs : SemA) : SemE := fun σ h => rb (f σ h) fun x h1 => match x with
  | .r k => (match h1[k]? with
    | some (.lst _) => rb (fs σ h1) fun ys h2 => (match ys, h2[k]? with
      | [y], some (.lst xs) => (match pureSeq y with
        | some zs => if xs.length + zs.length ≤ sizeLine then .ok (.d .non) (h2.set k (.lst (xs ++ zs))) else .bad
        | none => .bad)
      | _, _ => .bad)
    | _ => .bad)
  | _ => .bad
theorem se_extend {cpos : Pos} (he : SE X ct W o f) (ha : SA X ct W [e] fs)
    (hbase : attributeBase o "extend" X.env (eval o X.env) = eval o X.env := by rfl)
    (hfew : ((backTo cpos (starEach [e] X.env)).all (fun x => !x.1) && (backToKw cpos (keywordEach [] X.env)).all (fun x => x.1.isSome)
      && decide ([e].length + ([] : List Keyword).length + (if ([] : List Keyword).isEmpty then 0 else 1) < 30)) = true := by rfl)
    (hline : (apos.endLine == cpos.line) = true := by rfl) (hs : starEach [e] X.env = (false, eval e X.env) :: starEach [] X.env := by rfl) (hplain : (backTo cpos (starEach [] X.env)).any (·.1) = false := by rfl) :
    SE X ct W (.Call (.Attribute o "extend" apos) [e] [] cpos) (eXt f fs) :=
  PE.imp (pe_bm PySem.F.plainAttrs_list PySem.F.slot_list_extend PySem.F.type_list_extend (r := rExtS X.K) mt_extS he ha hbase hfew hline hs hplain) fun σV H Q ⟨m, ah, σ, hr, lr, p⟩ => by
    refine ⟨m, ah, σ, hr, lr, (Po.bind (R := VlR X.K ct) p).imp fun v H1 ⟨m1, h1, x, hr1, e1, r1, p1⟩ => ?_⟩
    dsimp only at p1
    split at p1
    · rename_i k
      split at p1
      · rename_i ys hk
        obtain ⟨a, vs, ha, rfl, g1, g2⟩ := hr1.lstK hk r1
        refine ⟨.inl ⟨rfl, vs, .of g1⟩, m1, h1, σ, hr1, lr.ext e1, (Po.bind (R := VlRs X.K ct) p1).imp fun us H2 ⟨m2, h2, ys2, hr2, e2, r2, p2⟩ => ?_⟩
        dsimp only at p2
        split at p2
        · rename_i y xs hk2
          split at p2
          · rename_i zs hzs
            split at p2
            · rename_i hz
              have ha2 := e2.at ha
              obtain ⟨u, g3, g4⟩ := hr2.ob k a _ ha2 hk2
              cases g4 with
              | lst t =>
                cases r2 with
                | @cons _ w _ _ r2 tt =>
                  cases tt
                  have key : ∃ b ws, w = V.ref b ∧ (H2 b = some (.lst ws) ∨ SqT X.K H2 b ws) ∧ DRs X.K ct (Sf m2 h2) H2 zs ws := by
                    unfold pureSeq at hzs
                    split at hzs
                    · cases hzs
                      obtain ⟨b, ws, rfl, q1, q2⟩ := tup_of r2
                      exact ⟨b, ws, rfl, .inr q1, q2⟩
                    · cases hzs
                      cases r2 with
                      | lv b1 b2 b3 => exact ⟨_, _, rfl, .inl b1, b3⟩
                    · cases hzs
                  obtain ⟨b, ws, rfl, q1, q2⟩ := key
                  obtain ⟨hr4, e4⟩ := hr2.write ha2 hk2 (by simp) (OR.lst (t.append q2))
                  refine ⟨a, b, _, ws, rfl, rfl, g3, q1, by rw [← t.length, ← q2.length]; exact hz, p2 m2 _ _ hr4 e4 .non⟩
            · exact p2.elim
          · exact p2.elim
        · exact p2.elim
      · exact p1.elim
    · exact p1.elim

/-! ### xs[i] = v -/
/-- the store into a list at a name -/
def gSt (f g : SemE) : SemG := fun x σ h => match toD x h with
  | none => none
  | some (d, h0) => match f σ h0 with
    | .ok (.r k) h1 => (match g σ h1 with
      | .ok (.d (.int i)) h2 => (match h2[k]? with
        | some (.lst xs) => (match ixN xs.length i with
          | some j => some (σ, h2.set k (.lst (xs.set j d)))
          | none => none)
        | _ => none)
      | _ => none)
    | _ => none
theorem sg_store {i : Expr} (ho : SE X ct W0 o f) (hi : SE X ct W0 i g)
    (ha : ∀ v, assign (.Subscript o i pos) X.env v = (do
      let ov ← holding [v] (eval o X.env)
      let iv ← holding [v, ov] (eval i X.env)
      standAt pos
      holding [v, ov, iv] (setItem ov iv v)
      release [v, ov, iv] []) := by intro _; rfl) : SG X ct (.Subscript o i pos) (gSt f g) :=
  PG.imp (pg_sub ho hi set_list ha) fun v σV H Q ⟨m, ah, σ, x, hr, lr, r, p⟩ => by
    unfold gSt at p
    cases q : toD x ah with
    | none => rw [q] at p; exact p.elim
    | some z =>
      obtain ⟨d, h0⟩ := z
      rw [q] at p
      dsimp only at p
      obtain ⟨hr0, e0, r0⟩ := toD_sound hr q r
      refine ⟨m, h0, σ, hr0, lr.ext e0, ?_⟩
      cases q1 : f σ h0 with
      | bad => rw [q1] at p; exact p.elim
      | exc ex h1 => rw [q1] at p; exact p.elim
      | ok y h1 =>
        rw [q1] at p
        cases y with
        | d y => exact p.elim
        | r k =>
          dsimp only at p
          refine fun m1 H1 ov hr1 e1 r1 => ⟨m1, h1, σ, hr1, (lr.ext e0).ext e1, ?_⟩
          cases q2 : g σ h1 with
          | bad => rw [q2] at p; exact p.elim
          | exc ex h2 => rw [q2] at p; exact p.elim
          | ok y h2 =>
            rw [q2] at p
            split at p
            · rename_i y2 i h2' heq
              cases heq
              refine fun m2 H2 iv hr2 e2 r2 => ?_
              cases r2
              split at p
              · rename_i xs hk
                split at p
                · rename_i j hj
                  obtain ⟨a, hm, rfl⟩ := VlR.ext e2 r1
                  obtain ⟨u, g3, g4⟩ := hr2.ob k a _ hm hk
                  cases g4 with
                  | lst t =>
                    obtain ⟨hr4, e4⟩ := hr2.write hm hk (by simp) (OR.lst (t.set (r0.mono (e1.trans e2).kp) j))
                    refine ⟨a, _, _, j, rfl, rfl, g3, by rw [← t.length]; exact hj, ?_⟩
                    exact p m2 _ _ hr4 (((e0.trans e1).trans e2).trans e4) ((((lr.ext e0).ext e1).ext e2).ext e4)
                · exact p.elim
              · exact p.elim
            · exact p.elim

/-! ### tuple(range(n)) -/
def smR (n : Int) : Bool := decide (0 ≤ n) && Nat.ble n.natAbs 16777216
theorem smR_ok {n : Int} (h : smR n = true) : 0 ≤ n ∧ n ≤ 16777216 := by
  unfold smR at h
  simp only [Bool.and_eq_true, decide_eq_true_eq] at h
  have := Nat.le_of_ble_eq_true h.2
  omega
def eTR (f : SemE) : SemE := fun σ h => rb (f σ h) fun x h1 => match x with
  | .d (.int n) => if smR n = true then .ok (.d (.tup (rngD 0 n.toNat))) h1 else .bad
  | _ => .bad
theorem rngD_drs {K : PySem.W.Frag} {S : Addr → Prop} {H : Hp} {n : Int} (h : 0 ≤ n) : DRs K ct S H (rngD 0 n.toNat) (rgV 0 n) := by
  unfold rngD rgV
  rw [show n - 0 = n by omega]
  generalize List.range n.toNat = l
  induction l with
  | nil => exact .nil
  | cons a l ih => exact .cons (.int _) ih
theorem se_tupR {p2 pos2 : Pos} (hc : X.calm = true) (hg : Gl X "tuple") (hm : X.mg "tuple" = none) (hg2 : Gl X "range") (hm2 : X.mg "range" = none) (he : SE X ct W e f)
    (na : starEach [Expr.Call (.Name "range" p2) [e] [] pos2] X.env = (false, eval (.Call (.Name "range" p2) [e] [] pos2) X.env) :: starEach [] X.env := by rfl) (na2 : starEach [e] X.env = (false, eval e X.env) :: starEach [] X.env := by rfl) :
    SE X ct W (.Call (.Name "tuple" p) [.Call (.Name "range" p2) [e] [] pos2] [] pos) (eTR f) :=
  PE.imp (pe_tupRg hc hg hm (prg_1 hg2 hm2 he na2) na) fun σV H Q ⟨m, ah, σ, hr, lr, p⟩ => ⟨m, ah, σ, hr, lr, (Po.bind (R := VlR X.K ct) p).imp fun v H1 ⟨m1, h1, x, hr1, e1, r1, p1⟩ => by
    dsimp only at p1
    split at p1
    · rename_i n
      cases r1
      split at p1
      · rename_i hn
        replace hn := smR_ok hn
        refine ⟨_, rfl, RgOk.of_le (by omega) hn.2 (by omega) hn.1, fun a ha => ?_⟩
        exact p1 m1 _ _ (hr1.pure (o := .tup (rgV 0 n)) ha).1 (hr1.pure (o := .tup (rgV 0 n)) ha).2.1 (new_tup (rngD_drs hn.1) (hr1.pure (o := .tup (rgV 0 n)) ha).2.1.kp (hr1.freshS ha))
      · exact p1.elim
    · exact p1.elim⟩

/-! ### x in a list or tuple of flat data -/
def flD : D → Bool
  | .non => true
  | .bl _ => true
  | .int _ => true
  | .str _ => true
  | _ => false
def eqF : D → D → Bool
  | .non, .non => true
  | .bl a, .bl b => a == b
  | .bl a, .int b => (if a then 1 else 0) == b
  | .int a, .bl b => a == (if b then 1 else 0)
  | .int a, .int b => a == b
  | .str a, .str b => a == b
  | _, _ => false
theorem fl_of {K : PySem.W.Frag} {S : Addr → Prop} {H : Hp} {d : D} {v : V} (h : flD d = true) (r : DR K ct S H d v) : flatV v = true := by
  cases r <;> first | rfl | cases h
theorem eqF_of {K : PySem.W.Frag} {S : Addr → Prop} {H : Hp} {d d' : D} {v v' : V} (h : flD d = true) (h' : flD d' = true) (r : DR K ct S H d v) (r' : DR K ct S H d' v') : eqV v v' = eqF d d' := by
  cases r <;> first | (cases h; done) | (cases r' <;> first | rfl | (cases h'; done))
def inF (x y : Vl) (h : Hs) : Option Bool := match x, seqOf y h with
  | .d d, some ds => if flD d = true ∧ ds.all flD = true then some (ds.any fun z => eqF z d) else none
  | _, _ => none
def oInF (neg : Bool) : Op2 := fun x y h => (inF x y h).map fun c => (.d (.bl (if neg then !c else c)), h)
theorem inV_of {K : PySem.W.Frag} {S : Addr → Prop} {H : Hp} {d : D} {v : V} (h : flD d = true) (r : DR K ct S H d v) : ∀ {ds : List D} {vs : List V}, ds.all flD = true → DRs K ct S H ds vs → vs.all flatV = true ∧ inV v vs = ds.any fun z => eqF z d
  | _, _, _, .nil => ⟨rfl, rfl⟩
  | _, _, hs, .cons r1 t => by
    rw [List.all_cons, Bool.and_eq_true] at hs
    obtain ⟨i1, i2⟩ := inV_of h r hs.2 t
    unfold inV at i2 ⊢
    rw [List.all_cons, List.any_cons, List.any_cons, i1, i2, fl_of hs.1 r1, eqF_of hs.1 h r1 r]
    exact ⟨rfl, rfl⟩
theorem inF_sound {op : CmpOp} {neg : Bool} (ho : OpR X (compareOp op) (rIn X.K neg)) : OpR X (compareOp op) (rOp X.K ct (oInF neg)) := by
  refine OpR.imp ho fun x y H Q ⟨m, ah, a, b, hr, ra, rb, p⟩ => ?_
  unfold oInF at p
  cases e : inF a b ah with
  | none => rw [e] at p; exact p.elim
  | some c =>
  rw [e] at p
  unfold inF at e
  split at e
  · rename_i d ds hs
    by_cases hc : flD d = true ∧ ds.all flD = true
    · rw [if_pos hc] at e
      cases e
      obtain ⟨l, vs, rfl, h1, r1⟩ := seq_of hr hs rb
      obtain ⟨i1, i2⟩ := inV_of hc.1 ra hc.2 r1
      refine ⟨l, vs, rfl, h1, fl_of hc.1 ra, i1, ?_⟩
      rw [i2]
      cases neg <;> exact p.same hr (.bl _)
    · rw [if_neg hc] at e; cases e
  · cases e
theorem inT_sound : OpR X (compareOp .In) (rOp X.K ct (oInF false)) := inF_sound op_in_seq
theorem notInT_sound : OpR X (compareOp .NotIn) (rOp X.K ct (oInF true)) := inF_sound op_notIn_seq
end

/-! ### isinstance -/
inductive Ty where
  | b (n : String) | c (C : Nat)
deriving DecidableEq
def tyD (x : Vl) (h : Hs) : Option Ty := match insOf x h with
  | some (C, _) => some (.c C)
  | none => (tyO x h).map .b
def tyW (ct : CT) : Ty → Value
  | .b n => .type n
  | .c C => .ref (ct.ca C)
/-- what isinstance asks of an own class -/
structure IsiC (K : PySem.W.Frag) (C : Addr) : Prop where
  cl : Cls K C
  ha : PySem.W.findIn K (.ref C) "__class__" = some (some (.builtin "object.__class__"))
  hn : PySem.W.specialIn K (.builtin "object.__class__") "__get__" = some (some (.builtin "getset_descriptor.__get__"))
  htk : PySem.W.takesIn K (.builtin "object.__class__") = some true
  hm : PySem.W.mroIn K C (.type "object") = some true
def lookT (t : Ty) : List (Ty × Bool) → Option Bool
  | [] => none
  | (s, b) :: r => if s = t then some b else lookT t r
/-- the answers of isinstance for the types that may come -/
def IsiOk (K : PySem.W.Frag) (ct : CT) (u : Value) (l : List (Ty × Bool)) : Prop := ∀ t b, lookT t l = some b → PySem.W.kitOne K (tyW ct t) u = some b ∧ ∀ C, t = .c C → IsiC K (ct.ca C)
theorem IsiOk.nil {K : PySem.W.Frag} {ct : CT} {u : Value} : IsiOk K ct u [] := fun t b h => nomatch h
theorem IsiOk.cons {K : PySem.W.Frag} {ct : CT} {u : Value} {s : Ty} {b : Bool} {l : List (Ty × Bool)} (h1 : PySem.W.kitOne K (tyW ct s) u = some b) (h2 : ∀ C, s = .c C → IsiC K (ct.ca C)) (h : IsiOk K ct u l) : IsiOk K ct u ((s, b) :: l) := fun t b' e => by
  unfold lookT at e
  split at e
  · rename_i q
    subst q
    cases e
    exact ⟨h1, h2⟩
  · exact h t b' e
theorem IsiOk.consB {K : PySem.W.Frag} {ct : CT} {u : Value} {s : String} {b : Bool} {l : List (Ty × Bool)} (h1 : PySem.W.kitOne K (.type s) u = some b) (h : IsiOk K ct u l) : IsiOk K ct u ((.b s, b) :: l) := .cons h1 (fun _ e => nomatch e) h
theorem IsiOk.consC {K : PySem.W.Frag} {ct : CT} {u : Value} {s : Nat} {b : Bool} {l : List (Ty × Bool)} (h1 : PySem.W.kitOne K (.ref (ct.ca s)) u = some b) (h2 : IsiC K (ct.ca s)) (h : IsiOk K ct u l) : IsiOk K ct u ((.c s, b) :: l) := .cons h1 (fun _ e => by cases e; exact h2) h
theorem isi_any {K : PySem.W.Frag} {ct : CT} {b : String} (h : kitB b b = some true) : ∀ l : List (String × Bool), (l.all fun p => decide (kitB p.1 b = some p.2)) = true → IsiOk K ct (.type b) (l.map fun p => (Ty.b p.1, p.2))
  | [], _ => .nil
  | p :: l, e => by
    simp only [List.all_cons, Bool.and_eq_true, decide_eq_true_eq] at e
    exact .consB (kit_ty e.1) (isi_any h l (by simpa using e.2))
def eIsi (l : List (Ty × Bool)) (f : SemE) : SemE := fun σ h => rb (f σ h) fun x h1 => match tyD x h1 with
  | some t => (match lookT t l with
    | some b => .ok (.d (.bl b)) h1
    | none => .bad)
  | none => .bad
theorem tyD_sound {K : PySem.W.Frag} {ct : CT} {m : List Addr} {ah : Hs} {H : Hp} (hr : HR K ct m ah H) {x : Vl} {v : V} {t : Ty} (r : VlR K ct m ah H x v) (e : tyD x ah = some t) (hc : ∀ C, t = .c C → IsiC K (ct.ca C)) : TyX K H v (tyW ct t) := by
  unfold tyD at e
  split at e
  · rename_i C fs q
    cases e
    obtain ⟨a, dx, vs, rfl, h1, _⟩ := ins_of hr q r
    have z := hc C rfl
    exact .base (.ins h1 z.cl z.ha z.hn z.htk z.hm)
  · cases q : tyO x ah with
    | none => rw [q] at e; cases e
    | some n => rw [q] at e; cases e; exact tyO_sound hr r q
section
variable {X : Cx} {ct : CT} {W : WX} {pos p p2 : Pos} {e : Expr} {f : SemE} {x : Str} {l : List (Ty × Bool)}
theorem pe_isi {c : V} {u : Value} (hk : ClsV c u) (h2 : PE X (.Name x p2) (tC c)) (ho : IsiOk X.K ct u l) (hg : Gl X "isinstance") (hm : X.mg "isinstance" = none) (he : SE X ct W e f)
    (h1 : starEach [e, .Name x p2] X.env = (false, eval e X.env) :: starEach [.Name x p2] X.env := by rfl) : SE X ct W (.Call (.Name "isinstance" p) [e, .Name x p2] [] pos) (eIsi l f) :=
  PE.imp (pe_callB call_isi hg hm PyProof.Rows.boot_isinstance (pa_cons he (pa_cons h2 pa_nil (by rfl)) h1) (by decide) (by decide) h1 (by rfl)) fun σV H Q ⟨m, ah, σ, hr, lr, p⟩ => ⟨m, ah, σ, hr, lr, (Po.bind (R := VlR X.K ct) p).imp fun v H1 ⟨m1, h1, x, hr1, e1, r1, p1⟩ => by
    dsimp only at p1
    cases q : tyD x h1 with
    | none => rw [q] at p1; exact p1.elim
    | some t =>
      rw [q] at p1
      dsimp only at p1
      cases q2 : lookT t l with
      | none => rw [q2] at p1; exact p1.elim
      | some b =>
        rw [q2] at p1
        obtain ⟨k1, k2⟩ := ho t b q2
        exact ⟨v, c, _, u, b, rfl, hk, tyD_sound hr1 r1 q k2, k1, p1 m1 H1 _ hr1 (Ext.refl _ _ _) (.bl b)⟩⟩
/-- isinstance(e, T), T built in -/
theorem se_isiB {T : String} (hg2 : Gl X x) (hm2 : X.mg x = none) (hv : bootBuiltins x = some (.type T)) (ho : IsiOk X.K ct (.type T) l) (hg : Gl X "isinstance") (hm : X.mg "isinstance" = none) (he : SE X ct W e f) (hn : x ≠ "__name__" := by decide) (hd : (x == ("__debug__" : Str)) = false := by decide)
    (h1 : starEach [e, .Name x p2] X.env = (false, eval e X.env) :: starEach [.Name x p2] X.env := by rfl) : SE X ct W (.Call (.Name "isinstance" p) [e, .Name x p2] [] pos) (eIsi l f) :=
  pe_isi (.ty T) (pe_bltn hg2 hm2 hv (v := .ty T) rfl hn hd) ho hg hm he h1
/-- isinstance(e, C), C own -/
theorem se_isiC {C : Addr} (hg2 : Gl X x) (hm2 : X.mg x = some (.ref C)) (ho : IsiOk X.K ct (.ref C) l) (hg : Gl X "isinstance") (hm : X.mg "isinstance" = none) (he : SE X ct W e f) (hd : (x == ("__debug__" : Str)) = false := by decide)
    (h1 : starEach [e, .Name x p2] X.env = (false, eval e X.env) :: starEach [.Name x p2] X.env := by rfl) : SE X ct W (.Call (.Name "isinstance" p) [e, .Name x p2] [] pos) (eIsi l f) :=
  pe_isi (.own C) (pe_glob hg2 hm2 (v := .ref C) rfl hd) ho hg hm he h1

/-! ### == of two instances of an own class -/
def oOwn (call : CallT) (i C : Nat) : Op2 := fun x y h => match insOf x h, insOf y h with
  | some (C1, _), some (C2, _) => if C1 = C ∧ C2 = C then (match call i [x, y] h with
    | .ok (.d (.bl b)) h' => some (.d (.bl b), h')
    | _ => none) else none
  | _, _ => none
theorem own_sound {call : CallT} {i C n : Nat} {fns : List Fn} {F : Fn} (co : CallOk X.prog X.w X.K X.mg X.base ct fns call n) (hr : Room (2 * n + 1) X.A) (hF : fns[i]? = some F)
    (hs : PySem.W.findIn X.K (.ref (ct.ca C)) "__eq__" = some (some (.ref F.f))) (hf : PySem.W.isFn X.K (.ref F.f) = true) (hb : Binds X.K F.fd F.ps []) : OpR X (compareOp .Eq) (rOp X.K ct (oOwn call i C)) := by
  intro pins s σ H x y v u Q I rx ry ⟨m, ah, a, b, h1, ra, rb, p⟩
  unfold oOwn at p
  split at p
  · rename_i C1 f1 C2 f2 q1 q2
    split at p
    · rename_i hc
      obtain ⟨rfl, rfl⟩ := hc
      obtain ⟨l1, d1, v1, rfl, g1, _⟩ := ins_of h1 q1 ra
      obtain ⟨l2, d2, v2, rfl, g2, _⟩ := ins_of h1 q2 rb
      cases rx
      cases ry
      obtain ⟨mA, J, _⟩ := ins_get I.hok g1
      obtain ⟨mB, J', _⟩ := ins_get I.hok g2
      obtain ⟨od, J, _⟩ := J.look
      obtain ⟨od', J', _⟩ := J'.look
      obtain ⟨mm, hFr⟩ := I.fr
      refine PySem.W.cmp_K (op := .Eq) (tb := .ref (ct.ca C2)) hr.units0 hFr I.ok.mod.kin J J'.type (by simp [PySem.W.notFirst]) hs hf ?_
      cases q : call i [a, b] ah with
      | bad => rw [q] at p; exact p.elim
      | exc ex h2 => rw [q] at p; exact p.elim
      | ok z h2 =>
        rw [q] at p
        split at p
        · rename_i z' bb h3 heq
          cases heq
          refine wpAny_mono (run_cl (W := W0) (Q := fun v H' => v = .bl bb ∧ Q (.bl bb) H') (us := [.ref l1, .ref l2]) (vs := [.ref l1, .ref l2]) (dvs := []) co hF hr hb .nil (fun _ _ ⟨_, _, _, _, _, _, _, _, _, _, _, _, _, _, _, _, w⟩ => w.elim) I (.cons rfl (.cons rfl .nil))
            ⟨m, ah, [a, b], h1, .cons ra (.cons rb .nil), ?_⟩) (fun w s' ⟨x, H', I', rw', e1, q'⟩ => ?_) fun _ _ z => z
          · rw [q]
            refine fun m2 H2 v2 hr2 e2 r2 => ?_
            cases r2
            exact ⟨rfl, p m2 H2 _ hr2 e2 (.bl bb)⟩
          · subst e1
            cases rw'
            exact ⟨.bl bb, H', I', rfl, q'⟩
        · exact p.elim
    · exact p.elim
  · exact p.elim
end
end Mi

/-! Mi9: enumerate over a tuple -/
namespace Mi
open PySem PySem.Spec L2

/-- the tuple at a, each item in a new pair -/
def IteT (K : PySem.W.Frag) (a : Addr) : It :=
  { go := fun i H => ∃ (xs : List V) (x : V), SqT K H a xs ∧ xs[i]? = some x
    yld := fun i H v H' => ∃ T x, v = .ref T ∧ H T = none ∧ H' = upd H T (.tup [.int (i : Nat), x]) ∧ ∀ xs, SqT K H a xs → xs[i]? = some x
    stop := fun i H => ∃ xs : List V, SqT K H a xs ∧ xs.length ≤ i }
theorem SqT.uniq {X : Cx} {pins : List (Addr × Obj)} {σ : L2.St} {H : Hp} {s : Shared} {a : Addr} {xs ys : List V} (I : Inv X pins σ H s) (h : SqT X.K H a xs) (g : SqT X.K H a ys) : xs = ys := I.tuple_inj h g
theorem turn_enumT {P : Program} {w : World} {K : PySem.W.Frag} {elts : List Expr} {kk : Nat} {tpos : Pos} (a e it : Addr) :
    Turn P w K (.Tuple elts kk tpos) (IteT K a) [e, it] e (fun i h => (∃ old, IsEnum h e it ((i : Nat) : Int) old) ∧ h.IsTupleIter it a i ∧ e ≠ it) where
  mem := List.mem_cons_self
  obj := fun i h st b hb => by
    obtain ⟨⟨old, he⟩, ⟨o, ho, hc, hd⟩, _⟩ := st
    rcases List.mem_cons.mp hb with rfl | hb
    · exact ⟨_, he, fun v q => nomatch q⟩
    · obtain rfl := List.mem_singleton.mp hb
      exact ⟨o, ho, fun v q => by rw [hd] at q; cases q⟩
  keep := fun i h h' ⟨⟨old, he⟩, hi, hne⟩ k => ⟨⟨old, k e List.mem_cons_self _ he⟩, hi.at fun o q => k it (List.mem_cons_of_mem _ (List.mem_singleton.mpr rfl)) o q, hne⟩
  item := by
    rintro X rfl rfl rfl hc i pins s σ H E I hf ⟨⟨old, he⟩, hit, hne⟩ ⟨xs, x, hq, hx⟩
    obtain ⟨its, rv, p, hz⟩ := I.tuple hq
    obtain ⟨u, hu, ru⟩ := rv.get hx
    have hel : e < s.heap.objs.size := Heap.lt_size he
    have hil : it < s.heap.objs.size := by obtain ⟨_, q, _⟩ := hit; exact Heap.lt_size q
    have nae : a ≠ e := fun z => by
      obtain ⟨o, ho, hcl, _⟩ := p
      rw [z] at ho
      have := (Option.some.inj (ho.symm.trans he))
      subst this
      exact absurd (Value.type.inj hcl) (by decide)
    have nai : a ≠ it := fun z => by
      obtain ⟨o, ho, hcl, _⟩ := p
      obtain ⟨o2, ho2, hcl2, _⟩ := hit
      rw [z] at ho
      have := (Option.some.inj (ho.symm.trans ho2))
      subst this
      exact absurd (Value.type.inj (hcl.symm.trans hcl2)) (by decide)
    have hh : X.A.in1.handled = none := I.ok.hd hc
    refine wpAny_pyNext_enum_itemD (Draws.tuple hh it a nai its.toArray) he ⟨hit, p⟩ (by have := (List.getElem?_eq_some_iff.mp hu).1; simpa using this) hne
      (fun z => by rcases List.mem_cons.mp z with q | q; exact hne q; exact nae (List.mem_singleton.mp q).symm) fun y h' tk hy ho hs' hT hsz hk => ?_
    obtain ⟨hit', hpt⟩ := hs'
    have ey : y = u := by
      have e2 : its.toArray[i]? = some u := by simpa using hu
      rw [e2] at hy
      exact (Option.some.inj hy).symm
    subst ey
    refine ⟨_, rfl, wpAny_letOwnedTupleGo_enum (s := { s with heap := h', toks := tk + 1 }) ho fun h'' he' sb => ?_⟩
    have hT2 : h''.get? s.heap.objs.size = some { cls := .type "tuple", data := .seq #[.int i tk, y] } := (sb.2 _ (Nat.ne_of_gt hel)).trans hT
    have new : ObjOk X.prog X.w (upd H s.heap.objs.size (.tup [.int (i : Nat), x])) h'' s.heap.objs.size (.tup [.int (i : Nat), x]) :=
      ⟨by show 2 ≤ sizeLine; decide, [.int i tk, y], .cons ⟨_, rfl⟩ (.cons ru .nil), ⟨_, hT2, rfl, _, rfl⟩⟩
    have mem : ∀ b, b ∉ [e, it] → b ≠ e ∧ b ≠ it := fun b hb => ⟨fun z => hb (z ▸ List.mem_cons_self), fun z => hb (z ▸ List.mem_cons_of_mem _ (List.mem_singleton.mpr rfl))⟩
    have I1 : Inv X pins σ (upd H s.heap.objs.size (.tup [.int (i : Nat), x])) { s with heap := h'', toks := tk + 1 } :=
      I.turnedNew (ch := [e, it]) (fun b ob hb q => (sb.2 b (mem b hb).1).trans (hk b ob (mem b hb).1 (mem b hb).2 q)) hf (Nat.le_refl _) new
    refine ⟨.ref s.heap.objs.size, _, I1, rfl, ⟨_, x, rfl, I.hok.fresh (Nat.le_refl _), rfl, fun ys hy => by rw [SqT.uniq I hy hq]; exact hx⟩, ⟨⟨y, ?_⟩, hit'.at fun o q => (sb.2 it (Ne.symm hne)).trans q, hne⟩, fun b hb => ?_⟩
    · rw [show ((i + 1 : Nat) : Int) = (i : Int) + 1 by omega]; exact he'
    · have hb' : b < s.heap.objs.size := by
        rcases List.mem_cons.mp hb with rfl | hb
        · exact hel
        · obtain rfl := List.mem_singleton.mp hb; exact hil
      rw [upd_ne (Nat.ne_of_lt hb')]
      exact (hf b hb).1
  done := by
    rintro X rfl rfl rfl hc i pins s σ H E I hf ⟨⟨old, he⟩, hit, hne⟩ ⟨xs, hq, hx⟩
    obtain ⟨its, rv, p, hz⟩ := I.tuple hq
    obtain ⟨f0, f1, f2, f3, f4, f5⟩ := hf it (List.mem_cons_of_mem _ (List.mem_singleton.mpr rfl))
    have hl := rv.length
    have nai : a ≠ it := fun z => by
      obtain ⟨o, ho, hcl, _⟩ := p
      obtain ⟨o2, ho2, hcl2, _⟩ := hit
      rw [z] at ho
      have := (Option.some.inj (ho.symm.trans ho2))
      subst this
      exact absurd (Value.type.inj (hcl.symm.trans hcl2)) (by decide)
    have hh : X.A.in1.in1.handled = none := I.ok.hd hc
    unfold pyNext
    refine wpAny_bind (wpAny_attempt (wpAny_callSpecial?_slot (name := Str.ofString "__next__") ⟨_, he, rfl⟩ F.slot_enumerate_next
      (wpAny_call_entry F.slot_enumerate_next ⟨_, he, rfl⟩ F.entry_enumerate_next ?_ (F.args_enumerate_next_1 _))))
    show wpAny _ _ (field (.ref e) 2 >>= _) _ _ _
    refine wpAny_bind (wpAny_field he rfl (x := .ref it) rfl ?_)
    refine wpAny_bind (wpAny_nextOf_tuple_end (A := X.A.in1) hh hit p (by simp; omega) fun h' x he' hx' => ?_)
    obtain ⟨o, ho, hc'⟩ := hx'
    refine wpAny_bind (wpAny_isInstance (T := "StopIteration") (b := true) ⟨o, ho, hc'⟩ isSubtype_stop ?_)
    exact wpAny_pure ⟨rfl, I.turned (t' := s.toks) (fun b o hb q => he' b o hb q) f0 f1 f3 f4 f5⟩
  self := fun A i s Q E ⟨⟨_, he⟩, _⟩ h => wpAny_pyIter_enum he h

abbrev tupIt (t : Addr) : Obj := { cls := .type "tuple_iterator", data := .fields #[.ref t, .int 0 0] }
abbrev enRec (it : Addr) : Obj := { cls := .type "enumerate", data := .fields #[.none, .bool false, .ref it, rawInt 0, .none, .none] }
set_option maxHeartbeats 1000000 in
theorem enum_newT (t : Addr) (items : Array Value) :
    Meets (Builtin.«enumerate.__new__» ⟨[.type "enumerate", .ref t], []⟩) (fun _ R s => s.heap.IsTuple t items ∧
      R (.ok (.ret (.ref (s.heap.push (tupIt t)).objs.size))) { s with heap := (s.heap.push (tupIt t)).push (enRec s.heap.objs.size) }) :=
  .of_wp fun prog w A R s h => by
    obtain ⟨hp, g, d, tk, os⟩ := s; obtain ⟨h1, h⟩ := h
    have hsub := sub_enumerate
    have q1 : ∀ {A' : Around} {E : Value → Shared → Prop} {Q : Value → Shared → Prop}, Q (.ref hp.objs.size) ⟨hp.push (tupIt t), g, d, tk, os⟩ → wpAny (model prog w) A' (pyIter (.ref t)) Q E ⟨hp, g, d, tk, os⟩ :=
      fun q => wpAny_pyIter_tuple h1 q
    wp_walk using q1
    refine wpAny_stack_any fun st => wpAny_pure ?_
    split
    · rename_i c _ _ _ _ _
      cases (c == Value.type "enumerate") <;> (wp_walk using q1; exact ⟨_, rfl, h⟩)
    · wp_walk using q1
      exact ⟨_, rfl, h⟩
theorem call_enumT {prog : Program} {w : World} {A : Around} {E : Value → Shared → Prop} {s : Shared} {t : Addr} {items : Array Value} {Q : Value → Shared → Prop} (hL : s.heap.IsTuple t items)
    (h : ∀ h', IsEnum h' (s.heap.objs.size + 1) s.heap.objs.size 0 .none → h'.IsTupleIter s.heap.objs.size t 0 →
      (∀ b o, s.heap.get? b = some o → h'.get? b = some o) → Q (.ref (s.heap.objs.size + 1)) { s with heap := h' }) :
    wpAny (model prog w) A (call (.type "enumerate") [.ref t]) Q E s := by
  refine callType_new F.called_enumerate (by decide) (F.typeCall_enumerate_1 _) (F.newCall_enumerate_1 _) (fun obj => F.args_object_init_2 obj _) F.entry_enumerate_new (enum_newT t items) ⟨hL, ?_⟩
  have hz : (s.heap.push (tupIt t)).objs.size = s.heap.objs.size + 1 := Heap.size_push ..
  have he : ((s.heap.push (tupIt t)).push (enRec s.heap.objs.size)).get? (s.heap.objs.size + 1) = some (enRec s.heap.objs.size) := by
    rw [← hz]; exact Heap.get?_push_size _ rfl
  show _ ∧ _
  rw [hz]
  exact ⟨⟨_, he, rfl⟩, h _ he ⟨_, Heap.get?_push_of_some _ (Heap.get?_push_size _ rfl), rfl, rfl⟩ fun b o x => Heap.get?_push_of_some _ (Heap.get?_push_of_some _ x)⟩

def iEnumT (K : PySem.W.Frag) (ta : TA) : TI := fun σ H R => ta σ H fun vs H1 => ∃ a xs, vs = [.ref a] ∧ SqT K H1 a xs ∧ R (IteT K a) H1
section
variable {X : Cx} {ct : CT} {W : WX} {e : Expr} {ta : TA} {p pos tpos : Pos} {elts : List Expr} {kk : Nat} {fs : SemA}
theorem pi_enumT (hg : Gl X "enumerate") (hm : X.mg "enumerate" = none) (ha : PA X [e] ta) (hs : starEach [e] X.env = [(false, eval e X.env)] := by rfl) :
    PI X (.Tuple elts kk tpos) (.Call (.Name "enumerate" p) [e] [] pos) (iEnumT X.K ta) := by
  refine ⟨fun pins s σ H R I h => ?_⟩
  refine PyProof.Rows.Call_ (ld_blt I hg hm PyProof.Rows.boot_enumerate (PyProof.Rows.callWith_type1 (thn (ha.run pos pins s σ H _ I h) fun us s1 ⟨vs, H1, I1, r1, a, xs, ex, hq, q⟩ => ?_) hs rfl))
  subst ex
  obtain ⟨u, rfl, r⟩ := r1.one
  cases r
  obtain ⟨its, rv, p', hz⟩ := I1.tuple hq
  refine call_enumT p' fun h' he hit hk => wpAny_pyIter_enum he ?_
  refine ⟨s1.heap.objs.size + 1, [s1.heap.objs.size + 1, s1.heap.objs.size], _, _, H1, rfl, I1.kept (t' := s1.toks) hk, turn_enumT a (s1.heap.objs.size + 1) s1.heap.objs.size, ⟨⟨.none, he⟩, hit, Nat.succ_ne_self _⟩, fun b hb => ?_, q⟩
  have hle : s1.heap.objs.size ≤ b := by
    rcases List.mem_cons.mp hb with rfl | hb
    · exact Nat.le_add_right _ _
    · obtain rfl := List.mem_singleton.mp hb; exact Nat.le_refl _
  exact I1.fpOk hle (I1.hok.fresh hle)
theorem wks_enumT {K : PySem.W.Frag} {m : List Addr} {ah : Hs} {H : Hp} {a : Addr} {ds : List D} {vs : List V} (h : H a = some (.tup vs) ∧ Sf m ah a) (r : DRs K ct (Sf m ah) H ds vs) : Wks K ct (enumD ds) m ah H (IteT K a) := fun m2 h2 H2 hr ex => by
  have h' : SqT K H2 a vs := sqT_of (sqT_ext ex h)
  have r' := r.mono ex
  refine ⟨fun i hi => ⟨vs, h', by rw [← r.length]; rw [enumD_len] at hi; exact hi⟩, fun i d hd => ?_⟩
  rw [enumD_get] at hd
  cases q : ds[i]? with
  | none => rw [q] at hd; cases hd
  | some d0 =>
    rw [q] at hd; cases hd
    obtain ⟨y, hy, ry⟩ := r'.get q
    refine ⟨⟨vs, y, h', hy⟩, fun x H3 hx => ?_⟩
    obtain ⟨T, x1, rfl, hT, rfl, hx⟩ := hx
    have e := hx vs h'
    rw [hy] at e
    cases e
    exact pair_new hr hT (.int _) ry
def iEnT (f : SemA) : SemI := fun σ h => rb (f σ h) fun xs h1 => match xs with
  | [.d (.tup ds)] => .ok (enumD ds) h1
  | _ => .bad
theorem si_enumT (hg : Gl X "enumerate") (hm : X.mg "enumerate" = none) (ha : SA X ct W [e] fs) (hs : starEach [e] X.env = [(false, eval e X.env)] := by rfl) : SI X ct W (.Tuple elts kk tpos) (.Call (.Name "enumerate" p) [e] [] pos) (iEnT fs) :=
  PI.imp (pi_enumT hg hm ha hs) fun σV H R ⟨m, ah, σ, hr, lr, p⟩ => ⟨m, ah, σ, hr, lr, (Po.bind (R := VlRs X.K ct) p).imp fun vs H1 ⟨m1, h1, xs, hr1, e1, r1, p1⟩ => by
    dsimp only at p1
    split at p1
    · cases r1 with
      | cons r t =>
        cases t
        cases r with
        | tup h r => exact ⟨_, _, rfl, sqT_of h, p1 m1 H1 _ hr1 (Ext.refl _ _ _) (wks_enumT h r)⟩
    · exact p1.elim⟩
end
end Mi

/-! Mi10: what the printed parts lean on: names, facts, the head's own hook, the law's end -/
namespace Mi
open PySem PySem.Spec L2

/-! ### a list or a tuple is walked -/
def iSeq (f : SemE) : SemI := iOf pureSeq f
theorem si_seq {X : Cx} {ct : CT} {W : WX} {tg e : Expr} {f : SemE} (he : SE X ct W e f) : SI X ct W tg e (iSeq f) :=
  ⟨fun pins s σV H R I ⟨m, ah, σ, hr, lr, p⟩ => by
    unfold iSeq iOf at p
    cases q : f σ ah with
    | bad => rw [q] at p; exact p.elim
    | exc e h => rw [q] at p; exact (si_list he).run pins s σV H R I ⟨m, ah, σ, hr, lr, by unfold iLs iOf; rw [q]; exact p⟩
    | ok x h =>
      rw [q] at p
      cases q2 : pureLst x with
      | some ds =>
        refine (si_list he).run pins s σV H R I ⟨m, ah, σ, hr, lr, ?_⟩
        unfold iLs iOf
        rw [q]
        have e3 : pureSeq x = some ds := by
          cases x with
          | r k => cases q2
          | d d => cases d <;> first | exact q2 | cases q2
        simp only [rb_ok, e3] at p
        simp only [rb_ok, q2]
        exact p
      | none =>
        cases q3 : pureTup x with
        | some ds =>
          refine (si_tup he).run pins s σV H R I ⟨m, ah, σ, hr, lr, ?_⟩
          unfold iTu iOf
          rw [q]
          have e3 : pureSeq x = some ds := by
            cases x with
            | r k => cases q3
            | d d => cases d <;> first | exact q3 | cases q3
          simp only [rb_ok, e3] at p
          simp only [rb_ok, q3]
          exact p
        | none =>
          have e3 : pureSeq x = none := by
            cases x with
            | r k => rfl
            | d d => cases d <;> first | rfl | (cases q2; done) | (cases q3; done)
          simp only [rb_ok, e3] at p
          exact p.elim⟩

/-! ### names of attributes -/
def nmL (l : List Str) (n : Nat) : Str := match l[n]? with
  | some x => x
  | none => ⟨Array.replicate (n + 1) 0⟩
def okL (l : List Str) : Bool := decide l.Nodup && l.all fun x => x.cps[0]? != some 0
theorem nmL_new {l : List Str} {x : Str} (h1 : x ∉ l) (h2 : x.cps[0]? ≠ some 0) (n : Nat) : nmL l n ≠ x := fun e => by
  unfold nmL at e
  split at e
  · rename_i y hy
    subst e
    exact h1 (List.mem_of_getElem? hy)
  · subst e
    exact h2 (by simp)
theorem nmL_inj {l : List Str} (h : okL l = true) (a b : Nat) (e : nmL l a = nmL l b) : a = b := by
  unfold okL at h
  simp only [Bool.and_eq_true, decide_eq_true_eq, List.all_eq_true, bne_iff_ne, ne_eq] at h
  obtain ⟨nd, nz⟩ := h
  unfold nmL at e
  cases ha : l[a]? with
  | some x =>
    rw [ha] at e
    cases hb : l[b]? with
    | some y =>
      rw [hb] at e
      dsimp only at e
      subst e
      have la := (List.getElem?_eq_some_iff.mp ha).1
      exact (List.getElem?_inj la nd).mp (ha.trans hb.symm)
    | none =>
      rw [hb] at e
      dsimp only at e
      exact absurd (by rw [e]; simp) (nz x (List.mem_of_getElem? ha))
  | none =>
    rw [ha] at e
    cases hb : l[b]? with
    | some y =>
      rw [hb] at e
      dsimp only at e
      exact absurd (by rw [← e]; simp) (nz y (List.mem_of_getElem? hb))
    | none =>
      rw [hb] at e
      dsimp only at e
      have := congrArg (fun z : Str => z.cps.size) e
      simpa using this

/-! ### what is known of the written part -/
/-- the answers of isinstance with a built-in class -/
abbrev isiL (t : List String) : List (Ty × Bool) := ["NoneType", "bool", "int", "str", "tuple", "list", "dict"].map fun a => (Ty.b a, decide (a ∈ t))
theorem isi_int {K : PySem.W.Frag} {ct : CT} : IsiOk K ct (.type "int") (isiL ["int", "bool"]) := isi_any (by decide +kernel) [("NoneType", false), ("bool", true), ("int", true), ("str", false), ("tuple", false), ("list", false), ("dict", false)] (by decide +kernel)
theorem isi_bool {K : PySem.W.Frag} {ct : CT} : IsiOk K ct (.type "bool") (isiL ["bool"]) := isi_any (by decide +kernel) [("NoneType", false), ("bool", true), ("int", false), ("str", false), ("tuple", false), ("list", false), ("dict", false)] (by decide +kernel)
theorem isi_str {K : PySem.W.Frag} {ct : CT} : IsiOk K ct (.type "str") (isiL ["str"]) := isi_any (by decide +kernel) [("NoneType", false), ("bool", false), ("int", false), ("str", true), ("tuple", false), ("list", false), ("dict", false)] (by decide +kernel)
theorem isi_tuple {K : PySem.W.Frag} {ct : CT} : IsiOk K ct (.type "tuple") (isiL ["tuple"]) := isi_any (by decide +kernel) [("NoneType", false), ("bool", false), ("int", false), ("str", false), ("tuple", true), ("list", false), ("dict", false)] (by decide +kernel)
theorem isi_list {K : PySem.W.Frag} {ct : CT} : IsiOk K ct (.type "list") (isiL ["list"]) := isi_any (by decide +kernel) [("NoneType", false), ("bool", false), ("int", false), ("str", false), ("tuple", false), ("list", true), ("dict", false)] (by decide +kernel)
theorem isi_dict {K : PySem.W.Frag} {ct : CT} : IsiOk K ct (.type "dict") (isiL ["dict"]) := isi_any (by decide +kernel) [("NoneType", false), ("bool", false), ("int", false), ("str", false), ("tuple", false), ("list", false), ("dict", true)] (by decide +kernel)
/-- what a call of a def leans on -/
structure FnI (K : PySem.W.Frag) (F : Fn) : Prop where
  kp : PySem.W.keepIn K (.ref F.f) = true
  bi : Binds K F.fd F.ps []
/-- .. of the context -/
structure Cq (X : Cx) (ct : CT) (fns : List Fn) (call : CallT) (n : Nat) : Prop where
  co : CallOk X.prog X.w X.K X.mg X.base ct fns call n
  ro : Room (2 * n + 2) X.A
theorem takesW {X : Cx} : Takes X W0 := fun _ _ ⟨_, _, _, _, _, _, _, _, _, _, _, _, _, _, _, _, w⟩ => w.elim
section
variable {X : Cx} {ct : CT} {W : WX} {pos p apos : Pos} {e o : Expr} {es : List Expr} {f : SemE} {fs : SemA} {call : CallT} {n i : Nat} {F : Fn} {x : Str} {fns : List Fn}
theorem sc_call (c : Cq X ct fns call n) (tk : Takes X W) (fi : FnI X.K F) (hm : X.mg x = some (.ref F.f)) (hF : fns[i]? = some F) (hg : Gl X x) (ha : SA X ct W (e :: es) fs) (hdb : (x == ("__debug__" : Str)) = false := by decide)
    (he : starEach (e :: es) X.env = (false, eval e X.env) :: starEach es X.env := by rfl) (hpl : (backTo pos (starEach es X.env)).any (·.1) = false := by rfl) : SE X ct W (.Call (.Name x p) (e :: es) [] pos) (eCl call i [] fs) :=
  se_call c.co tk (c.ro.mono (Nat.le_succ _)) hF hg hm fi.kp fi.bi .nil Dfl.nil ha hdb he hpl
theorem sc_call0 (c : Cq X ct fns call n) (tk : Takes X W) (fi : FnI X.K F) (hm : X.mg x = some (.ref F.f)) (hF : fns[i]? = some F) (hg : Gl X x) (hdb : (x == ("__debug__" : Str)) = false := by decide) : SE X ct W (.Call (.Name x p) [] [] pos) (eCl call i [] aNil) :=
  se_call0 c.co tk (c.ro.mono (Nat.le_succ _)) hF hg hm fi.kp fi.bi .nil Dfl.nil hdb
theorem sc_make {C : Nat} (c : Cq X ct fns call n) (tk : Takes X W) (fi : FnI X.K F) (M : Mk X.K (ct.ca C) F.f) (hm : X.mg x = some (.ref (ct.ca C))) (hF : fns[i]? = some F) (hg : Gl X x) (ha : SA X ct W (e :: es) fs) (hdb : (x == ("__debug__" : Str)) = false := by decide)
    (he : starEach (e :: es) X.env = (false, eval e X.env) :: starEach es X.env := by rfl) (hpl : (backTo pos (starEach es X.env)).any (·.1) = false := by rfl) : SE X ct W (.Call (.Name x p) (e :: es) [] pos) (eMk call i C [] fs) :=
  se_make c.co tk c.ro hF M hg hm fi.bi .nil Dfl.nil ha hdb he hpl
theorem sc_own {C : Nat} (c : Cq X ct fns call n) (fi : FnI X.K F) (M : Meth X.K (ct.ca C) "__eq__" F.f) (hF : fns[i]? = some F) : OpR X (compareOp .Eq) (rOp X.K ct (oOwn call i C)) :=
  own_sound c.co (c.ro.mono (Nat.le_succ _)) hF M.at_ M.fn fi.bi
theorem unR {k : Nat} {A : Around} (r : Room k A) : A.units + 64 < cLine := by have := r.un; omega
theorem unR5 {k : Nat} {A : Around} (r : Room k A) : A.units + 65 < cLine := by have := r.un; omega
theorem un (c : Cq X ct fns call n) : X.A.units + 65 < cLine := by have := c.ro.un; omega
theorem un' (c : Cq X ct fns call n) : X.A.units + 64 < cLine := by have := c.ro.un; omega
end

/-! ### a head that tells further facts -/
open He in
def obsMG (n : Nat) (xf : PySem.W.Frag → Bool) (fa : List Fa) (fn : List DefD) (g : Addr → Option Obj) : Bool × AlD := obsM xf fa fn (frG g (asD g n))
open He in
def hookM (n : Nat) (xf : PySem.W.Frag → Bool) (fa : List Fa) (fn : List DefD) : PySem.W.Hook where
  α := Bool × AlD
  obs := fun s => obsMG n xf fa fn s.heap.get?
  val := fun _ => (true, valD fn)
  says := fun _ h => ∃ K : PySem.W.Frag, K.In h ∧ SaysM xf fa fn K
  of := fun _ _ e => ⟨_, frG_in, e⟩
  keeps := fun _ _ _ ⟨K, hK, c⟩ k => ⟨K, PySem.W.Frag.In.keeps hK k, c⟩
open He in
theorem obsMG_eq {n : Nat} {xf : PySem.W.Frag → Bool} {fa : List Fa} {fn : List DefD} {g : Addr → Option Obj} {s : Shared} (h : ∀ a, g a = s.heap.get? a) : obsMG n xf fa fn g = (hookM n xf fa fn).obs s := by
  rw [show g = s.heap.get? from funext h]; rfl
theorem SaysM.d {xf : PySem.W.Frag → Bool} {fa : List He.Fa} {fn : List He.DefD} {K : PySem.W.Frag} (c : SaysM xf fa fn K) : He.SaysD fa fn K := congrArg (fun z : Bool × He.AlD => z.2) c
theorem SaysM.x {xf : PySem.W.Frag → Bool} {fa : List He.Fa} {fn : List He.DefD} {K : PySem.W.Frag} (c : SaysM xf fa fn K) : xf K = true := congrArg (fun z : Bool × He.AlD => z.1) c
theorem isiB_ok {K : PySem.W.Frag} {C : Addr} (c : Cls K C) (h : isiB K C = true) : IsiC K C := by
  unfold isiB at h
  simp only [Bool.and_eq_true, decide_eq_true_eq] at h
  exact ⟨c, He.eqO_ok h.1, He.eqO_ok h.2.1, h.2.2.1, h.2.2.2⟩
theorem kitA_ok {K : PySem.W.Frag} {t u : Value} {b : Bool} (h : kitA K t u b = true) : PySem.W.kitOne K t u = some b := of_decide_eq_true h
/-! ### the law's end -/
/-- the script as it comes in -/
theorem scr_in {K : PySem.W.Frag} {ct : CT} {H : Hp} {a : Addr} {ns : List Int} (hO : Only H) (h : SqL K H a (ns.map V.int)) : HR K ct [] [] H ∧ DR K ct (Sf [] []) H (.scr (ns.map D.int)) (.ref a) := by
  have r : DRs K ct (Sf [] []) H (ns.map D.int) (ns.map V.int) := by
    clear h hO
    induction ns with
    | nil => exact .nil
    | cons n ns ih => exact .cons (.int n) ih
  have s : Sf [] [] a := fun ⟨k, o, e, _⟩ => by simp at e
  refine ⟨⟨rfl, fun i j a e => by simp at e, fun k a o e => by simp at e⟩, ?_⟩
  refine .scr (h.imp (fun h => ⟨?_, s⟩) id) r
  rcases h with h | h
  · rcases hO a with z | ⟨o, xs, z⟩ <;> rw [z] at h <;> cases h
  · exact h
end Mi

/-! Mi11: the end of a law, where the def's promise knows that no repr is under way -/
namespace Mi
open PySem PySem.Spec PyProof.Rows L2
/-- the law's def is called: nothing but the script may be tracked -/
theorem call_law {P : Program} {w : World} {K : PySem.W.Frag} {mg mb : Str → Option Value} {CX : CXT} {k : Nat} {fA scA : Addr} {fd : FuncData} {x : Str} {sp : Sp} {s1 : Shared} {us : List Value} {ns : List Int}
    (kx : K.In s1.heap) (hmn : s1.heap.Ns mainGlobals mg) (hbn : s1.heap.Ns builtinsNs mb) (hbt : ∀ x : Str, x ≠ "__name__" → mb x = bootBuiltins x) (hli : s1.heap.NoLimit) (hge : s1.gens = #[])
    (hsc : s1.heap.get? scA = some { cls := .type "list", data := .seq us.toArray }) (hin : IntsAre us ns) (hle : ns.length ≤ sizeLine) (hro : Room k callerA)
    (F : ∀ base : Heap, K.In base → base.Ns mainGlobals mg → FnOk P w K mg base CX k fA fd [x] sp) (hbi : ∀ (s : Shared) (u : Value), BindsTo s fd ⟨[u], []⟩ [(x, u)])
    (hpr : ∀ H : Hp, Only H → SqL K H scA (ns.map V.int) → sp [.ref scA] H (fun v _ => v = .bl true) fun _ _ _ => False) (hno : ∀ H e s', CX [] H s1 (fun _ _ _ => False) e s' → False) :
    codeAny (model P w) callerA (.call (.ref fA) ⟨[.ref scA], []⟩) (fun r s' => r = .ok (.ret (.bool true)) ∧ OldK s1.heap s'.heap ∧ s'.os = s1.os ∧ AllBare s'.gens) s1 := by
  have rel := vals_ints hin
  have lenU := hin.length
  have main : ∀ H : Hp, Only H → SqL K H scA (ns.map V.int) → HOk P w H s1.heap → (∀ b, H b ≠ none → b = scA) → (H scA ≠ none → K.lookup scA = none) →
      codeAny (model P w) callerA (.call (.ref fA) ⟨[.ref scA], []⟩) (fun r s' => r = .ok (.ret (.bool true)) ∧ OldK s1.heap s'.heap ∧ s'.os = s1.os ∧ AllBare s'.gens) s1 := by
    intro H only seq hok lone unwritten
    have at_b : ∀ {b : Addr} {o : Obj}, s1.heap.get? b = some o → H b = none → (hidT s1.heap H).get? b = some o := fun e n => hidT_get e n
    have dicts : ∀ {b : Addr} {o : Obj} {es : Array DictEntry} {ep : Nat}, s1.heap.get? b = some o → o.data = .dict es ep → H b = none := fun {b o es ep} e d => by
      cases q : H b with
      | none => rfl
      | some u =>
        obtain rfl : b = scA := lone b (by rw [q]; simp)
        rw [hsc] at e
        cases e
        exact (nomatch (show Data.seq us.toArray _ = Data.dict es ep from d))
    have spaces : ∀ {b : Addr} {m : Str → Option Value}, s1.heap.Ns b m → (hidT s1.heap H).Ns b m := fun ⟨o, es, ep, e, d, r⟩ => ⟨o, es, ep, at_b e (dicts e d), d, r⟩
    have kin : K.In (hidT s1.heap H) := fun b o e => at_b (kx b o e) (by
      cases q : H b with
      | none => rfl
      | some u =>
        obtain rfl : b = scA := lone b (by rw [q]; simp)
        rw [unwritten (by rw [q]; simp)] at e
        cases e)
    have modu : Mod K mg (hidT s1.heap H) := ⟨kin, spaces hmn, ⟨mb, spaces hbn, hbt⟩, let ⟨mc, h1, h2⟩ := hli; ⟨mc, spaces h1, h2⟩⟩
    have env0 : Env0 P w K mg (hidT s1.heap H) callerA [] s1 H := ⟨rfl, modu, fun b o e => of_hidT e, Nat.le_of_eq (hidT_size _ _), trivial, fun b hb => (nomatch (show b ∈ ([] : List Addr) from hb)), hok, .of_eq hge⟩
    refine codeAny_mono ((F _ kin (spaces hmn)).run callerA [] s1 H ⟨[.ref scA], []⟩ [.ref scA] [.ref scA] _ _ hro env0 (hbi s1 (.ref scA)) (.cons rfl .nil) (hpr H only seq)) fun r s' z => ?_
    match r, z with
    | .error e, z => exact (hno H e s' z).elim
    | .ok .next, z => exact False.elim z
    | .ok .brk, z => exact False.elim z
    | .ok .cont, z => exact False.elim z
    | .ok (.ret u), z =>
      obtain ⟨v, H', os, bare, un, hok', rv, q⟩ := z
      have q1 : v = .bl true := q
      subst q1
      obtain rfl : u = Value.bool true := rv
      refine ⟨rfl, OldK.of_keep fun b o e => ?_, os, bare⟩
      rcases hH : H b with _ | u
      · exact un.keep b o e hH (fun z => nomatch (show b ∈ ([] : List Addr) from z)) (by simp)
      · rcases only b with z | ⟨ob, xs, z⟩
        · rw [hH] at z; cases z
        · obtain ⟨e1, _⟩ := hok b _ z
          obtain ⟨e2, _⟩ := hok' b _ (un.frzs b ob _ z)
          rw [e] at e1
          cases e1
          exact e2
  rcases hk : K.lookup scA with _ | o
  · refine main (fun b => if b = scA then some (.frz { cls := .type "list", data := .seq us.toArray } (.lst (ns.map V.int))) else none) (fun b => ?_) (.inl (.inr ⟨{ cls := .type "list", data := .seq us.toArray }, if_pos rfl⟩)) (fun b u z => ?_) (fun b z => ?_) fun _ => hk
    · by_cases e : b = scA
      · exact .inr ⟨_, _, if_pos e⟩
      · exact .inl (if_neg e)
    · by_cases e : b = scA
      · cases (if_pos e).symm.trans z
        subst e
        exact ⟨hsc, by rw [List.length_map]; exact hle, us, _, rel, hsc⟩
      · cases (if_neg e).symm.trans z
    · exact Classical.byContradiction fun e => z (if_neg e)
  · have e := kx scA o hk
    rw [hsc] at e
    cases e
    exact main (fun _ => none) (fun _ => .inl rfl) (.inr ⟨_, us.toArray, _, hk, rfl, rfl, rfl, by rw [List.size_toArray, lenU]; exact hle, by simpa using rel⟩) (fun b u z => nomatch (show (none : Option HO) = some u from z)) (fun b z => absurd rfl z) fun z => absurd rfl z
/-- the walk of a law by facts -/
theorem walk_law {l : PySem.W.OpenLaw} {n k : Nat} {q : Program} {loose : List Str} {XP : (Str → Option Value) → Heap → Prop} {YP : World → Heap → Prop} {d : DefRec} {CX : CXT} {x : Str} (hmo : l.most = some n) (hmo2 : n ≤ sizeLine) (hde : d.params.defaults = []) (hro : Room k callerA)
    (F : ∀ (w : World) (mg : Str → Option Value) (fA : Addr) (h : Heap), YP w h → h.Ns mainGlobals mg → mg d.name = some (.ref fA) → ∃ (K : PySem.W.Frag) (fd : FuncData) (sp : Sp), K.In h ∧ (∀ (s : Shared) (u : Value), BindsTo s fd ⟨[u], []⟩ [(x, u)]) ∧
      (∀ (H : Hp) (a : Addr) (ns : List Int), ns.length ≤ n → Only H → SqL K H a (ns.map V.int) → sp [.ref a] H (fun v _ => v = .bl true) fun _ _ _ => False) ∧ ∀ base : Heap, K.In base → base.Ns mainGlobals mg → FnOk l.prog w K mg base CX k fA fd [x] sp)
    (hno : ∀ (H : Hp) (s : Shared) (e : Value) (s' : Shared), CX [] H s (fun _ _ _ => False) e s' → False) : PySem.W.WalkO q loose XP YP l.row.toRowW d [] (fun f vs => PySem.call f vs) := by
  refine Att.attach_call hmo hde fun w s₀ s₁ mg mb fA o pm cd doc a vs ns G Y ho hd hcd hmg hobj hints hlen hg => ?_
  obtain ⟨K, fd, sp, kx, hb, hsp, hF⟩ := F w mg fA _ Y G.T.g hmg
  exact call_law kx G.T.g G.T.b G.T.builtins G.T.nolimit hg hobj hints (Nat.le_trans hlen hmo2) hro hF hb (fun H hO hS => hsp H a ns hlen hO hS) fun H e s' => hno H s₁ e s'
theorem FnOk.still {P : Program} {w : World} {K : PySem.W.Frag} {mg : Str → Option Value} {base : Heap} {k : Nat} {f : Addr} {fd : FuncData} {ps : List Str} {sp : Sp} (F : FnOk P w K mg base (L2.CX P w) k f fd ps sp) :
    FnOk P w K mg base L2.CX0 k f fd ps (fun vs H Q _ => sp vs H Q fun _ _ _ => False) :=
  ⟨fun vs H Q E h => F.len vs H Q _ h, fun A outer s H args us vs Q E hr e0 hb r h => codeAny_mono (F.run A outer s H args us vs Q _ hr e0 hb r h) fun r s' q => by
    cases r with
    | error e => obtain ⟨_, _, _, _, _, _, _, _, _, _, _, _, z⟩ := q; exact z.elim
    | ok fl => cases fl <;> exact q⟩
theorem law_sp {K : PySem.W.Frag} {ct : CT} {defs : List MDef} {n i : Nat} (hlaw : ∀ ns : List Int, ns.length ≤ 63 → ∃ h, callF defs n i [.d (.scr (ns.map D.int))] [] = .ok (.d (.bl true)) h)
    (H : Hp) (a : Addr) (ns : List Int) (hl : ns.length ≤ 63) (hO : Only H) (hS : SqL K H a (ns.map V.int)) : spC K ct (callF defs n) i [.ref a] H (fun v _ => v = .bl true) (fun _ _ _ => False) := by
  obtain ⟨h, e⟩ := hlaw ns hl
  refine ⟨[], [], [.d (.scr (ns.map D.int))], (scr_in (ct := ct) hO hS).1, .cons (scr_in hO hS).2 .nil, ?_⟩
  rw [e]
  intro m' H' v _ _ r
  cases r
  rfl
end Mi

/-! Mi12: meanings at work: what each combinator gives where it is applied; rules for loops; == of data -/
namespace Mi
open PySem

/-- what range(j) walks -/
def rngR (xs : List Vl) (h1 : Hs) : Res (List D) := match xs with
  | [.d (.int j)] => if smI j = true then .ok (rngD 0 j.toNat) h1 else .bad
  | _ => .bad
theorem rngR_int {i : Int} {h : Hs} (h0 : 0 ≤ i) (h1 : i < 16777216) : rngR [.d (.int i)] h = .ok (rngD 0 i.toNat) h := if_pos (Nat.ble_eq_true_of_le (by omega))
theorem rngR_nat {k : Nat} {h : Hs} (h1 : k < 16777216) : rngR [.d (.int (k : Int))] h = .ok (rngD 0 k) h := by
  rw [rngR_int (by omega) (by omega), Int.toNat_natCast]
/-- tuple(range(n)) -/
def trR (x : Vl) (h1 : Hs) : Res Vl := match x with
  | .d (.int n) => if smR n = true then .ok (.d (.tup (rngD 0 n.toNat))) h1 else .bad
  | _ => .bad
theorem trR_nat {k : Nat} {h : Hs} (h1 : k < 16777216) : trR (.d (.int (k : Int))) h = .ok (.d (.tup (rngD 0 k))) h := by
  unfold trR
  dsimp only
  rw [if_pos (by unfold smR; rw [decide_eq_true (by omega : (0 : Int) ≤ (k : Int)), Bool.true_and]; exact Nat.ble_eq_true_of_le (by omega)), Int.toNat_natCast]
section
variable {σ : Lo} {h : Hs} {f g k : SemE} {t u : SemT} {fs : SemA} {p q : SemS} {call : CallT}
@[simp] theorem ap_var (i : Nat) : eVar i σ h = (match σ[i]? with
  | some (some v) => .ok v h
  | _ => .bad) := rfl
@[simp] theorem ap_k (d : D) : eK d σ h = .ok (.d d) h := rfl
@[simp] theorem ap_bin (op : Op2) : eBin op f g σ h = rb (f σ h) fun x h1 => rb (g σ h1) fun y h2 => ro (op x y h2) := rfl
@[simp] theorem ap_un (op : Op1) : eUn op f σ h = rb (f σ h) fun x h1 => ro (op x h1) := rfl
@[simp] theorem ap_chain (o o' : Op2) : eChain o o' f g k σ h = rb (f σ h) fun x h1 => rb (g σ h1) fun y h2 => rb (ro (o x y h2)) fun z h3 => match z with
  | .d (.bl b) => if b = true then rb (k σ h3) fun w h4 => ro (o' y w h4) else .ok (.d (.bl false)) h3
  | _ => .bad := rfl
@[simp] theorem ap_if : eIf t f g σ h = rb (t σ h) fun b h1 => if b = true then f σ h1 else g σ h1 := rfl
@[simp] theorem ap_an : eAn f g σ h = rb (f σ h) fun x h1 => match truO x h1 with
  | some b => if b = true then g σ h1 else .ok x h1
  | none => .bad := rfl
@[simp] theorem ap_or : eOr f g σ h = rb (f σ h) fun x h1 => match truO x h1 with
  | some b => if b = true then .ok x h1 else g σ h1
  | none => .bad := rfl
@[simp] theorem ap_no : eNo f σ h = rb (f σ h) fun x h1 => match truO x h1 with
  | some b => .ok (.d (.bl (!b))) h1
  | none => .bad := rfl
@[simp] theorem ap_tru : tTru f σ h = rb (f σ h) fun x h1 => match truO x h1 with
  | some b => .ok b h1
  | none => .bad := rfl
@[simp] theorem ap_tbl : tBl f σ h = rb (f σ h) fun x h1 => match x with
  | .d (.bl b) => .ok b h1
  | _ => .bad := rfl
@[simp] theorem ap_tan : tAn t u σ h = rb (t σ h) fun b h1 => if b = true then u σ h1 else .ok false h1 := rfl
@[simp] theorem ap_tor : tOr' t u σ h = rb (t σ h) fun b h1 => if b = true then .ok true h1 else u σ h1 := rfl
@[simp] theorem ap_tno : tNo t σ h = rb (t σ h) fun b h1 => .ok (!b) h1 := rfl
@[simp] theorem ap_tys : tYs σ h = .ok true h := rfl
@[simp] theorem ap_nil : aNil σ h = .ok [] h := rfl
@[simp] theorem ap_cons : aCons f fs σ h = rb (f σ h) fun x h1 => rb (fs σ h1) fun xs h2 => .ok (x :: xs) h2 := rfl
@[simp] theorem ap_tup : eTup fs σ h = rb (fs σ h) fun xs h1 => match toDs xs h1 with
  | some (ds, h2) => if ds.length ≤ 1000 then .ok (.d (.tup ds)) h2 else .bad
  | none => .bad := rfl
@[simp] theorem ap_lv : eLv fs σ h = rb (fs σ h) fun xs h1 => match toDs xs h1 with
  | some (ds, h2) => if ds.length ≤ 1000 then .ok (.d (.lv ds)) h2 else .bad
  | none => .bad := rfl
@[simp] theorem ap_lst : eLst fs σ h = rb (fs σ h) fun xs h1 => match toDs xs h1 with
  | some (ds, h2) => if ds.length ≤ 1000 then .ok (.r h2.length) (h2 ++ [.lst ds]) else .bad
  | none => .bad := rfl
@[simp] theorem ap_onone : oNone σ h = .ok none h := rfl
@[simp] theorem ap_osome : oSome f σ h = rb (f σ h) fun x h1 => match x with
  | .d (.int i) => .ok (some i) h1
  | _ => .bad := rfl
@[simp] theorem ap_sl (lo hi : SemO) : eSl f lo hi σ h = rb (f σ h) fun x h1 => rb (lo σ h1) fun a h2 => rb (hi σ h2) fun b h3 => ro (slO x a b h3) := rfl
@[simp] theorem ap_n (op : OpN) : eN op fs σ h = rb (fs σ h) fun xs h1 => ro (op xs h1) := rfl
@[simp] theorem ap_cl (i : Nat) (ds : List D) : eCl call i ds fs σ h = rb (fs σ h) fun xs h1 => call i (xs ++ ds.map Vl.d) h1 := rfl
@[simp] theorem ap_mk (i C : Nat) (ds : List D) : eMk call i C ds fs σ h = rb (fs σ h) fun xs h1 => mkI call i C (xs ++ ds.map Vl.d) h1 := rfl
@[simp] theorem ap_fd (ok : Nat → Bool) (n : Nat) : eFd ok n f σ h = rb (f σ h) fun x h1 => match insOf x h1 with
  | some (C, fs) => if ok C = true then (match fs.lookup n with
    | some d => .ok (.d d) h1
    | none => .bad) else .bad
  | none => .bad := rfl
@[simp] theorem ap_isi (l : List (Ty × Bool)) : eIsi l f σ h = rb (f σ h) fun x h1 => match tyD x h1 with
  | some t => (match lookT t l with
    | some b => .ok (.d (.bl b)) h1
    | none => .bad)
  | none => .bad := rfl
@[simp] theorem ap_tr : eTR f σ h = rb (f σ h) trR := congrFun (funext fun (_ : Unit) => rfl : (fun _ => eTR f σ h) = fun _ : Unit => rb (f σ h) trR) ()
@[simp] theorem ap_lc (mu : Bool) (vs : List Nat) (it : SemI) (gg : SemG) : eLc mu vs it gg t f σ h = rb (it σ h) fun ds h1 => match cmpL vs gg t f h1.length ds σ (h1 ++ [.lst []]) with
  | some h2 => lcEnd mu h1.length h2
  | none => .bad := rfl
@[simp] theorem ap_lm (op : List D → List D → Hs → Option (List D × Vl)) : eLm op f fs σ h = rb (f σ h) fun x h1 => match x with
  | .r k => (match h1[k]? with
    | some (.lst _) => rb (fs σ h1) fun ys h2 => (match h2[k]? with
      | some (.lst xs) => (match toDs ys h2 with
        | some (ds, h3) => (match h3[k]? with
          | some (.lst _) => (match op xs ds h3 with
            | some (xs', v) => .ok v (h3.set k (.lst xs'))
            | none => .bad)
          | _ => .bad)
        | none => .bad)
      | _ => .bad)
    | _ => .bad)
  | _ => .bad := rfl
@[simp] theorem ap_xt : eXt f fs σ h = rb (f σ h) fun x h1 => match x with
  | .r k => (match h1[k]? with
    | some (.lst _) => rb (fs σ h1) fun ys h2 => (match ys, h2[k]? with
      | [y], some (.lst xs) => (match pureSeq y with
        | some zs => if xs.length + zs.length ≤ sizeLine then .ok (.d .non) (h2.set k (.lst (xs ++ zs))) else .bad
        | none => .bad)
      | _, _ => .bad)
    | _ => .bad)
  | _ => .bad := rfl
@[simp] theorem ap_snil : sNil σ h = .ok .nx σ h := rfl
@[simp] theorem ap_sq : sSq p q σ h = ss (p σ h) q := rfl
@[simp] theorem ap_ex : sEx f σ h = sb (f σ h) σ fun _ h1 => .ok .nx σ h1 := rfl
@[simp] theorem ap_rt : sRt f σ h = sb (f σ h) σ fun x h1 => .ok (.ret x) σ h1 := rfl
@[simp] theorem ap_rtn : sRtN σ h = .ok (.ret (.d .non)) σ h := rfl
@[simp] theorem ap_sif : sIf t p q σ h = sb (t σ h) σ fun b h1 => if b = true then p σ h1 else q σ h1 := rfl
@[simp] theorem ap_brk : sBrk σ h = .ok .brk σ h := rfl
@[simp] theorem ap_cnt : sCnt σ h = .ok .cnt σ h := rfl
@[simp] theorem ap_sbad : sBad σ h = .bad := rfl
@[simp] theorem ap_frz (i : Nat) : sFrz i σ h = (match σ[i]? with
  | some (some x) => (match toD x h with
    | some (d, h1) => .ok .nx (σ.set i (some (.d d))) h1
    | none => .bad)
  | _ => .bad) := rfl
@[simp] theorem ap_as (gg : SemG) : sAs f gg σ h = sb (f σ h) σ fun x h1 => match gg x σ h1 with
  | some (σ', h2) => .ok .nx σ' h2
  | none => .bad := rfl
@[simp] theorem ap_au (i : Nat) (op : Op2) : sAu i op f σ h = (match σ[i]? with
  | some (some x) => sb (f σ h) σ fun y h1 => match op x y h1 with
    | some (z, h2) => .ok .nx (σ.set i (some z)) h2
    | none => .bad
  | _ => .bad) := rfl
@[simp] theorem ap_sfd (ok : Nat → Bool) (n : Nat) : sFd ok n f g σ h = sb (g σ h) σ fun y h1 => match toD y h1 with
  | none => .bad
  | some (d, h2) => sb (f σ h2) σ fun x h3 => match x with
    | .r k => (match h3[k]? with
      | some (.ins C fs) => if ok C = true ∧ fs.length < 900 then .ok .nx σ (h3.set k (.ins C (putN n d fs))) else .bad
      | _ => .bad)
    | _ => .bad := rfl
@[simp] theorem ap_for (it : SemI) (gg : SemG) : sFor it gg p σ h = sb (it σ h) σ fun ds h1 => forL gg p ds σ h1 := rfl
@[simp] theorem ap_gnm (i : Nat) (x : Vl) : gNm i x σ h = some (σ.set i (some x), h) := rfl
@[simp] theorem ap_gni : gNi [] σ h = some (σ, h) := rfl
@[simp] theorem ap_gco (gg : SemG) (gs : SemGs) (x : D) (xs : List D) : gCo gg gs (x :: xs) σ h = (gg (.d x) σ h).bind fun p => gs xs p.1 p.2 := rfl
@[simp] theorem ap_gtp (n : Nat) (gs : SemGs) (xs : List D) : gTp n gs (.d (.tup xs)) σ h = if xs.length = n then gs xs σ h else none := rfl
@[simp] theorem ap_gst (x : Vl) : gSt f g x σ h = (match toD x h with
  | none => none
  | some (d, h0) => match f σ h0 with
    | .ok (.r k) h1 => (match g σ h1 with
      | .ok (.d (.int i)) h2 => (match h2[k]? with
        | some (.lst xs) => (match L2.ixN xs.length i with
          | some j => some (σ, h2.set k (.lst (xs.set j d)))
          | none => none)
        | _ => none)
      | _ => none)
    | _ => none) := rfl
@[simp] theorem ap_ia1 : iA1 fs σ h = rb (fs σ h) rngR := congrFun (funext fun (_ : Unit) => rfl : (fun _ => iA1 fs σ h) = fun _ : Unit => rb (fs σ h) rngR) ()
@[simp] theorem ap_ia2 : iA2 fs σ h = rb (fs σ h) fun xs h1 => match xs with
  | [.d (.int i), .d (.int j)] => if smI i = true ∧ smI j = true then .ok (rngD i (j - i).toNat) h1 else .bad
  | _ => .bad := rfl
@[simp] theorem ap_iseq : iSeq f σ h = rb (f σ h) fun x h1 => match pureSeq x with
  | some xs => .ok xs h1
  | none => .bad := rfl
@[simp] theorem ap_ient : iEnT fs σ h = rb (fs σ h) fun xs h1 => match xs with
  | [.d (.tup ds)] => .ok (enumD ds) h1
  | _ => .bad := rfl
end
@[simp] theorem toD_d (d : D) (h : Hs) : toD (.d d) h = some (d, h) := rfl
@[simp] theorem toDs_nil (h : Hs) : toDs [] h = some ([], h) := rfl
@[simp] theorem toDs_d (d : D) (xs : List Vl) (h : Hs) : toDs (.d d :: xs) h = (toDs xs h).map fun q => (d :: q.1, q.2) := rfl
@[simp] theorem pureSeq_tup (xs : List D) : pureSeq (.d (.tup xs)) = some xs := rfl
@[simp] theorem pureSeq_lv (xs : List D) : pureSeq (.d (.lv xs)) = some xs := rfl
@[simp] theorem seqOf_tup (xs : List D) (h : Hs) : seqOf (.d (.tup xs)) h = some xs := rfl
@[simp] theorem seqOf_lv (xs : List D) (h : Hs) : seqOf (.d (.lv xs)) h = some xs := rfl
@[simp] theorem lstOf_lv (xs : List D) (h : Hs) : lstOf (.d (.lv xs)) h = some xs := rfl
@[simp] theorem insOf_ins (C : Nat) (fs : List (Nat × D)) (h : Hs) : insOf (.d (.ins C fs)) h = some (C, fs) := rfl
@[simp] theorem insOf_r (k : Nat) (h : Hs) : insOf (.r k) h = (match h[k]? with
  | some (.ins C fs) => some (C, fs)
  | _ => none) := rfl
@[simp] theorem insOf_tup (xs : List D) (h : Hs) : insOf (.d (.tup xs)) h = none := rfl
@[simp] theorem insOf_lv (xs : List D) (h : Hs) : insOf (.d (.lv xs)) h = none := rfl
@[simp] theorem tyD_int (i : Int) (h : Hs) : tyD (.d (.int i)) h = some (.b "int") := rfl
@[simp] theorem tyD_bl (i : Bool) (h : Hs) : tyD (.d (.bl i)) h = some (.b "bool") := rfl
@[simp] theorem tyD_tup (xs : List D) (h : Hs) : tyD (.d (.tup xs)) h = some (.b "tuple") := rfl
@[simp] theorem tyD_lv (xs : List D) (h : Hs) : tyD (.d (.lv xs)) h = some (.b "list") := rfl
@[simp] theorem tyD_non (h : Hs) : tyD (.d .non) h = some (.b "NoneType") := rfl
@[simp] theorem tyD_str (x : Str) (h : Hs) : tyD (.d (.str x)) h = some (.b "str") := rfl
@[simp] theorem tyD_ins (C : Nat) (fs : List (Nat × D)) (h : Hs) : tyD (.d (.ins C fs)) h = some (.c C) := rfl
@[simp] theorem tru_bl (b : Bool) (h : Hs) : truO (.d (.bl b)) h = some b := rfl
@[simp] theorem tru_int (i : Int) (h : Hs) : truO (.d (.int i)) h = some (i != 0) := rfl
@[simp] theorem o_add (i j : Int) (h : Hs) : oAdd (.d (.int i)) (.d (.int j)) h = some (.d (.int (i + j)), h) := rfl
@[simp] theorem o_addT (a b : List D) (h : Hs) : oAdd (.d (.tup a)) (.d (.tup b)) h = if a.length + b.length ≤ sizeLine then some (.d (.tup (a ++ b)), h) else none := rfl
@[simp] theorem o_addL (a b : List D) (h : Hs) : oAdd (.d (.lv a)) (.d (.lv b)) h = if a.length + b.length ≤ sizeLine then some (.d (.lv (a ++ b)), h) else none := rfl
@[simp] theorem o_sub (i j : Int) (h : Hs) : oSub (.d (.int i)) (.d (.int j)) h = some (.d (.int (i - j)), h) := rfl
@[simp] theorem o_mul (i j : Int) (h : Hs) : oMulI (.d (.int i)) (.d (.int j)) h = if cMulW i j then some (.d (.int (i * j)), h) else none := rfl
@[simp] theorem o_div (i j : Int) (h : Hs) : oDiv (.d (.int i)) (.d (.int j)) h = if cDivW i j then some (.d (.int (i / j)), h) else none := rfl
@[simp] theorem o_mod (i j : Int) (h : Hs) : oMod (.d (.int i)) (.d (.int j)) h = if decide (0 < j) then some (.d (.int (i % j)), h) else none := rfl
@[simp] theorem o_pow (i j : Int) (h : Hs) : oPow (.d (.int i)) (.d (.int j)) h = if cPow i j then some (.d (.int (i ^ j.toNat)), h) else none := rfl
@[simp] theorem o_neg (i : Int) (h : Hs) : oNeg (.d (.int i)) h = some (.d (.int (-i)), h) := rfl
@[simp] theorem o_iadd (i j : Int) (h : Hs) : oIAdd (.d (.int i)) (.d (.int j)) h = some (.d (.int (i + j)), h) := rfl
@[simp] theorem o_lt (i j : Int) (h : Hs) : oLt (.d (.int i)) (.d (.int j)) h = some (.d (.bl (decide (i < j))), h) := rfl
@[simp] theorem o_le (i j : Int) (h : Hs) : oLe (.d (.int i)) (.d (.int j)) h = some (.d (.bl (decide (i ≤ j))), h) := rfl
@[simp] theorem o_gt (i j : Int) (h : Hs) : oGt (.d (.int i)) (.d (.int j)) h = some (.d (.bl (decide (j < i))), h) := rfl
@[simp] theorem o_ge (i j : Int) (h : Hs) : oGe (.d (.int i)) (.d (.int j)) h = some (.d (.bl (decide (j ≤ i))), h) := rfl
@[simp] theorem o_isn (x : Vl) (h : Hs) : oIsN x (.d .non) h = some (.d (.bl (isNon x)), h) := rfl
@[simp] theorem o_notn (x : Vl) (h : Hs) : oNotN x (.d .non) h = some (.d (.bl (!isNon x)), h) := rfl
@[simp] theorem isNon_non : isNon (.d .non) = true := rfl
@[simp] theorem isNon_str (x : Str) : isNon (.d (.str x)) = false := rfl
@[simp] theorem o_ixT (xs : List D) (i : Int) (h : Hs) : oIx (.d (.tup xs)) (.d (.int i)) h = (L2.atI xs i).map fun d => (.d d, h) := rfl
@[simp] theorem o_ixL (xs : List D) (i : Int) (h : Hs) : oIx (.d (.lv xs)) (.d (.int i)) h = (L2.atI xs i).map fun d => (.d d, h) := rfl
theorem o_ixR {k : Nat} {xs : List D} {h : Hs} (e : h[k]? = some (.lst xs)) (i : Int) : oIx (.r k) (.d (.int i)) h = (L2.atI xs i).map fun d => (.d d, h) := by
  show (match seqOf (.r k) h with
    | some xs => (L2.atI xs i).map fun d => (Vl.d d, h)
    | none => none) = _
  simp only [seqOf, e]
@[simp] theorem n_lenT (xs : List D) (h : Hs) : nLen [.d (.tup xs)] h = some (.d (.int xs.length), h) := rfl
@[simp] theorem n_lenL (xs : List D) (h : Hs) : nLen [.d (.lv xs)] h = some (.d (.int xs.length), h) := rfl
@[simp] theorem n_tupT (xs : List D) (h : Hs) : nTuple [.d (.tup xs)] h = some (.d (.tup xs), h) := rfl
@[simp] theorem n_tupL (xs : List D) (h : Hs) : nTuple [.d (.lv xs)] h = some (.d (.tup xs), h) := rfl
@[simp] theorem n_lstT (xs : List D) (h : Hs) : nListV [.d (.tup xs)] h = some (.d (.lv xs), h) := rfl
@[simp] theorem n_lstL (xs : List D) (h : Hs) : nListV [.d (.lv xs)] h = some (.d (.lv xs), h) := rfl
@[simp] theorem n_lstS (xs : List D) (h : Hs) : nListV [.d (.scr xs)] h = some (.d (.lv xs), h) := rfl
theorem n_tupR {k : Nat} {xs : List D} {h : Hs} (e : h[k]? = some (.lst xs)) : nTuple [.r k] h = some (.d (.tup xs), h) := by
  show (match seqOf (.r k) h with
    | some xs => some (Vl.d (.tup xs), h)
    | none => none) = _
  simp only [seqOf, e]
@[simp] theorem n_int (i : Int) (h : Hs) : nInt [.d (.int i)] h = some (.d (.int i), h) := rfl
@[simp] theorem n_min (i j : Int) (h : Hs) : nMin2 [.d (.int i), .d (.int j)] h = some (.d (.int (if j < i then j else i)), h) := rfl
@[simp] theorem sl_tup (xs : List D) (a b : Option Int) (h : Hs) : slO (.d (.tup xs)) a b h = some (.d (.tup (cutL xs a b)), h) := rfl
@[simp] theorem lmA (xs : List D) (d : D) (h : Hs) : lmAppend xs [d] h = if xs.length < sizeLine then some (xs ++ [d], .d .non) else none := rfl

/-! ### the heap's end -/
section
variable {h l : Hs} {a b : O}
@[simp] theorem at_len : (h ++ a :: l)[h.length]? = some a := by simp
@[simp] theorem set_len : (h ++ a :: l).set h.length b = h ++ b :: l := by
  rw [List.set_append_right _ _ (Nat.le_refl _), Nat.sub_self]; rfl
@[simp] theorem take_len : (h ++ l).take h.length = h := List.take_left' rfl
@[simp] theorem take_len1 : (h ++ a :: l).take (h.length + 1) = h ++ [a] := by
  rw [show h ++ a :: l = (h ++ [a]) ++ l by simp, show h.length + 1 = (h ++ [a]).length by simp, take_len]
@[simp] theorem take_len2 : (h ++ a :: b :: l).take (h.length + 2) = h ++ [a, b] := by
  rw [show h ++ a :: b :: l = (h ++ [a]) ++ b :: l by simp, show h.length + 2 = (h ++ [a]).length + 1 by simp, take_len1]; simp
@[simp] theorem at_len1 : (h ++ a :: b :: l)[h.length + 1]? = some b := by
  rw [show h ++ a :: b :: l = (h ++ [a]) ++ b :: l by simp, show h.length + 1 = (h ++ [a]).length by simp, at_len]
@[simp] theorem set_len1 {c : O} : (h ++ a :: b :: l).set (h.length + 1) c = h ++ a :: c :: l := by
  rw [show h ++ a :: b :: l = (h ++ [a]) ++ b :: l by simp, show h.length + 1 = (h ++ [a]).length by simp, set_len]; simp
end

def clr1 (n : Nat) (o : Option Vl) : Option Vl := match o with
  | some (.r k) => if k < n then some (.r k) else none
  | o => o
@[simp] theorem clr_nil (n : Nat) : clr n [] = [] := rfl
@[simp] theorem clr_cons (n : Nat) (o : Option Vl) (σ : Lo) : clr n (o :: σ) = clr1 n o :: clr n σ := rfl
@[simp] theorem clr1_d (n : Nat) (d : D) : clr1 n (some (.d d)) = some (.d d) := rfl
@[simp] theorem clr1_n (n : Nat) : clr1 n none = none := rfl
@[simp] theorem clr1_r (n k : Nat) : clr1 n (some (.r k)) = if k < n then some (.r k) else none := rfl

/-! ### calls -/
theorem callF_at {defs : List MDef} {n i : Nat} {md : MDef} {xs : List Vl} {h : Hs} (e : defs[i]? = some md) (hl : xs.length = md.np) : callF defs (n + 1) i xs h = fin md.keep h.length (md.body (callF defs n) (startL md.ns xs) h) := by
  show (match defs[i]? with
    | none => Res.bad
    | some md => runD md (callF defs n) xs h) = _
  rw [e]
  show runD md (callF defs n) xs h = _
  unfold runD
  rw [if_pos hl]
@[simp] theorem fin_ret (n0 : Nat) (d : D) (σ : Lo) (h : Hs) : fin false n0 (.ok (.ret (.d d)) σ h) = .ok (.d d) (h.take n0) := rfl
@[simp] theorem fin_nx (n0 : Nat) (keep : Bool) (σ : Lo) (h : Hs) : fin keep n0 (.ok .nx σ h) = .ok (.d .non) (h.take n0) := rfl
theorem fin_retR {n0 k : Nat} {σ : Lo} {h : Hs} {xs : List D} (e : h[k]? = some (.lst xs)) : fin false n0 (.ok (.ret (.r k)) σ h) = .ok (.d (.lv xs)) ((h.set k .dead).take n0) := by
  show (match toD (.r k) h with
    | some (d, h') => Res.ok (Vl.d d) (h'.take n0)
    | none => Res.bad) = _
  simp only [toD, e]

/-! ### loops -/
theorem forL_ind {g : SemG} {body : SemS} {R : RS → Prop} (P : Nat → Lo → Hs → Prop) : ∀ (ds : List D) (i : Nat) (σ : Lo) (h : Hs), P i σ h →
    (∀ j d σ h, ds[j]? = some d → P (i + j) σ h → ∃ σ1 h1, g (.d d) σ h = some (σ1, h1) ∧ match body σ1 h1 with
      | .ok .nx σ2 h2 => P (i + j + 1) (clr h.length σ2) (h2.take h.length)
      | .ok .cnt σ2 h2 => P (i + j + 1) (clr h.length σ2) (h2.take h.length)
      | .ok .brk σ2 h2 => R (.ok .nx (clr h.length σ2) (h2.take h.length))
      | .ok (.ret v) σ2 h2 => R (.ok (.ret v) σ2 h2)
      | _ => False) →
    (∀ σ h, P (i + ds.length) σ h → R (.ok .nx σ h)) → R (forL g body ds σ h)
  | [], i, σ, h, p, _, done => done σ h (by simpa using p)
  | d :: ds, i, σ, h, p, step, done => by
    obtain ⟨σ1, h1, e, q⟩ := step 0 d σ h rfl p
    unfold forL
    rw [e]
    dsimp only
    have st : ∀ j d' σ h, ds[j]? = some d' → P (i + 1 + j) σ h → _ := fun j d' σ h hj p => by
      have := step (j + 1) d' σ h (by simpa using hj) (by rw [show i + (j + 1) = i + 1 + j by omega]; exact p)
      rw [show i + (j + 1) + 1 = i + 1 + j + 1 by omega] at this
      exact this
    have dn : ∀ σ h, P (i + 1 + ds.length) σ h → R (.ok .nx σ h) := fun σ h p => done σ h (by rw [List.length_cons, show i + (ds.length + 1) = i + 1 + ds.length by omega]; exact p)
    cases e2 : body σ1 h1 with
    | bad => rw [e2] at q; exact q.elim
    | exc x σ2 h2 => rw [e2] at q; exact q.elim
    | ok f σ2 h2 =>
      rw [e2] at q
      cases f with
      | nx => exact forL_ind P ds (i + 1) _ _ q st dn
      | cnt => exact forL_ind P ds (i + 1) _ _ q st dn
      | brk => exact q
      | ret v => exact q
theorem for_ind {g : SemG} {body : SemS} {R : RS → Prop} {ds : List D} {σ : Lo} {h : Hs} (P : Nat → Lo → Hs → Prop) (p : P 0 σ h)
    (step : ∀ j d σ h, ds[j]? = some d → P j σ h → ∃ σ1 h1, g (.d d) σ h = some (σ1, h1) ∧ match body σ1 h1 with
      | .ok .nx σ2 h2 => P (j + 1) (clr h.length σ2) (h2.take h.length)
      | .ok .cnt σ2 h2 => P (j + 1) (clr h.length σ2) (h2.take h.length)
      | .ok .brk σ2 h2 => R (.ok .nx (clr h.length σ2) (h2.take h.length))
      | .ok (.ret v) σ2 h2 => R (.ok (.ret v) σ2 h2)
      | _ => False)
    (done : ∀ σ h, P ds.length σ h → R (.ok .nx σ h)) : R (forL g body ds σ h) :=
  forL_ind P ds 0 σ h p (fun j d σ h hj q => by
    have := step j d σ h hj (by rw [Nat.zero_add] at q; exact q)
    rw [Nat.zero_add]; exact this) fun σ h q => done σ h (by rw [Nat.zero_add] at q; exact q)
/-- a while with an invariant and turns left -/
theorem whL_ind {t : SemT} {body : SemS} {R : RS → Prop} (P : Nat → Lo → Hs → Prop)
    (step : ∀ n σ h, P n σ h → match t σ h with
      | .ok false h1 => R (.ok .nx σ h1)
      | .ok true h1 => ∃ m, n = m + 1 ∧ match body σ h1 with
        | .ok .nx σ2 h2 => P m (clr h.length σ2) (h2.take h.length)
        | .ok .cnt σ2 h2 => P m (clr h.length σ2) (h2.take h.length)
        | .ok .brk σ2 h2 => R (.ok .nx (clr h.length σ2) (h2.take h.length))
        | .ok (.ret v) σ2 h2 => R (.ok (.ret v) σ2 h2)
        | _ => False
      | _ => False) : ∀ (n : Nat) (σ : Lo) (h : Hs), P n σ h → ∃ r, whL t body (n + 1) σ h = r ∧ r ≠ .bad ∧ R r
  | n, σ, h, p => by
    have q := step n σ h p
    unfold whL
    cases e : t σ h with
    | bad => rw [e] at q; exact q.elim
    | exc x h1 => rw [e] at q; exact q.elim
    | ok b h1 =>
      rw [e] at q
      cases b with
      | false => exact ⟨_, rfl, by simp, q⟩
      | true =>
        obtain ⟨m, rfl, q⟩ := q
        simp only [sb_ok, if_true]
        cases e2 : body σ h1 with
        | bad => rw [e2] at q; exact q.elim
        | exc x σ2 h2 => rw [e2] at q; exact q.elim
        | ok f σ2 h2 =>
          rw [e2] at q
          cases f with
          | nx => exact whL_ind P step m _ _ q
          | cnt => exact whL_ind P step m _ _ q
          | brk => exact ⟨_, rfl, by simp, q⟩
          | ret v => exact ⟨_, rfl, by simp, q⟩
theorem wh_ind {t : SemT} {body : SemS} {R : RS → Prop} (P : Nat → Lo → Hs → Prop) {n : Nat} {σ : Lo} {h : Hs} (p : P n σ h) (hn : n < 1000000000)
    (step : ∀ n σ h, P n σ h → match t σ h with
      | .ok false h1 => R (.ok .nx σ h1)
      | .ok true h1 => ∃ m, n = m + 1 ∧ match body σ h1 with
        | .ok .nx σ2 h2 => P m (clr h.length σ2) (h2.take h.length)
        | .ok .cnt σ2 h2 => P m (clr h.length σ2) (h2.take h.length)
        | .ok .brk σ2 h2 => R (.ok .nx (clr h.length σ2) (h2.take h.length))
        | .ok (.ret v) σ2 h2 => R (.ok (.ret v) σ2 h2)
        | _ => False
      | _ => False) : R (sWh t body σ h) := by
  obtain ⟨r, e, hb, q⟩ := whL_ind P step n σ h p
  have hm : n + 1 ≤ most := Nat.le_trans (by omega : n + 1 ≤ 1000000000) (by unfold most; decide)
  rw [sWh_of e hb hm]
  exact q
theorem cmpL_ind {vs : List Nat} {g : SemG} {t : SemT} {f : SemE} {n0 : Nat} {σ : Lo} {R : Hs → Prop} (P : Nat → Hs → Prop) : ∀ (ds : List D) (i : Nat) (h : Hs), P i h →
    (∀ j d h, ds[j]? = some d → P (i + j) h → ∃ σ1 h1 b h2, g (.d d) (wipeL σ vs) h = some (σ1, h1) ∧ t σ1 h1 = .ok b h2 ∧ if b = true then ∃ y h3 h4, f σ1 h2 = .ok y h3 ∧ cmpAdd n0 y h3 = some h4 ∧ P (i + j + 1) h4 else P (i + j + 1) (h2.take (n0 + 1))) →
    (∀ h, P (i + ds.length) h → R h) → ∃ h', cmpL vs g t f n0 ds σ h = some h' ∧ R h'
  | [], i, h, p, _, done => ⟨h, rfl, done h (by simpa using p)⟩
  | d :: ds, i, h, p, step, done => by
    obtain ⟨σ1, h1, b, h2, e1, e2, q⟩ := step 0 d h rfl p
    have st : ∀ j d' h, ds[j]? = some d' → P (i + 1 + j) h → _ := fun j d' h hj p => by
      have := step (j + 1) d' h (by simpa using hj) (by rw [show i + (j + 1) = i + 1 + j by omega]; exact p)
      rw [show i + (j + 1) + 1 = i + 1 + j + 1 by omega] at this
      exact this
    have dn : ∀ h, P (i + 1 + ds.length) h → R h := fun h p => done h (by rw [List.length_cons, show i + (ds.length + 1) = i + 1 + ds.length by omega]; exact p)
    unfold cmpL
    rw [e1]
    dsimp only
    rw [e2]
    dsimp only
    cases b with
    | true =>
      rw [if_pos rfl] at q ⊢
      obtain ⟨y, h3, h4, e3, e4, q⟩ := q
      rw [e3]
      dsimp only
      rw [e4]
      exact cmpL_ind P ds (i + 1) h4 q st dn
    | false =>
      rw [if_neg Bool.false_ne_true] at q ⊢
      exact cmpL_ind P ds (i + 1) _ q st dn
/-- one more in the list that is made -/
theorem cmpAdd_d {h : Hs} {acc : List D} {d : D} (hz : acc.length < sizeLine) : cmpAdd h.length (.d d) (h ++ [.lst acc]) = some (h ++ [.lst (acc ++ [d])]) := by
  unfold cmpAdd
  simp only [toD_d, at_len, if_pos hz, set_len]
  rw [List.take_of_length_le (by simp)]
/-- a comprehension of values that change nothing -/
theorem cmpL_map {vs : List Nat} {g : SemG} {t : SemT} {f : SemE} {σ : Lo} {h : Hs} {ds : List D} {keep : D → Bool} {k : D → D} (hz : ds.length < sizeLine)
    (step : ∀ d h', d ∈ ds → ∃ σ1, g (.d d) (wipeL σ vs) h' = some (σ1, h') ∧ t σ1 h' = .ok (keep d) h' ∧ (keep d = true → f σ1 h' = .ok (.d (k d)) h')) :
    cmpL vs g t f h.length ds σ (h ++ [.lst []]) = some (h ++ [.lst ((ds.filter keep).map k)]) := by
  have key : ∃ h', cmpL vs g t f h.length ds σ (h ++ [.lst []]) = some h' ∧ h' = h ++ [.lst ((ds.filter keep).map k)] := by
    refine cmpL_ind (fun i h' => h' = h ++ [.lst (((ds.take i).filter keep).map k)]) ds 0 _ (by simp) (fun j d h' hj p => ?_) (fun h' p => by rw [p, Nat.zero_add, List.take_length])
    rw [Nat.zero_add] at p ⊢
    subst p
    obtain ⟨σ1, e1, e2, e3⟩ := step d (h ++ [.lst (((ds.take j).filter keep).map k)]) (List.mem_of_getElem? hj)
    have ej : ds.take (j + 1) = ds.take j ++ [d] := by
      rw [List.take_add_one, hj]; rfl
    refine ⟨σ1, _, keep d, _, e1, e2, ?_⟩
    cases q : keep d with
    | true =>
      rw [if_pos rfl]
      refine ⟨_, _, _, e3 q, cmpAdd_d ?_, ?_⟩
      · rw [List.length_map]
        refine Nat.lt_of_le_of_lt (List.length_filter_le _ _) (Nat.lt_of_le_of_lt ?_ hz)
        rw [List.length_take]; omega
      · rw [ej, List.filter_append, List.map_append, List.filter_cons, if_pos q]; rfl
    | false =>
      rw [if_neg Bool.false_ne_true, ej, List.filter_append, List.filter_cons, if_neg (by simp [q])]
      rw [List.take_of_length_le (by simp)]
      simp
  obtain ⟨h', e, rfl⟩ := key
  exact e

/-! ### == of data -/
def fl0 : D → Prop
  | .non => True
  | .bl _ => True
  | .int _ => True
  | .str x => PyData.strOk x = true
  | _ => False
/-- data of depth n at most -/
def Sm : Nat → D → Prop
  | 0, d => fl0 d
  | n + 1, .tup xs => ∀ x ∈ xs, Sm n x
  | n + 1, .lv xs => ∀ x ∈ xs, Sm n x
  | _ + 1, d => fl0 d
theorem all_lay : ∀ {xs : List D}, (∀ x ∈ xs, x.pd.canLay0 = true) → PyData.canLayAll0 (D.pds xs) = true
  | [], _ => rfl
  | x :: xs, h => by
    rw [D.pds, PyData.canLayAll0, h x List.mem_cons_self, all_lay fun y hy => h y (List.mem_cons_of_mem _ hy)]; rfl
theorem all_dep {n : Nat} : ∀ {xs : List D}, (∀ x ∈ xs, x.pd.depth ≤ n) → PyData.depthAll (D.pds xs) ≤ n
  | [], _ => Nat.zero_le _
  | x :: xs, h => by
    rw [D.pds, PyData.depthAll]
    exact Nat.max_le.mpr ⟨h x List.mem_cons_self, all_dep fun y hy => h y (List.mem_cons_of_mem _ hy)⟩
theorem all_eqv : ∀ {xs : List D}, (∀ x ∈ xs, PyData.eqv x.pd x.pd = true) → PyData.eqvAll (D.pds xs) (D.pds xs) = true
  | [], _ => rfl
  | x :: xs, h => by
    rw [D.pds, PyData.eqvAll, h x List.mem_cons_self, all_eqv fun y hy => h y (List.mem_cons_of_mem _ hy)]; rfl
theorem fl0_ok {d : D} (h : fl0 d) : d.pd.canLay0 = true ∧ d.pd.depth = 0 ∧ PyData.eqv d.pd d.pd = true := by
  cases d with
  | non => exact ⟨by simp [D.pd, PyData.canLay0], by simp [D.pd, PyData.depth], by simp [D.pd, PyData.eqv]⟩
  | bl b => exact ⟨by simp [D.pd, PyData.canLay0], by simp [D.pd, PyData.depth], by simp [D.pd, PyData.eqv]⟩
  | int i => exact ⟨by simp [D.pd, PyData.canLay0], by simp [D.pd, PyData.depth], by simp [D.pd, PyData.eqv]⟩
  | str x => exact ⟨by simp only [D.pd, PyData.canLay0]; exact h, by simp [D.pd, PyData.depth], by simp [D.pd, PyData.eqv]⟩
  | _ => exact h.elim
theorem Sm.ok : ∀ {n : Nat} {d : D}, Sm n d → d.pd.canLay0 = true ∧ d.pd.depth ≤ n ∧ PyData.eqv d.pd d.pd = true
  | 0, d, h => let ⟨a, b, c⟩ := fl0_ok h; ⟨a, Nat.le_of_eq b, c⟩
  | n + 1, .tup xs, h => by
    simp only [D.pd, PyData.canLay0, PyData.depth, PyData.eqv]
    exact ⟨all_lay fun x hx => (Sm.ok (h x hx)).1, Nat.succ_le_succ (all_dep fun x hx => (Sm.ok (h x hx)).2.1), all_eqv fun x hx => (Sm.ok (h x hx)).2.2⟩
  | n + 1, .lv xs, h => by
    simp only [D.pd, PyData.canLay0, PyData.depth, PyData.eqv]
    exact ⟨all_lay fun x hx => (Sm.ok (h x hx)).1, Nat.succ_le_succ (all_dep fun x hx => (Sm.ok (h x hx)).2.1), all_eqv fun x hx => (Sm.ok (h x hx)).2.2⟩
  | n + 1, .non, h => let ⟨a, b, c⟩ := fl0_ok (d := .non) h; ⟨a, by omega, c⟩
  | n + 1, .bl i, h => let ⟨a, b, c⟩ := fl0_ok (d := .bl i) h; ⟨a, by omega, c⟩
  | n + 1, .int i, h => let ⟨a, b, c⟩ := fl0_ok (d := .int i) h; ⟨a, by omega, c⟩
  | n + 1, .str i, h => let ⟨a, b, c⟩ := fl0_ok (d := .str i) h; ⟨a, by omega, c⟩
  | n + 1, .scr i, h => h.elim
  | n + 1, .dk i, h => h.elim
  | n + 1, .dt i, h => h.elim
  | n + 1, .ins C i, h => h.elim
theorem Sm.shp {n : Nat} {d : D} (h : Sm n d) (hn : n ≤ 64) : shp d = true := by
  unfold Mi.shp SeqAt.shaped
  rw [h.ok.1, decide_eq_true (Nat.le_trans h.ok.2.1 hn)]; rfl
theorem o_eqS {n m : Nat} {a b : D} {h : Hs} (ha : Sm n a) (hb : Sm m b) (hn : n ≤ 64) (hm : m ≤ 64) : oEq (.d a) (.d b) h = some (.d (.bl (PyData.eqv a.pd b.pd)), h) := by
  show (deq a b).map _ = _
  unfold deq
  rw [ha.shp hn, hb.shp hm]; rfl
theorem o_neS {n m : Nat} {a b : D} {h : Hs} (ha : Sm n a) (hb : Sm m b) (hn : n ≤ 64) (hm : m ≤ 64) : oNe (.d a) (.d b) h = some (.d (.bl (!PyData.eqv a.pd b.pd)), h) := by
  show (deq a b).map _ = _
  unfold deq
  rw [ha.shp hn, hb.shp hm]; rfl
theorem o_eqR {n : Nat} {a : D} {h : Hs} (ha : Sm n a) (hn : n ≤ 64) : oEq (.d a) (.d a) h = some (.d (.bl true), h) := by rw [o_eqS ha ha hn hn, ha.ok.2.2]
theorem o_neR {n : Nat} {a : D} {h : Hs} (ha : Sm n a) (hn : n ≤ 64) : oNe (.d a) (.d a) h = some (.d (.bl false), h) := by rw [o_neS ha ha hn hn, ha.ok.2.2]; rfl
@[simp] theorem o_eqI (i j : Int) (h : Hs) : oEq (.d (.int i)) (.d (.int j)) h = some (.d (.bl (decide (i = j))), h) := by
  rw [o_eqS (a := .int i) (b := .int j) (n := 0) (m := 0) trivial trivial (by omega) (by omega)]
  simp only [D.pd, PyData.eqv]
  rfl
@[simp] theorem o_neI (i j : Int) (h : Hs) : oNe (.d (.int i)) (.d (.int j)) h = some (.d (.bl (!decide (i = j))), h) := by
  rw [o_neS (a := .int i) (b := .int j) (n := 0) (m := 0) trivial trivial (by omega) (by omega)]
  simp only [D.pd, PyData.eqv]
  rfl
def iT (xs : List Int) : D := .tup (xs.map D.int)
theorem sm_iT (xs : List Int) : Sm 1 (iT xs) := fun x hx => by
  obtain ⟨i, _, rfl⟩ := List.mem_map.mp hx
  exact trivial
theorem eqv_iT : ∀ xs ys : List Int, PyData.eqvAll (D.pds (xs.map D.int)) (D.pds (ys.map D.int)) = decide (xs = ys)
  | [], [] => by simp [D.pds, PyData.eqvAll]
  | [], _ :: _ => by simp [D.pds, PyData.eqvAll]
  | _ :: _, [] => by simp [D.pds, PyData.eqvAll]
  | x :: xs, y :: ys => by
    have := eqv_iT xs ys
    rw [List.map_cons, List.map_cons, D.pds, D.pds, PyData.eqvAll, this]
    simp only [D.pd, PyData.eqv]
    by_cases e : x = y <;> simp [e]
theorem o_eqT (xs ys : List Int) (h : Hs) : oEq (.d (iT xs)) (.d (iT ys)) h = some (.d (.bl (decide (xs = ys))), h) := by
  rw [o_eqS (sm_iT xs) (sm_iT ys) (by omega) (by omega)]
  simp only [iT, D.pd, PyData.eqv, eqv_iT]
theorem o_neT (xs ys : List Int) (h : Hs) : oNe (.d (iT xs)) (.d (iT ys)) h = some (.d (.bl (!decide (xs = ys))), h) := by
  rw [o_neS (sm_iT xs) (sm_iT ys) (by omega) (by omega)]
  simp only [iT, D.pd, PyData.eqv, eqv_iT]
end Mi

/-! Mi13: == and != at any depth, own __eq__ within -/
namespace GB
open PySem PySem.SeqAt GQ
open AutoSeq1 (wpAny_loadPart')
open MeetsSeq MeetsSeq2 MeetsSeq3 SeqRoads2
section
variable {prog : Program} {w : World} {A : Around} {R : Result → Shared → Prop} {l b : Addr} {N M : Nat} {bs : Nat → Bool} {J : Shared → Prop}
/-- what is known of two lists that are compared, item by item, up to the first unlike pair -/
def Both (prog : Program) (w : World) (A : Around) (E : Value → Shared → Prop) (l b : Addr) (N : Nat) (bs : Nat → Bool) (J : Shared → Prop) : Prop :=
  ∀ s, J s → ∃ (p q : Array Value) (n k : Nat), s.heap.get? l = some { cls := .type "list", data := .seq p n } ∧ s.heap.get? b = some { cls := .type "list", data := .seq q k } ∧ p.size = N ∧ q.size = N ∧
    ∀ i (h1 : i < p.size) (h2 : i < q.size), (∀ j, j < i → bs j = true) → wpAny (model prog w) A.in1 (eqBool p[i] q[i]) (fun r s' => r = bs i ∧ J s') E s
theorem all_true (h : ∀ j, j < N → bs j = true) : (List.range N).all bs = true := List.all_eq_true.mpr fun x hx => h x (List.mem_range.mp hx)
theorem all_false {i : Nat} (hi : i < N) (h : bs i = false) : (List.range N).all bs = false := by
  rw [Bool.eq_false_iff]
  intro z
  rw [List.all_eq_true.mp z i (List.mem_range.mpr hi)] at h
  cases h
theorem lst_eqLoop (hl : Both prog w A (fun e s' => R (.error e) s') l b N bs J) (fin : ∀ s, J s → R (.ok (.ret (.bool ((List.range N).all bs)))) s) : ∀ (k i : Nat), N - i = k → i ≤ N → (∀ j, j < i → bs j = true) → ∀ s, J s →
    wpAny (model prog w) A.in1 (Builtin.«list.__eq__.loop» ⟨[.ref l, .ref b, rawInt i, rawInt 2], []⟩) (FinOf prog w A R) (fun e s' => R (.error e) s') s
  | 0, i, hk, hi, ht, s, h => by
    obtain ⟨p, q, n, n2, g1, g2, z1, z2, _⟩ := hl _ h
    have ei : i = N := by omega
    subst ei
    have hR := fin s h
    rw [all_true ht] at hR
    obtain ⟨h0, gs, dd, tk, oss⟩ := s
    wp_walk using wpAny_loadPart' g1, wpAny_loadPart' g2
    have e1 : p[((i : Nat) : Int).toNat]? = none := by simp <;> omega
    have e2 : q[((i : Nat) : Int).toNat]? = none := by simp <;> omega
    rw [e1, e2]
    wp_walk using wpAny_loadPart' g1, wpAny_loadPart' g2
    show R (.ok (.ret (.bool (p.size == q.size)))) _
    rw [z1, z2, beq_self_eq_true]
    exact hR
  | k + 1, i, hk, hi, ht, s, h => by
    obtain ⟨p, q, n, n2, g1, g2, z1, z2, turn⟩ := hl _ h
    have h1 : i < p.size := by omega
    have h2 : i < q.size := by omega
    have tt := turn i h1 h2 ht
    obtain ⟨h0, gs, dd, tk, oss⟩ := s
    wp_walk using wpAny_loadPart' g1, wpAny_loadPart' g2
    have e1 : p[((i : Nat) : Int).toNat]? = some p[i] := by simp [h1]
    have e2 : q[((i : Nat) : Int).toNat]? = some q[i] := by simp [h2]
    have ec : ((i : Int) + 1) = ((i + 1 : Nat) : Int) := by omega
    rw [e1, e2]
    refine wpAny_bind (wpAny_mono tt (fun r s2 q2 => ?_) fun _ _ x => x)
    obtain ⟨rfl, q2⟩ := q2
    cases hb : bs i with
    | true =>
      have hrec := lst_eqLoop hl fin k (i + 1) (by omega) (by omega) (fun j hj => by
        rcases Nat.lt_succ_iff_lt_or_eq.mp hj with hj | rfl
        · exact ht j hj
        · exact hb) s2 q2
      obtain ⟨hp2, gs2, d2, tk2, os2⟩ := s2
      wp_walk
      rw [ec]
      exact ⟨plainId_quiet plain_eq_loop _, codeAny_builtin entry_eq_loop (by rw [Around.under_plainId plain_eq_loop _]; exact hrec)⟩
    | false =>
      have hR := fin s2 q2
      rw [all_false (by omega) hb] at hR
      obtain ⟨p', q', n', n2', g1', g2', z1', z2', _⟩ := hl _ q2
      obtain ⟨hp2, gs2, d2, tk2, os2⟩ := s2
      have f1 : p'[((i : Nat) : Int).toNat]? = some (p'[i]'(by omega)) := by simp <;> omega
      have f2 : q'[((i : Nat) : Int).toNat]? = some (q'[i]'(by omega)) := by simp <;> omega
      wp_walk using wpAny_loadPart' g1', wpAny_loadPart' g2'
      rw [f1, f2]
      wp_walk
      simpa using hR
theorem lst_neLoop (hl : Both prog w A (fun e s' => R (.error e) s') l b N bs J) (fin : ∀ s, J s → R (.ok (.ret (.bool (!(List.range N).all bs)))) s) : ∀ (k i : Nat), N - i = k → i ≤ N → (∀ j, j < i → bs j = true) → ∀ s, J s →
    wpAny (model prog w) A.in1 (Builtin.«list.__eq__.loop» ⟨[.ref l, .ref b, rawInt i, rawInt 3], []⟩) (FinOf prog w A R) (fun e s' => R (.error e) s') s
  | 0, i, hk, hi, ht, s, h => by
    obtain ⟨p, q, n, n2, g1, g2, z1, z2, _⟩ := hl _ h
    have ei : i = N := by omega
    subst ei
    have hR := fin s h
    rw [all_true ht] at hR
    obtain ⟨h0, gs, dd, tk, oss⟩ := s
    wp_walk using wpAny_loadPart' g1, wpAny_loadPart' g2
    have e1 : p[((i : Nat) : Int).toNat]? = none := by simp <;> omega
    have e2 : q[((i : Nat) : Int).toNat]? = none := by simp <;> omega
    rw [e1, e2]
    wp_walk using wpAny_loadPart' g1, wpAny_loadPart' g2
    show R (.ok (.ret (.bool (p.size != q.size)))) _
    rw [z1, z2, bne_self_eq_false]
    exact hR
  | k + 1, i, hk, hi, ht, s, h => by
    obtain ⟨p, q, n, n2, g1, g2, z1, z2, turn⟩ := hl _ h
    have h1 : i < p.size := by omega
    have h2 : i < q.size := by omega
    have tt := turn i h1 h2 ht
    obtain ⟨h0, gs, dd, tk, oss⟩ := s
    wp_walk using wpAny_loadPart' g1, wpAny_loadPart' g2
    have e1 : p[((i : Nat) : Int).toNat]? = some p[i] := by simp [h1]
    have e2 : q[((i : Nat) : Int).toNat]? = some q[i] := by simp [h2]
    have ec : ((i : Int) + 1) = ((i + 1 : Nat) : Int) := by omega
    rw [e1, e2]
    refine wpAny_bind (wpAny_mono tt (fun r s2 q2 => ?_) fun _ _ x => x)
    obtain ⟨rfl, q2⟩ := q2
    cases hb : bs i with
    | true =>
      have hrec := lst_neLoop hl fin k (i + 1) (by omega) (by omega) (fun j hj => by
        rcases Nat.lt_succ_iff_lt_or_eq.mp hj with hj | rfl
        · exact ht j hj
        · exact hb) s2 q2
      obtain ⟨hp2, gs2, d2, tk2, os2⟩ := s2
      wp_walk
      rw [ec]
      exact ⟨plainId_quiet plain_eq_loop _, codeAny_builtin entry_eq_loop (by rw [Around.under_plainId plain_eq_loop _]; exact hrec)⟩
    | false =>
      have hR := fin s2 q2
      rw [all_false (by omega) hb] at hR
      obtain ⟨p', q', n', n2', g1', g2', z1', z2', _⟩ := hl _ q2
      obtain ⟨hp2, gs2, d2, tk2, os2⟩ := s2
      have f1 : p'[((i : Nat) : Int).toNat]? = some (p'[i]'(by omega)) := by simp <;> omega
      have f2 : q'[((i : Nat) : Int).toNat]? = some (q'[i]'(by omega)) := by simp <;> omega
      wp_walk using wpAny_loadPart' g1', wpAny_loadPart' g2'
      rw [f1, f2]
      wp_walk
      simpa using hR
theorem lst_eqB (hl : Both prog w A (fun e s' => R (.error e) s') l b N bs J) (fin : ∀ s, J s → R (.ok (.ret (.bool ((List.range N).all bs)))) s) {s : Shared} (h : J s) :
    wpAny (model prog w) A.in1 (Builtin.«list.__eq__» ⟨[.ref l, .ref b], []⟩) (FinOf prog w A R) (fun e s' => R (.error e) s') s := by
  obtain ⟨p, q, n, n2, g1, g2, z1, z2, _⟩ := hl _ h
  have hrec := lst_eqLoop (A := A) (R := R) hl fin _ 0 rfl (Nat.zero_le _) (fun j hj => absurd hj (Nat.not_lt_zero _)) s h
  obtain ⟨h0, gs, dd, tk, oss⟩ := s
  have f3 := AutoSeq1.sub_list_list
  have ne : ¬ (p.size != q.size) = true := by simp [z1, z2]
  wp_walk using wpAny_loadPart' g1, wpAny_loadPart' g2
  exact ⟨plainId_quiet plain_eq_loop _, codeAny_builtin entry_eq_loop (by rw [Around.under_plainId plain_eq_loop _]; exact hrec)⟩
theorem lst_neB (hl : Both prog w A (fun e s' => R (.error e) s') l b N bs J) (fin : ∀ s, J s → R (.ok (.ret (.bool (!(List.range N).all bs)))) s) {s : Shared} (h : J s) :
    wpAny (model prog w) A.in1 (Builtin.«list.__ne__» ⟨[.ref l, .ref b], []⟩) (FinOf prog w A R) (fun e s' => R (.error e) s') s := by
  obtain ⟨p, q, n, n2, g1, g2, z1, z2, _⟩ := hl _ h
  have hrec := lst_neLoop (A := A) (R := R) hl fin _ 0 rfl (Nat.zero_le _) (fun j hj => absurd hj (Nat.not_lt_zero _)) s h
  obtain ⟨h0, gs, dd, tk, oss⟩ := s
  have f3 := AutoSeq1.sub_list_list
  have ne : ¬ (p.size != q.size) = true := by simp [z1, z2]
  wp_walk using wpAny_loadPart' g1, wpAny_loadPart' g2
  exact ⟨plainId_quiet plain_eq_loop _, codeAny_builtin entry_eq_loop (by rw [Around.under_plainId plain_eq_loop _]; exact hrec)⟩
end
section
variable {prog : Program} {w : World} {A : Around} {R : Result → Shared → Prop} {l b : Addr} {bs : Nat → Bool} {J : Shared → Prop}
theorem tup_eqB (p q : Array Value) (n n2 : Nat) (dd dd2 : Option Addr) (sl sl2 : Array (Option Value))
    (turn : ∀ i (h1 : i < p.size) (h2 : i < q.size), (∀ j, j < i → bs j = true) → ∀ s, J s → wpAny (model prog w) A.in1 (eqBool p[i] q[i]) (fun r s' => r = bs i ∧ J s') (fun e s' => R (.error e) s') s)
    (fin : ∀ s, J s → R (.ok (.ret (.bool ((List.range (min p.size q.size)).all bs && p.size == q.size)))) s) {s : Shared} (g1 : s.heap.get? l = some { cls := .type "tuple", dict := dd, data := .seq p n, slots := sl })
    (g2 : s.heap.get? b = some { cls := .type "tuple", dict := dd2, data := .seq q n2, slots := sl2 }) (h : J s) :
    wpAny (model prog w) A.in1 (Builtin.«tuple.__eq__» ⟨[.ref l, .ref b], []⟩) (FinOf prog w A R) (fun e s' => R (.error e) s') s := by
  have f2 := AutoSeq1.sub_tuple_tuple
  have hZ : (p.toList.zip q.toList).length = min p.size q.size := by simp
  have hJ := h
  obtain ⟨h0, gs, dr, tk, oss⟩ := s
  wp_walk using wpAny_loadPart' g1, wpAny_loadPart' g2, wpAny_forIn_list _ (fun rest c s' => c.1 = none ∧ ∃ i, rest = (p.toList.zip q.toList).drop i ∧ i ≤ min p.size q.size ∧ (∀ j, j < i → bs j = true) ∧ J s') _
  case turn =>
    rintro ⟨y, x⟩ rest c s' ⟨hc, i, hz, hi, ht, hI⟩
    have hlt : i < (p.toList.zip q.toList).length := (Nat.lt_or_ge i _).resolve_right fun z => by rw [List.drop_of_length_le z] at hz; cases hz
    have hm : i < min p.size q.size := hZ ▸ hlt
    have h1 : i < p.size := by omega
    have h2 : i < q.size := by omega
    rw [List.drop_eq_getElem_cons hlt] at hz
    injection hz with e1 e2
    have hy : y = p[i] := by simpa using congrArg Prod.fst e1
    have hx : x = q[i] := by simpa using congrArg Prod.snd e1
    subst hy hx
    refine wpAny_bind (wpAny_mono (turn i h1 h2 ht s' hI) (fun r s2 q2 => ?_) fun _ _ x => x)
    obtain ⟨rfl, q2⟩ := q2
    cases hb : bs i with
    | true =>
      wp_walk
      refine ⟨rfl, i + 1, e2, hm, fun j hj => ?_, q2⟩
      rcases Nat.lt_succ_iff_lt_or_eq.mp hj with hj | rfl
      · exact ht j hj
      · exact hb
    | false =>
      have hR := fin s2 q2
      rw [all_false hm hb, Bool.false_and] at hR
      wp_walk
      simpa using hR
  case fin =>
    rintro ⟨c1, c2⟩ s' ⟨hc, i, hz, hi, ht, hI⟩
    simp only at hc
    subst hc
    have hge : min p.size q.size ≤ i := (Nat.lt_or_ge i (p.toList.zip q.toList).length).elim (fun z => by rw [List.drop_eq_getElem_cons z] at hz; cases hz) fun z => hZ ▸ z
    have ei : i = min p.size q.size := by omega
    subst ei
    have hR := fin s' hI
    rw [all_true ht, Bool.true_and] at hR
    wp_walk
    simpa [Builtin.Tuple.tupleCompareSizes, bne] using hR
  case h => exact ⟨rfl, 0, rfl, Nat.zero_le _, fun j hj => absurd hj (Nat.not_lt_zero _), hJ⟩
end
section
variable {prog : Program} {w : World} {A : Around} {R : Result → Shared → Prop} {l b : Addr} {bs : Nat → Bool} {J : Shared → Prop}
theorem tup_neB (p q : Array Value) (n n2 : Nat) (dd dd2 : Option Addr) (sl sl2 : Array (Option Value))
    (turn : ∀ i (h1 : i < p.size) (h2 : i < q.size), (∀ j, j < i → bs j = true) → ∀ s, J s → wpAny (model prog w) A.in1 (eqBool p[i] q[i]) (fun r s' => r = bs i ∧ J s') (fun e s' => R (.error e) s') s)
    (fin : ∀ s, J s → R (.ok (.ret (.bool !((List.range (min p.size q.size)).all bs && p.size == q.size)))) s) {s : Shared} (g1 : s.heap.get? l = some { cls := .type "tuple", dict := dd, data := .seq p n, slots := sl })
    (g2 : s.heap.get? b = some { cls := .type "tuple", dict := dd2, data := .seq q n2, slots := sl2 }) (h : J s) :
    wpAny (model prog w) A.in1 (Builtin.«tuple.__ne__» ⟨[.ref l, .ref b], []⟩) (FinOf prog w A R) (fun e s' => R (.error e) s') s := by
  have f2 := AutoSeq1.sub_tuple_tuple
  have hZ : (p.toList.zip q.toList).length = min p.size q.size := by simp
  have hJ := h
  obtain ⟨h0, gs, dr, tk, oss⟩ := s
  wp_walk using wpAny_loadPart' g1, wpAny_loadPart' g2, wpAny_forIn_list _ (fun rest c s' => c.1 = none ∧ ∃ i, rest = (p.toList.zip q.toList).drop i ∧ i ≤ min p.size q.size ∧ (∀ j, j < i → bs j = true) ∧ J s') _
  case turn =>
    rintro ⟨y, x⟩ rest c s' ⟨hc, i, hz, hi, ht, hI⟩
    have hlt : i < (p.toList.zip q.toList).length := (Nat.lt_or_ge i _).resolve_right fun z => by rw [List.drop_of_length_le z] at hz; cases hz
    have hm : i < min p.size q.size := hZ ▸ hlt
    have h1 : i < p.size := by omega
    have h2 : i < q.size := by omega
    rw [List.drop_eq_getElem_cons hlt] at hz
    injection hz with e1 e2
    have hy : y = p[i] := by simpa using congrArg Prod.fst e1
    have hx : x = q[i] := by simpa using congrArg Prod.snd e1
    subst hy hx
    refine wpAny_bind (wpAny_mono (turn i h1 h2 ht s' hI) (fun r s2 q2 => ?_) fun _ _ x => x)
    obtain ⟨rfl, q2⟩ := q2
    cases hb : bs i with
    | true =>
      wp_walk
      refine ⟨rfl, i + 1, e2, hm, fun j hj => ?_, q2⟩
      rcases Nat.lt_succ_iff_lt_or_eq.mp hj with hj | rfl
      · exact ht j hj
      · exact hb
    | false =>
      have hR := fin s2 q2
      rw [all_false hm hb, Bool.false_and] at hR
      wp_walk
      simpa using hR
  case fin =>
    rintro ⟨c1, c2⟩ s' ⟨hc, i, hz, hi, ht, hI⟩
    simp only at hc
    subst hc
    have hge : min p.size q.size ≤ i := (Nat.lt_or_ge i (p.toList.zip q.toList).length).elim (fun z => by rw [List.drop_eq_getElem_cons z] at hz; cases hz) fun z => hZ ▸ z
    have ei : i = min p.size q.size := by omega
    subst ei
    have hR := fin s' hI
    rw [all_true ht, Bool.true_and] at hR
    wp_walk
    simpa [Builtin.Tuple.tupleCompareSizes, bne] using hR
  case h => exact ⟨rfl, 0, rfl, Nat.zero_le _, fun j hj => absurd hj (Nat.not_lt_zero _), hJ⟩
end
end GB

/-! Mi14: == and != of data that holds instances with an own __eq__ -/
namespace Mi
open PySem PySem.Spec L2

/-! ### might two values be one -/
mutual
def same : D → D → Bool
  | .non, .non => true
  | .bl a, .bl b => a == b
  | .int a, .int b => a == b
  | .str a, .str b => a == b
  | .tup xs, .tup ys => sames xs ys
  | .lv xs, .lv ys => sames xs ys
  | .ins _ fs, .ins _ gs => samef fs gs
  | x, y => !flD x && !flD y
def sames : List D → List D → Bool
  | [], [] => true
  | x :: xs, y :: ys => same x y && sames xs ys
  | _, _ => false
def samef : List (Nat × D) → List (Nat × D) → Bool
  | [], [] => true
  | (n, x) :: xs, (m, y) :: ys => n == m && (same x y && samef xs ys)
  | _, _ => false
end
theorem same_test : same (.tup [.int 1, .ins 3 [(1, .int 2)]]) (.tup [.int 1, .ins 3 [(1, .int 3)]]) = false := by decide
section
variable {X : Cx} {ct : CT} {pins : List (Addr × Obj)} {σ : L2.St} {H : Hp} {s : Shared} {S : Addr → Prop}
theorem lst_inj {a : Addr} {xs ys : List V} (h : H a = some (.lst xs)) (h' : H a = some (.lst ys)) : xs = ys := by
  rw [h] at h'; cases h'; rfl
theorem tup_inj (I : Inv X pins σ H s) {a : Addr} {xs ys : List V} (h : H a = some (.tup xs) ∧ S a) (h' : H a = some (.tup ys) ∧ S a) : xs = ys :=
  I.tuple_inj (.inl (.inl h.1)) (.inl (.inl h'.1))
mutual
theorem same_of (I : Inv X pins σ H s) : ∀ {x : D} {v : V}, DR X.K ct S H x v → ∀ {y : D}, DR X.K ct S H y v → same x y = true
  | _, _, .non, _, r => by cases r; rfl
  | _, _, .bl b, _, r => by cases r; simp [same]
  | _, _, .int b, _, r => by cases r; simp [same]
  | _, _, .str b, _, r => by cases r; simp [same]
  | _, _, .tup h t, _, r => by
    cases r with
    | tup h' t' =>
      have e := tup_inj I h h'
      subst e
      simp only [same]
      exact sames_of I t t'
    | _ => simp [same, flD]
  | _, _, .lv h q t, _, r => by
    cases r with
    | lv h' _ t' =>
      have e := lst_inj h h'
      subst e
      simp only [same]
      exact sames_of I t t'
    | _ => simp [same, flD]
  | _, _, .scr h t, _, r => by cases r <;> simp [same, flD]
  | _, _, .dk h _ t, _, r => by cases r <;> simp [same, flD]
  | _, _, .dt h _ t, _, r => by cases r <;> simp [same, flD]
  | _, _, .ins h _ t, _, r => by
    cases r with
    | ins h' _ t' =>
      rw [h] at h'
      injection h' with h'
      injection h' with _ _ e
      subst e
      simp only [same]
      exact samef_of I t t'
    | _ => simp [same, flD]
  | _, _, .exb _ _, _, r => by cases r <;> simp [same, flD]
  | _, _, .exd _ _ _ _ _, _, r => by cases r <;> simp [same, flD]
  | _, _, .exq _, _, r => by cases r <;> simp [same, flD]
  | _, _, .exr _ _ _ _, _, r => by cases r <;> simp [same, flD]
theorem sames_of (I : Inv X pins σ H s) : ∀ {x : List D} {v : List V}, DRs X.K ct S H x v → ∀ {y : List D}, DRs X.K ct S H y v → sames x y = true
  | _, _, .nil, _, r => by cases r; rfl
  | _, _, .cons q t, _, r => by
    cases r with
    | cons q' t' => simp only [sames, same_of I q q', sames_of I t t']; rfl
theorem samef_of (I : Inv X pins σ H s) : ∀ {x : List (Nat × D)} {v : List (Str × V)}, DRf X.K ct S H x v → ∀ {y : List (Nat × D)}, DRf X.K ct S H y v → samef x y = true
  | _, _, .nil, _, r => by cases r; rfl
  | _, _, .cons (n := k) (d := d1) (v := v1) q t, y, r => by
    generalize hh : (ct.nm k, v1) = z at r
    cases r with
    | cons q' t' =>
      injection hh with e1 e2
      have := ct.inj _ _ e1
      subst this e2
      simp only [samef, same_of I q q', samef_of I t t', beq_self_eq_true]; rfl
end
mutual
theorem fun_of (I : Inv X pins σ H s) : ∀ {x : D} {v : V}, DR X.K ct S H x v → ∀ {y : D}, DR X.K ct S H y v → x.pd.canLay0 = true → y.pd.canLay0 = true → x = y
  | _, _, .non, _, r, _, _ => by cases r; rfl
  | _, _, .bl b, _, r, _, _ => by cases r; rfl
  | _, _, .int b, _, r, _, _ => by cases r; rfl
  | _, _, .str b, _, r, _, _ => by cases r; rfl
  | _, _, .tup h t, _, r, c, c' => by
    cases r with
    | tup h' t' =>
      have e := tup_inj I h h'
      subst e
      simp only [D.pd, PyData.canLay0] at c c'
      rw [funs_of I t t' c c']
    | lv h' _ _ =>
      exfalso
      obtain ⟨its, _, ⟨o, e, hc, _⟩, _⟩ := I.tuple (.inl (.inl h.1))
      obtain ⟨_, n, _, e', _⟩ := I.lst h'
      rw [e] at e'
      have z := congrArg (Option.map Obj.cls) e'
      simp [hc] at z
    | _ => simp [D.pd, PyData.canLay0] at c'
  | _, _, .lv h q t, _, r, c, c' => by
    cases r with
    | lv h' _ t' =>
      have e := lst_inj h h'
      subst e
      simp only [D.pd, PyData.canLay0] at c c'
      rw [funs_of I t t' c c']
    | tup h' _ =>
      exfalso
      obtain ⟨its, _, ⟨o, e, hc, _⟩, _⟩ := I.tuple (.inl (.inl h'.1))
      obtain ⟨_, n, _, e', _⟩ := I.lst h
      rw [e] at e'
      have z := congrArg (Option.map Obj.cls) e'
      simp [hc] at z
    | _ => simp [D.pd, PyData.canLay0] at c'
  | _, _, .scr h t, _, r, c, _ => by simp [D.pd, PyData.canLay0] at c
  | _, _, .dk h _ t, _, r, c, _ => by simp [D.pd, PyData.canLay0] at c
  | _, _, .dt h _ t, _, r, c, _ => by simp [D.pd, PyData.canLay0] at c
  | _, _, .ins h _ t, _, r, c, _ => by simp [D.pd, PyData.canLay0] at c
  | _, _, .exb _ _, _, r, c, _ => by simp [D.pd, PyData.canLay0] at c
  | _, _, .exd _ _ _ _ _, _, r, c, _ => by simp [D.pd, PyData.canLay0] at c
  | _, _, .exq _, _, r, c, _ => by simp [D.pd, PyData.canLay0] at c
  | _, _, .exr _ _ _ _, _, r, c, _ => by simp [D.pd, PyData.canLay0] at c
theorem funs_of (I : Inv X pins σ H s) : ∀ {x : List D} {v : List V}, DRs X.K ct S H x v → ∀ {y : List D}, DRs X.K ct S H y v → PyData.canLayAll0 (D.pds x) = true → PyData.canLayAll0 (D.pds y) = true → x = y
  | _, _, .nil, _, r, _, _ => by cases r; rfl
  | _, _, .cons q t, _, r, c, c' => by
    cases r with
    | cons q' t' =>
      simp only [D.pds, PyData.canLayAll0, Bool.and_eq_true] at c c'
      rw [fun_of I q q' c.1 c'.1, funs_of I t t' c.2 c'.2]
end
mutual
theorem eqv_refl : ∀ {d : D}, d.pd.canLay0 = true → PyData.eqv d.pd d.pd = true
  | .non, _ => by simp [D.pd, PyData.eqv]
  | .bl _, _ => by simp [D.pd, PyData.eqv]
  | .int _, _ => by simp [D.pd, PyData.eqv]
  | .str _, _ => by simp [D.pd, PyData.eqv]
  | .tup xs, c => by
    simp only [D.pd, PyData.canLay0] at c
    simp only [D.pd, PyData.eqv]
    exact eqvs_refl c
  | .lv xs, c => by
    simp only [D.pd, PyData.canLay0] at c
    simp only [D.pd, PyData.eqv]
    exact eqvs_refl c
  | .scr _, c => by simp [D.pd, PyData.canLay0] at c
  | .dk _, c => by simp [D.pd, PyData.canLay0] at c
  | .dt _, c => by simp [D.pd, PyData.canLay0] at c
  | .ins _ _, c => by simp [D.pd, PyData.canLay0] at c
  | .exc _ _, c => by simp [D.pd, PyData.canLay0] at c
theorem eqvs_refl : ∀ {d : List D}, PyData.canLayAll0 (D.pds d) = true → PyData.eqvAll (D.pds d) (D.pds d) = true
  | [], _ => by simp [D.pds, PyData.eqvAll]
  | x :: xs, c => by
    simp only [D.pds, PyData.canLayAll0, Bool.and_eq_true] at c
    simp only [D.pds, PyData.eqvAll, eqv_refl c.1, eqvs_refl c.2]; rfl
end

/-! ### the meaning -/
def insE (T : List (Nat × Nat)) (call : CallT) : D → D → Option Bool
  | .ins C fs, .ins C' gs => (match T.lookup C, T.lookup C' with
    | some i, some _ => (match call i [.d (.ins C fs), .d (.ins C' gs)] [] with
      | .ok (.d (.bl b)) _ => if b = true ∨ samef fs gs = false then some b else none
      | _ => none)
    | _, _ => none)
  | _, _ => none
def eqZ (f : D → D → Option Bool) : List D → List D → Option Bool
  | x :: xs, y :: ys => (match f x y with
    | some true => eqZ f xs ys
    | some false => some false
    | none => none)
  | _, _ => some true
def eqP (x y : D) : Option Bool := if flD x = true ∧ flD y = true then some (eqF x y) else if shp x = true ∧ shp y = true then some (PyData.eqv x.pd y.pd) else none
def eqO (T : List (Nat × Nat)) (call : CallT) : Nat → D → D → Option Bool
  | 0, x, y => (match eqP x y with
    | some b => some b
    | none => insE T call x y)
  | n + 1, x, y => (match eqP x y with
    | some b => some b
    | none => (match x, y with
      | .tup xs, .tup ys => (eqZ (eqO T call n) xs ys).map fun r => r && xs.length == ys.length
      | .lv xs, .lv ys => if xs.length = ys.length then eqZ (eqO T call n) xs ys else some false
      | x, y => insE T call x y))
def bsOf (f : D → D → Option Bool) (xs ys : List D) (i : Nat) : Bool := match xs[i]?, ys[i]? with
  | some x, some y => f x y == some true
  | _, _ => true
theorem eqZ_spec {f : D → D → Option Bool} : ∀ {xs ys : List D} {r : Bool}, eqZ f xs ys = some r →
    (∀ (i : Nat) x y, xs[i]? = some x → ys[i]? = some y → (∀ j, j < i → bsOf f xs ys j = true) → f x y = some (bsOf f xs ys i)) ∧ r = (List.range (min xs.length ys.length)).all (bsOf f xs ys)
  | [], ys, r, h => by
    cases h
    exact ⟨fun i x y h => by simp at h, by simp⟩
  | x :: xs, [], r, h => by
    cases h
    exact ⟨fun i x y _ h => by simp at h, by simp⟩
  | x :: xs, y :: ys, r, h => by
    unfold eqZ at h
    have hm : min (x :: xs).length (y :: ys).length = min xs.length ys.length + 1 := by simp
    have hr : (List.range (min xs.length ys.length + 1)).all (bsOf f (x :: xs) (y :: ys)) = ((f x y == some true) && (List.range (min xs.length ys.length)).all (bsOf f xs ys)) := by
      rw [List.range_succ_eq_map, List.all_cons, List.all_map]
      rfl
    rw [hm, hr]
    split at h
    · rename_i e
      obtain ⟨i1, i2⟩ := eqZ_spec h
      refine ⟨fun i a b ha hb ht => ?_, by rw [e, ← i2]; rfl⟩
      cases i with
      | zero =>
        cases ha; cases hb
        show f x y = some (f x y == some true)
        rw [e]; rfl
      | succ i => exact i1 i a b ha hb fun j hj => ht (j + 1) (Nat.succ_lt_succ hj)
    · rename_i e
      cases h
      refine ⟨fun i a b ha hb ht => ?_, by rw [e]; rfl⟩
      cases i with
      | zero =>
        cases ha; cases hb
        show f x y = some (f x y == some true)
        rw [e]; rfl
      | succ i =>
        have := ht 0 (Nat.succ_pos _)
        have e2 : (f x y == some true) = true := this
        rw [e] at e2
        cases e2
    · cases h
end
end Mi

/-! Mi15: == and != of data that holds instances with an own __eq__: they are as the meaning says -/
namespace Mi
open PySem PySem.Spec L2

/-- somewhere below the running body, by so many steps of the C stack -/
structure Blw (X : Cx) (d : Nat) (A : Around) : Prop where
  hd : A.handled = X.A.handled
  dp : A.depth = X.A.depth
  un : A.units ≤ X.A.units + d
  fr : A.frames = X.A.frames
  gd : A.guards = X.A.guards
theorem Blw.top {X : Cx} : Blw X 0 X.A := ⟨rfl, rfl, Nat.le_refl _, rfl, rfl⟩
theorem Blw.in1 {X : Cx} {d : Nat} {A : Around} (b : Blw X d A) : Blw X (d + 1) A.in1 := ⟨b.hd, b.dp, by have := b.un; show A.units + 1 ≤ _; omega, b.fr, b.gd⟩
theorem Blw.room {X : Cx} {d k : Nat} {A : Around} (b : Blw X d A) (hr : Room (k + 1) X.A) (h : d ≤ 16) : Room k A :=
  ⟨⟨b.hd.trans hr.hd, by have := hr.dp; rw [b.dp]; omega, by have := hr.un; have := b.un; omega⟩, b.gd.trans hr.gd⟩
/-- the table of the classes with an own __eq__ -/
structure EqT (X : Cx) (ct : CT) (fns : List Fn) (T : List (Nat × Nat)) : Prop where
  own : ∀ C i, T.lookup C = some i → ∃ F, fns[i]? = some F ∧ PySem.W.findIn X.K (.ref (ct.ca C)) "__eq__" = some (some (.ref F.f)) ∧ PySem.W.isFn X.K (.ref F.f) = true ∧ Binds X.K F.fd F.ps []
  two : ∀ C i C' i', T.lookup C = some i → T.lookup C' = some i' → PySem.W.notFirst X.K (ct.ca C) (.ref (ct.ca C')) = true

section
variable {X : Cx} {ct : CT} {fns : List Fn} {T : List (Nat × Nat)} {call : CallT} {n : Nat}
/-- what == is to do -/
def EqS (X : Cx) (ct : CT) (d : Nat) (f : D → D → Option Bool) : Prop :=
  ∀ (A : Around) (pins : List (Addr × Obj)) (s : Shared) (σ : L2.St) (H : Hp) (x y : D) (v1 v2 : V) (u1 u2 : Value) (b : Bool), Blw X d A → Inv X pins σ H s → DR X.K ct (fun _ => True) H x v1 → DR X.K ct (fun _ => True) H y v2 → RelV v1 u1 → RelV v2 u2 → f x y = some b →
    wpAny (model X.prog X.w) A (eqBool u1 u2) (fun r s' => r = b ∧ ∃ H', Inv X pins σ H' s' ∧ L2.Ext H H') X.xe s
/-- an answer that is told of a value and itself is yes -/
def Rfl (X : Cx) (ct : CT) (f : D → D → Option Bool) : Prop :=
  ∀ (pins : List (Addr × Obj)) (s : Shared) (σ : L2.St) (H : Hp) (x y : D) (v : V) (b : Bool), Inv X pins σ H s → DR X.K ct (fun _ => True) H x v → DR X.K ct (fun _ => True) H y v → f x y = some b → b = true
theorem eqP_some {x y : D} {b : Bool} (h : eqP x y = some b) : (flD x = true ∧ flD y = true ∧ eqF x y = b) ∨ (shp x = true ∧ shp y = true ∧ PyData.eqv x.pd y.pd = b) := by
  unfold eqP at h
  split at h
  · rename_i c; cases h; exact .inl ⟨c.1, c.2, rfl⟩
  · split at h
    · rename_i c; cases h; exact .inr ⟨c.1, c.2, rfl⟩
    · cases h
theorem eqV_refl {v : V} (h : flatV v = true) : eqV v v = true := by
  cases v <;> first | (cases h; done) | simp [eqV]
theorem eqP_rfl : Rfl X ct eqP := fun pins s σ H x y v b I r1 r2 h => by
  rcases eqP_some h with ⟨c1, c2, e⟩ | ⟨c1, c2, e⟩
  · rw [← e, ← eqF_of c1 c2 r1 r2]
    exact eqV_refl (fl_of c1 r1)
  · have k1 := SeqAt.canLay_of_shaped c1
    have k2 := SeqAt.canLay_of_shaped c2
    have := fun_of I r1 r2 k1 k2
    subst this
    rw [← e]
    exact eqv_refl k1
theorem eqP_sound {d : Nat} (hr : Room 1 X.A) (hd : d ≤ 16) : EqS X ct d eqP := fun A pins s σ H x y v1 v2 u1 u2 b sb I r1 r2 q1 q2 h => by
  rcases eqP_some h with ⟨c1, c2, e⟩ | ⟨c1, c2, e⟩
  · have q := eqAt_V (A := A) (s := s) q1 q2 (fl_of c1 r1) (fl_of c2 r2)
    rw [eqF_of c1 c2 r1 r2, e] at q
    exact q X.prog X.w X.xe _ ⟨rfl, H, I, Ext.rfl'⟩
  · have k1 := SeqAt.canLay_of_shaped c1
    have k2 := SeqAt.canLay_of_shaped c2
    obtain ⟨as, e1⟩ := Dp.reads I x.pd v1 u1 (dp_of r1 k1) q1
    obtain ⟨bs, e2⟩ := Dp.reads I y.pd v2 u2 (dp_of r2 k2) q2
    have q := SeqAt.eqAt_reads x.pd y.pd A s u1 u2 as bs e1 e2 k1 k2 (SeqAt.room_of_shaped c1 (by have := sb.un; have := hr.un; omega))
    rw [e] at q
    exact q X.prog X.w X.xe _ ⟨rfl, H, I, Ext.rfl'⟩
theorem insE_some {x y : D} {b : Bool} (h : insE T call x y = some b) : ∃ C fs C' gs i i' h', x = .ins C fs ∧ y = .ins C' gs ∧ T.lookup C = some i ∧ T.lookup C' = some i' ∧ call i [.d x, .d y] [] = .ok (.d (.bl b)) h' ∧ (b = true ∨ samef fs gs = false) := by
  unfold insE at h
  split at h
  · split at h
    · rename_i C fs C' gs _ _ i i' e1 e2
      split at h
      · rename_i b' h' e3
        split at h
        · rename_i hb
          cases h
          exact ⟨C, fs, C', gs, i, i', h', rfl, rfl, e1, e2, e3, hb⟩
        · cases h
      · cases h
    · cases h
  · cases h
theorem insE_rfl : Rfl X ct (insE T call) := fun pins s σ H x y v b I r1 r2 h => by
  obtain ⟨C, fs, C', gs, i, i', h', rfl, rfl, e1, e2, e3, hb⟩ := insE_some h
  rcases hb with hb | hb
  · exact hb
  · have := same_of I r1 r2
    simp only [same] at this
    rw [hb] at this
    cases this
theorem sf_nil (a : Addr) : Sf [] [] a := fun ⟨k, o, e, _⟩ => by simp at e
theorem hr_nil {K : PySem.W.Frag} {H : Hp} : HR K ct [] [] H := ⟨rfl, fun i j a e => by simp at e, fun k a o e => by simp at e⟩
/-- the rich comparison by an own __eq__ -/
theorem insE_rc (co : CallOk X.prog X.w X.K X.mg X.base ct fns call n) (ET : EqT X ct fns T) {A : Around} (hr : Room (2 * n + 1) A) (hf : A.frames = X.A.frames) {pins : List (Addr × Obj)} {s : Shared} {σ : L2.St} {H : Hp} {x y : D} {v1 v2 : V} {u1 u2 : Value} {b : Bool}
    (I : Inv X pins σ H s) (r1 : DR X.K ct (fun _ => True) H x v1) (r2 : DR X.K ct (fun _ => True) H y v2) (q1 : RelV v1 u1) (q2 : RelV v2 u2) (h : insE T call x y = some b) :
    wpAny (model X.prog X.w) A (richCompare .Eq u1 u2) (fun r s' => r = .bool b ∧ ∃ H', Inv X pins σ H' s' ∧ L2.Ext H H') X.xe s := by
  obtain ⟨C, fs, C', gs, i, i', h', rfl, rfl, e1, e2, e3, hb⟩ := insE_some h
  obtain ⟨F, hF, hs, hfn, hbd⟩ := ET.own C i e1
  have hnf := ET.two C i C' i' e1 e2
  have G := co.ok i F hF
  have kp : Kp (fun _ => True) H (Sf [] []) H := fun a o e _ => ⟨e, sf_nil a⟩
  have hsp : spC X.K ct call i [v1, v2] H (fun v H' => v = .bl b ∧ L2.Ext H H') (fun _ _ _ => False) := by
    refine ⟨[], [], [.d (.ins C fs), .d (.ins C' gs)], hr_nil, .cons (DR.mono kp r1) (.cons (DR.mono kp r2) .nil), ?_⟩
    rw [e3]
    refine fun m2 H2 w2 hr2 ex2 rw2 => ?_
    cases rw2
    exact ⟨rfl, fun a o e => (ex2.kp a o e (sf_nil a)).1⟩
  cases r1 with
  | @ins a1 _ dx1 _ vs1 g1 _ t1 =>
  cases r2 with
  | @ins a2 _ dx2 _ vs2 g2 _ t2 =>
  cases q1
  cases q2
  obtain ⟨mA, J, _⟩ := ins_get I.hok g1
  obtain ⟨mB, J', _⟩ := ins_get I.hok g2
  obtain ⟨od, J, _⟩ := J.look
  obtain ⟨od', J', _⟩ := J'.look
  obtain ⟨m, hFr⟩ := I.fr
  refine PySem.W.cmp_K (op := .Eq) (tb := .ref (ct.ca C')) hr.units0 hFr I.ok.mod.kin J J'.type hnf hs hfn ?_
  have ee := I.env0
  have e0 : Env0 X.prog X.w X.K X.mg X.base A X.stack s H := ⟨by rw [hf]; exact ee.frames, ee.mod, ee.bs, ee.bsz, ee.funs, ee.frf, ee.hok, ee.bare⟩
  have hl := G.len _ _ _ _ hsp
  have hv : Vals [V.ref a1, V.ref a2] [Value.ref a1, Value.ref a2] := .cons rfl (.cons rfl .nil)
  have hbn := hbd s [.ref a1, .ref a2] I.kIn (by simpa using hl)
  refine wpAny_call (codeAny_mono (G.run A X.stack s H ⟨[.ref a1, .ref a2], []⟩ [.ref a1, .ref a2] [.ref a1, .ref a2] _ _ hr e0 (by simpa using hbn) hv hsp) fun r s' hq => ?_)
  cases r with
  | error e =>
    obtain ⟨_, _, _, _, _, _, _, _, _, _, _, _, _, _, _, _, w⟩ := XE.of_call (W := W0) I (fun _ _ _ q => q) hq
    exact w.elim
  | ok fl =>
    cases fl with
    | ret w =>
      obtain ⟨z, H', I', rz, ez, ex⟩ := I.after hq
      subst ez
      cases rz
      exact ⟨rfl, H', I', ex⟩
    | next => exact False.elim hq
    | brk => exact False.elim hq
    | cont => exact False.elim hq
theorem ref_of {K : PySem.W.Frag} {S : Addr → Prop} {H : Hp} {x : D} {v : V} (r : DR K ct S H x v) (h : flD x = false) : ∃ a, v = .ref a := by
  cases r <;> first | (cases h; done) | exact ⟨_, rfl⟩
/-- from the rich comparison of two references to == -/
theorem eqb_ref {A : Around} {pins : List (Addr × Obj)} {s : Shared} {σ : L2.St} {H : Hp} {a1 a2 : Addr} {b : Bool} (I : Inv X pins σ H s) (hb : a1 = a2 → b = true)
    (h : wpAny (model X.prog X.w) A (richCompare .Eq (.ref a1) (.ref a2)) (fun r s' => r = .bool b ∧ ∃ H', Inv X pins σ H' s' ∧ L2.Ext H H') X.xe s) :
    wpAny (model X.prog X.w) A (eqBool (.ref a1) (.ref a2)) (fun r s' => r = b ∧ ∃ H', Inv X pins σ H' s' ∧ L2.Ext H H') X.xe s := by
  by_cases e : a1 = a2
  · subst e
    exact SeqAt.EqAt.same (A := A) (s := s) (.ref a1) X.prog X.w X.xe _ ⟨(hb rfl).symm, H, I, Ext.rfl'⟩
  · refine GQ.eqBool_refG e (wpAny_mono h (fun r s' q => ?_) fun _ _ x => x)
    exact ⟨b, q.1, rfl, q.2⟩
/-- the turn of a loop over two rows of items -/
theorem turn_of {d : Nat} {f : D → D → Option Bool} (h : EqS X ct (d + 1) f) {A : Around} (sb : Blw X d A) {pins : List (Addr × Obj)} {σ : L2.St} {H : Hp} {xs ys : List D} {vs ws : List V} {p q : List Value} (rx : DRs X.K ct (fun _ => True) H xs vs) (ry : DRs X.K ct (fun _ => True) H ys ws)
    (rp : Vals vs p) (rq : Vals ws q) {r : Bool} (hz : eqZ f xs ys = some r) (i : Nat) (h1 : i < p.toArray.size) (h2 : i < q.toArray.size) (ht : ∀ j, j < i → bsOf f xs ys j = true) (s' : Shared) (l : ∃ H', Inv X pins σ H' s' ∧ L2.Ext H H') :
    wpAny (model X.prog X.w) A.in1 (eqBool p.toArray[i] q.toArray[i]) (fun r s2 => r = bsOf f xs ys i ∧ ∃ H', Inv X pins σ H' s2 ∧ L2.Ext H H') X.xe s' := by
  obtain ⟨H1, I1, e1⟩ := l
  have kp : Kp (fun _ => True) H (fun _ => True) H1 := fun a o e _ => ⟨e1 a o e, trivial⟩
  have k1 : i < xs.length := by rw [rx.length, rp.length]; simpa using h1
  have k2 : i < ys.length := by rw [ry.length, rq.length]; simpa using h2
  obtain ⟨v1, g1, t1⟩ := (rx.mono kp).get (List.getElem?_eq_getElem k1)
  obtain ⟨v2, g2, t2⟩ := (ry.mono kp).get (List.getElem?_eq_getElem k2)
  obtain ⟨u1, m1, w1⟩ := rp.get g1
  obtain ⟨u2, m2, w2⟩ := rq.get g2
  have z1 : p.toArray[i] = u1 := by
    have : i < p.length := by simpa using h1
    rw [List.getElem?_eq_getElem this] at m1
    simpa using m1
  have z2 : q.toArray[i] = u2 := by
    have : i < q.length := by simpa using h2
    rw [List.getElem?_eq_getElem this] at m2
    simpa using m2
  rw [z1, z2]
  refine wpAny_mono (h A.in1 pins s' σ H1 _ _ v1 v2 u1 u2 _ sb.in1 I1 t1 t2 w1 w2 ((eqZ_spec hz).1 i _ _ (List.getElem?_eq_getElem k1) (List.getElem?_eq_getElem k2) ht)) (fun r s2 q => ?_) fun _ _ x => x
  exact ⟨q.1, let ⟨H2, I2, e2⟩ := q.2; ⟨H2, I2, e1.trans e2⟩⟩
theorem eqZ_rfl {f : D → D → Option Bool} (h : Rfl X ct f) {pins : List (Addr × Obj)} {s : Shared} {σ : L2.St} {H : Hp} (I : Inv X pins σ H s) : ∀ {xs ys : List D} {vs : List V} {b : Bool}, DRs X.K ct (fun _ => True) H xs vs → DRs X.K ct (fun _ => True) H ys vs → eqZ f xs ys = some b → b = true
  | [], _, _, _, _, _, e => by cases e; rfl
  | _ :: _, [], _, _, _, _, e => by cases e; rfl
  | x :: xs, y :: ys, _, b, .cons r t, .cons r' t', e => by
    unfold eqZ at e
    split at e
    · exact eqZ_rfl h I t t' e
    · rename_i e2
      cases e
      exact h _ _ _ _ _ _ _ _ I r r' e2
    · cases e
theorem eqO_rfl : ∀ k : Nat, Rfl X ct (eqO T call k)
  | 0 => fun pins s σ H x y v b I r1 r2 h => by
    unfold eqO at h
    split at h
    · rename_i e; cases h; exact eqP_rfl _ _ _ _ _ _ _ _ I r1 r2 e
    · exact insE_rfl _ _ _ _ _ _ _ _ I r1 r2 h
  | k + 1 => fun pins s σ H x y v b I r1 r2 h => by
    unfold eqO at h
    split at h
    · rename_i e; cases h; exact eqP_rfl _ _ _ _ _ _ _ _ I r1 r2 e
    · split at h
      · cases r1 with
        | tup g1 t1 =>
        cases r2 with
        | tup g2 t2 =>
        have e := tup_inj (S := fun _ => True) I g1 g2
        subst e
        cases hz : eqZ (eqO T call k) _ _ with
        | none => rw [hz] at h; cases h
        | some r =>
          rw [hz] at h
          cases h
          rw [eqZ_rfl (eqO_rfl k) I t1 t2 hz, t1.length, t2.length, beq_self_eq_true]; rfl
      · cases r1 with
        | lv g1 _ t1 =>
        cases r2 with
        | lv g2 _ t2 =>
        have e := lst_inj g1 g2
        subst e
        rw [if_pos (t1.length.trans t2.length.symm)] at h
        exact eqZ_rfl (eqO_rfl k) I t1 t2 h
      · exact insE_rfl _ _ _ _ _ _ _ _ I r1 r2 h
/-- the rich comparison of two lists, of two tuples, of two instances -/
theorem eqO_rc (ne : Bool) (co : CallOk X.prog X.w X.K X.mg X.base ct fns call n) (ET : EqT X ct fns T) (hr : Room (2 * n + 2) X.A) {d k : Nat} (hd : d + k < 16) (ih : EqS X ct (d + 1) (eqO T call k)) {A : Around} {pins : List (Addr × Obj)} {s : Shared} {σ : L2.St} {H : Hp} {xs ys : List D} {t : Bool} {v1 v2 : V} {u1 u2 : Value} {b : Bool}
    (sb : Blw X d A) (I : Inv X pins σ H s) (r1 : DR X.K ct (fun _ => True) H (if t then .tup xs else .lv xs) v1) (r2 : DR X.K ct (fun _ => True) H (if t then .tup ys else .lv ys) v2) (q1 : RelV v1 u1) (q2 : RelV v2 u2)
    (h : (if t then (eqZ (eqO T call k) xs ys).map fun r => r && xs.length == ys.length else if xs.length = ys.length then eqZ (eqO T call k) xs ys else some false) = some b) :
    wpAny (model X.prog X.w) A (richCompare (if ne then .NotEq else .Eq) u1 u2) (fun r s' => r = .bool (if ne then !b else b) ∧ ∃ H', Inv X pins σ H' s' ∧ L2.Ext H H') X.xe s := by
  have hu : A.units < cLine := (sb.room hr (by omega)).units0
  cases t with
  | true =>
    simp only [if_true] at r1 r2 h
    cases r1 with
    | @tup a1 _ vs1 g1 t1 =>
    cases r2 with
    | @tup a2 _ vs2 g2 t2 =>
    cases q1
    cases q2
    obtain ⟨p, rp, ⟨⟨c1, dd1, da1, sl1⟩, o1, hc1, n1, hd1⟩, _⟩ := I.tuple (.inl (.inl g1.1))
    obtain ⟨q, rq, ⟨⟨c2, dd2, da2, sl2⟩, o2, hc2, n2, hd2⟩, _⟩ := I.tuple (.inl (.inl g2.1))
    simp only at hc1 hd1 hc2 hd2
    subst hc1 hd1 hc2 hd2
    cases hz : eqZ (eqO T call k) xs ys with
    | none => rw [hz] at h; cases h
    | some r =>
      rw [hz] at h
      cases h
      have sp := (eqZ_spec hz).2
      have l1 : p.toArray.size = xs.length := by rw [List.size_toArray, ← rp.length, t1.length]
      have l2 : q.toArray.size = ys.length := by rw [List.size_toArray, ← rq.length, t2.length]
      cases ne with
      | false =>
        refine wpAny_richCompare_same_room (op := .Eq) ⟨_, o1, rfl⟩ ⟨_, o2, rfl⟩ F.slot_tuple_eq (GQ.call_here F.slot_tuple_eq ⟨_, o1, rfl⟩ F.entry_tuple_eq (F.args_tuple_eq_2 _ _) ?_) hu
        refine GB.tup_eqB (J := fun s' => ∃ H', Inv X pins σ H' s' ∧ L2.Ext H H') (bs := bsOf (eqO T call k) xs ys) p.toArray q.toArray n1 n2 dd1 dd2 sl1 sl2 (fun i h1 h2 ht s' l => turn_of ih sb t1 t2 rp rq hz i h1 h2 ht s' l) (fun s' l => ⟨(fun z => nomatch z), ?_, l⟩) o1 o2 ⟨H, I, Ext.rfl'⟩
        rw [l1, l2, ← sp]; rfl
      | true =>
        refine wpAny_richCompare_same_room (op := .NotEq) ⟨_, o1, rfl⟩ ⟨_, o2, rfl⟩ F.slot_tuple_ne (GQ.call_here F.slot_tuple_ne ⟨_, o1, rfl⟩ F.entry_tuple_ne (F.args_tuple_ne_2 _ _) ?_) hu
        refine GB.tup_neB (J := fun s' => ∃ H', Inv X pins σ H' s' ∧ L2.Ext H H') (bs := bsOf (eqO T call k) xs ys) p.toArray q.toArray n1 n2 dd1 dd2 sl1 sl2 (fun i h1 h2 ht s' l => turn_of ih sb t1 t2 rp rq hz i h1 h2 ht s' l) (fun s' l => ⟨(fun z => nomatch z), ?_, l⟩) o1 o2 ⟨H, I, Ext.rfl'⟩
        rw [l1, l2, ← sp]; rfl
  | false =>
    rw [if_neg Bool.false_ne_true] at r1 r2 h
    cases r1 with
    | @lv a1 _ vs1 g1 _ t1 =>
    cases r2 with
    | @lv a2 _ vs2 g2 _ t2 =>
    cases q1
    cases q2
    obtain ⟨p, n1, rp, o1, _⟩ := I.lst g1
    obtain ⟨q, n2, rq, o2, _⟩ := I.lst g2
    have l1 : p.length = xs.length := by rw [← rp.length, t1.length]
    have l2 : q.length = ys.length := by rw [← rq.length, t2.length]
    by_cases hl : xs.length = ys.length
    · rw [if_pos hl] at h
      have sp := (eqZ_spec h).2
      rw [← hl, Nat.min_self] at sp
      have bo : GB.Both X.prog X.w A X.xe a1 a2 xs.length (bsOf (eqO T call k) xs ys) (fun s' => ∃ H', Inv X pins σ H' s' ∧ L2.Ext H H') := fun s' l => by
        obtain ⟨H1, I1, e1⟩ := id l
        obtain ⟨p', n1', rp', o1', _⟩ := I1.lst (e1 _ _ g1)
        obtain ⟨q', n2', rq', o2', _⟩ := I1.lst (e1 _ _ g2)
        exact ⟨p'.toArray, q'.toArray, n1', n2', o1', o2', by rw [List.size_toArray, ← rp'.length, t1.length], by rw [List.size_toArray, ← rq'.length, ← t2.length, hl], fun i h1 h2 ht => turn_of ih sb t1 t2 rp' rq' h i h1 h2 ht s' l⟩
      cases ne with
      | false =>
        refine wpAny_richCompare_same_room (op := .Eq) ⟨_, o1, rfl⟩ ⟨_, o2, rfl⟩ F.slot_list_eq (GQ.call_here F.slot_list_eq ⟨_, o1, rfl⟩ F.entry_list_eq (F.args_list_eq_2 _ _) ?_) hu
        exact GB.lst_eqB bo (fun s' l => ⟨(fun z => nomatch z), by rw [← sp]; rfl, l⟩) ⟨H, I, Ext.rfl'⟩
      | true =>
        refine wpAny_richCompare_same_room (op := .NotEq) ⟨_, o1, rfl⟩ ⟨_, o2, rfl⟩ F.slot_list_ne (GQ.call_here F.slot_list_ne ⟨_, o1, rfl⟩ F.entry_list_ne (F.args_list_ne_2 _ _) ?_) hu
        exact GB.lst_neB bo (fun s' l => ⟨(fun z => nomatch z), by rw [← sp]; rfl, l⟩) ⟨H, I, Ext.rfl'⟩
    · rw [if_neg hl] at h
      cases h
      have hsz : (p.toArray.size != q.toArray.size) = true := by rw [List.size_toArray, List.size_toArray, l1, l2]; exact bne_iff_ne.mpr hl
      cases ne with
      | false => exact SeqAt.RcAt.lists_lengths ⟨_, o1, rfl, _, rfl⟩ ⟨_, o2, rfl, _, rfl⟩ hsz hu X.prog X.w X.xe _ ⟨rfl, H, I, Ext.rfl'⟩
      | true => exact SeqAt.RcNeAt.lists_lengths ⟨_, o1, rfl, _, rfl⟩ ⟨_, o2, rfl, _, rfl⟩ hsz hu X.prog X.w X.xe _ ⟨rfl, H, I, Ext.rfl'⟩
theorem eqO_sound (co : CallOk X.prog X.w X.K X.mg X.base ct fns call n) (ET : EqT X ct fns T) (hr : Room (2 * n + 2) X.A) : ∀ (k d : Nat), d + k < 16 → EqS X ct d (eqO T call k)
  | 0, d, hd => fun A pins s σ H x y v1 v2 u1 u2 b sb I r1 r2 q1 q2 h => by
    have hi := h
    unfold eqO at h
    split at h
    · rename_i e; cases h; exact eqP_sound (hr.mono (by omega)) (by omega) A pins s σ H x y v1 v2 u1 u2 _ sb I r1 r2 q1 q2 e
    · obtain ⟨C, fs, C', gs, i, i', h', rfl, rfl, _⟩ := insE_some h
      have rc := insE_rc co ET (sb.room hr (by omega)) sb.fr I r1 r2 q1 q2 h
      obtain ⟨a1, rfl⟩ := ref_of r1 rfl
      obtain ⟨a2, rfl⟩ := ref_of r2 rfl
      cases q1
      cases q2
      exact eqb_ref I (fun e => by subst e; exact insE_rfl _ _ _ _ _ _ _ _ I r1 r2 h) rc
  | k + 1, d, hd => fun A pins s σ H x y v1 v2 u1 u2 b sb I r1 r2 q1 q2 h => by
    have hi := h
    unfold eqO at h
    split at h
    · rename_i e; cases h; exact eqP_sound (hr.mono (by omega)) (by omega) A pins s σ H x y v1 v2 u1 u2 _ sb I r1 r2 q1 q2 e
    · split at h
      · have rc := eqO_rc false co ET hr (k := k) (by omega) (eqO_sound co ET hr k (d + 1) (by omega)) (t := true) sb I r1 r2 q1 q2 h
        obtain ⟨a1, rfl⟩ := ref_of r1 rfl
        obtain ⟨a2, rfl⟩ := ref_of r2 rfl
        cases q1
        cases q2
        exact eqb_ref I (fun e => by subst e; exact eqO_rfl (k + 1) _ _ _ _ _ _ _ _ I r1 r2 hi) rc
      · have rc := eqO_rc false co ET hr (k := k) (by omega) (eqO_sound co ET hr k (d + 1) (by omega)) (t := false) sb I r1 r2 q1 q2 h
        obtain ⟨a1, rfl⟩ := ref_of r1 rfl
        obtain ⟨a2, rfl⟩ := ref_of r2 rfl
        cases q1
        cases q2
        exact eqb_ref I (fun e => by subst e; exact eqO_rfl (k + 1) _ _ _ _ _ _ _ _ I r1 r2 hi) rc
      · obtain ⟨C, fs, C', gs, i, i', h', rfl, rfl, _⟩ := insE_some h
        have rc := insE_rc co ET (sb.room hr (by omega)) sb.fr I r1 r2 q1 q2 h
        obtain ⟨a1, rfl⟩ := ref_of r1 rfl
        obtain ⟨a2, rfl⟩ := ref_of r2 rfl
        cases q1
        cases q2
        exact eqb_ref I (fun e => by subst e; exact insE_rfl _ _ _ _ _ _ _ _ I r1 r2 h) rc
/-- data as it is seen by a comparison: a changeable list is its items -/
def eqTop (T : List (Nat × Nat)) (call : CallT) (x y : D) : Option Bool := match deq x y with
  | some b => some b
  | none => (match x, y with
    | .tup xs, .tup ys => (eqZ (eqO T call 6) xs ys).map fun r => r && xs.length == ys.length
    | .lv xs, .lv ys => if xs.length = ys.length then eqZ (eqO T call 6) xs ys else some false
    | _, _ => none)
def oEqO (ne : Bool) (T : List (Nat × Nat)) (call : CallT) : Op2 := fun x y h => match viewD x h, viewD y h with
  | some a, some b => (match eqTop T call a b with
    | some r => some (.d (.bl (if ne then !r else r)), h)
    | none => (match ne, x, y with
      | false, .d u, .d v => (insE T call u v).map fun r => (.d (.bl r), h)
      | _, _, _ => none))
  | _, _ => none
theorem view_dr {K : PySem.W.Frag} {m : List Addr} {ah : Hs} {x : Vl} {d : D} {v : V} {H : Hp} (e : viewD x ah = some d) (hr : HR K ct m ah H) (r : VlR K ct m ah H x v) : DR K ct (fun _ => True) H d v := by
  have kp : Kp (Sf m ah) H (fun _ => True) H := fun a o e _ => ⟨e, trivial⟩
  unfold viewD at e
  split at e
  · cases e; exact DR.mono kp r
  · rename_i k
    split at e
    · rename_i xs hk
      cases e
      obtain ⟨a, vs, _, rfl, h1, h2⟩ := hr.lstK hk r
      exact .lv h1 trivial (h2.mono kp)
    · cases e
theorem cmp_rc (ne : Bool) (u1 u2 : Value) : compareOp (if ne then .NotEq else .Eq) u1 u2 = richCompare (if ne then .NotEq else .Eq) u1 u2 := by cases ne <;> rfl
theorem eqo_sound (ne : Bool) (co : CallOk X.prog X.w X.K X.mg X.base ct fns call n) (ET : EqT X ct fns T) (hr : Room (2 * n + 2) X.A) : OpR X (compareOp (if ne then .NotEq else .Eq)) (rOp X.K ct (oEqO ne T call)) := by
  intro pins s σ H x y u1 u2 Q I q1 q2 ⟨m, ah, a, b, h1, ra, rb, p⟩
  unfold oEqO at p
  split at p
  · rename_i d e va vb
    have r1 := view_dr va h1 ra
    have r2 := view_dr vb h1 rb
    have go : ∀ {r : Bool} {H' : Hp} {s' : Shared}, Inv X pins σ H' s' → L2.Ext H H' → Pp X.K ct m ah H (some (.d (.bl r), ah)) Q → EP X pins σ Q (.bool r) s' := fun I' ex p' => by
      obtain ⟨hr', ex'⟩ := h1.more ex
      exact ⟨.bl _, _, I', rfl, p' m _ _ hr' ex' (.bl _)⟩
    split at p
    · rename_i r hq
      unfold eqTop at hq
      split at hq
      · rename_i r' hd
        cases hq
        unfold deq at hd
        split at hd
        · rename_i hc
          cases hd
          have hc' := Bool.and_eq_true_iff.mp hc
          cases ne with
          | false => exact (op_eqD hr.units) pins s σ H x y u1 u2 Q I q1 q2 ⟨d.pd, e.pd, view_dp h1 va ra hc'.1, view_dp h1 vb rb hc'.2, hc'.1, hc'.2, p.same h1 (.bl _)⟩
          | true => exact (op_neD hr.units) pins s σ H x y u1 u2 Q I q1 q2 ⟨d.pd, e.pd, view_dp h1 va ra hc'.1, view_dp h1 vb rb hc'.2, hc'.1, hc'.2, p.same h1 (.bl _)⟩
        · cases hd
      · split at hq
        · have rc := eqO_rc ne co ET hr (d := 0) (k := 6) (by omega) (eqO_sound co ET hr 6 1 (by omega)) (t := true) Blw.top I r1 r2 q1 q2 hq
          rw [cmp_rc]
          refine wpAny_mono rc (fun w s' q => ?_) fun _ _ z => z
          obtain ⟨rfl, H', I', ex⟩ := q
          exact go I' ex p
        · have rc := eqO_rc ne co ET hr (d := 0) (k := 6) (by omega) (eqO_sound co ET hr 6 1 (by omega)) (t := false) Blw.top I r1 r2 q1 q2 hq
          rw [cmp_rc]
          refine wpAny_mono rc (fun w s' q => ?_) fun _ _ z => z
          obtain ⟨rfl, H', I', ex⟩ := q
          exact go I' ex p
        · cases hq
    · split at p
      · rename_i u v
        have eu : viewD (.d u) ah = some u := rfl
        have ev : viewD (.d v) ah = some v := rfl
        cases hi : insE T call u v with
        | none => rw [hi] at p; exact p.elim
        | some r =>
          rw [hi] at p
          have rc := insE_rc co ET (hr.mono (by omega)) rfl I (view_dr eu h1 ra) (view_dr ev h1 rb) q1 q2 hi
          refine wpAny_mono (show wpAny (model X.prog X.w) X.A (compareOp .Eq u1 u2) _ X.xe s from rc) (fun w s' q => ?_) fun _ _ z => z
          obtain ⟨rfl, H', I', ex⟩ := q
          exact go I' ex p
      · exact p.elim
  · exact p.elim
theorem eqoE_sound (co : CallOk X.prog X.w X.K X.mg X.base ct fns call n) (ET : EqT X ct fns T) (hr : Room (2 * n + 2) X.A) : OpR X (compareOp .Eq) (rOp X.K ct (oEqO false T call)) := eqo_sound false co ET hr
theorem eqoN_sound (co : CallOk X.prog X.w X.K X.mg X.base ct fns call n) (ET : EqT X ct fns T) (hr : Room (2 * n + 2) X.A) : OpR X (compareOp .NotEq) (rOp X.K ct (oEqO true T call)) := eqo_sound true co ET hr
end
end Mi

/-! Mi16: tuples and texts repeated, orders of texts, all, any, a sign in a text -/
namespace Mi
open PySem PySem.Spec L2

/-! ### tuple * int: the same object, none -/
theorem tmul_same (l : Addr) (p : Array Value) (n : Nat) (dd : Option Addr) (sl : Array (Option Value)) (x : Int) (u : Tok) (c0 : (decide (x < -(2 ^ 63)) || decide (x ≥ 2 ^ 63)) = false) (c1 : (p.isEmpty || x == 1) = true) :
    Meets (Builtin.«tuple.__mul__» ⟨[.ref l, .int x u], []⟩) (fun _ R s => s.heap.get? l = some { cls := .type "tuple", dict := dd, data := .seq p n, slots := sl } ∧ R (.ok (.ret (Value.ref l))) s) :=
  .of_wp fun prog w A R s h => by
    obtain ⟨hp, g, d, tk, os⟩ := s
    obtain ⟨hl, h⟩ := h
    have f1 := AutoSeq1.idx_int
    wp_walk using AutoSeq1.wpAny_loadPart' hl
    refine wpAny_ite_false (decide_eq_false (by rw [c0]; exact Bool.false_ne_true)) ?_
    wp_walk using AutoSeq1.wpAny_loadPart' hl
    exact ⟨_, rfl, h⟩
theorem tmul_none (l : Addr) (p : Array Value) (n : Nat) (dd : Option Addr) (sl : Array (Option Value)) (x : Int) (u : Tok) (c0 : (decide (x < -(2 ^ 63)) || decide (x ≥ 2 ^ 63)) = false) (c1 : (p.isEmpty || x == 1) = false) (c2 : (decide (x ≤ 0) || p.isEmpty) = true) :
    Meets (Builtin.«tuple.__mul__» ⟨[.ref l, .int x u], []⟩) (fun _ R s => s.heap.get? l = some { cls := .type "tuple", dict := dd, data := .seq p n, slots := sl } ∧
      R (.ok (.ret (Value.ref s.heap.objs.size))) { s with heap := s.heap.push { cls := Value.type "tuple", data := Data.seq #[] }, toks := s.toks }) :=
  .of_wp fun prog w A R s h => by
    obtain ⟨hp, g, d, tk, os⟩ := s
    obtain ⟨hl, h⟩ := h
    have f1 := AutoSeq1.idx_int
    wp_walk using AutoSeq1.wpAny_loadPart' hl
    refine wpAny_ite_false (decide_eq_false (by rw [c0]; exact Bool.false_ne_true)) ?_
    wp_walk using AutoSeq1.wpAny_loadPart' hl
    exact ⟨_, rfl, h⟩
def rRepM (K : PySem.W.Frag) : R2 := fun x y H Q => ∃ l k xs, x = .ref l ∧ y = .int k ∧ SqT K H l xs ∧ -1000 ≤ k ∧ k ≤ 1000 ∧ xs.length ≤ 1000 ∧ ((xs = [] ∨ k = 1) → Q (.ref l) H) ∧ (xs ≠ [] → k ≠ 1 → ∀ p, H p = none → Q (.ref p) (upd H p (.tup (List.replicate k.toNat xs).flatten)))
theorem op_repM {X : Cx} : OpR X (binaryOp .Mult) (rRepM X.K) := by
  intro pins s σ H x y v u Q I rx ry h
  obtain ⟨l, k, xs, rfl, rfl, hT, h1, h2, hz, q1, q2⟩ := h
  by_cases hs : xs = [] ∨ k = 1
  · cases rx
    obtain ⟨t, rfl⟩ := ry
    obtain ⟨its, r, ⟨⟨cls, dd, data, sl⟩, ho, hc, n, hd⟩, hss⟩ := I.tuple hT
    simp only at hc hd
    subst hc hd
    have c0 : (decide (k < -(2 ^ 63)) || decide (k ≥ 2 ^ 63)) = false := by
      rw [decide_eq_false (by omega), decide_eq_false (by omega)]; rfl
    have c1 : (its.toArray.isEmpty || k == 1) = true := by
      rcases hs with rfl | rfl
      · cases r; rfl
      · simp
    refine wpAny_binaryOp_repeat_ref (T := "tuple") (U := "int") (by decide) ⟨_, ho, rfl⟩ (fun s' => typeIs_int s' k t) noFill_tuple_mul F.fills_int_mul F.slot_int_rmul repeat_tuple F.slot_int_index.lookup
      (call_meets F.slot_int_rmul (typeIs_int s k t) F.entry_int_rmul (F.args_int_rmul_2 _ _) (int_rmul_tuple k t l its.toArray n dd sl)
        ⟨ho, rfl, ⟨_, ho, rfl⟩, call_meets F.slot_tuple_mul ⟨_, ho, rfl⟩ F.entry_tuple_mul (F.args_tuple_mul_2 _ _) (tmul_same l its.toArray n dd sl k t c0 c1) ⟨ho, ?_⟩⟩)
    exact ⟨.ref l, H, I, rfl, q1 hs⟩
  · have hne : xs ≠ [] := fun e => hs (.inl e)
    have hk1 : k ≠ 1 := fun e => hs (.inr e)
    by_cases h3 : 2 ≤ k
    · exact op_repT pins s σ H _ _ v u Q I rx ry ⟨l, k, xs, rfl, rfl, hT, hne, h3, h2, hz, q2 hne hk1⟩
    · cases rx
      obtain ⟨t, rfl⟩ := ry
      obtain ⟨its, r, ⟨⟨cls, dd, data, sl⟩, ho, hc, n, hd⟩, hss⟩ := I.tuple hT
      simp only at hc hd
      subst hc hd
      have c0 : (decide (k < -(2 ^ 63)) || decide (k ≥ 2 ^ 63)) = false := by
        rw [decide_eq_false (by omega), decide_eq_false (by omega)]; rfl
      have hi : its.toArray.isEmpty = false := by
        cases its with
        | nil => cases r; exact absurd rfl hne
        | cons a b => rfl
      have c1 : (its.toArray.isEmpty || k == 1) = false := by
        rw [hi, Bool.false_or]; exact beq_eq_false_iff_ne.mpr hk1
      have c2 : (decide (k ≤ 0) || its.toArray.isEmpty) = true := by
        rw [decide_eq_true (by omega)]; rfl
      have e0 : k.toNat = 0 := by omega
      have q := q2 hne hk1
      rw [e0, List.replicate_zero, List.flatten_nil] at q
      refine wpAny_binaryOp_repeat_ref (T := "tuple") (U := "int") (by decide) ⟨_, ho, rfl⟩ (fun s' => typeIs_int s' k t) noFill_tuple_mul F.fills_int_mul F.slot_int_rmul repeat_tuple F.slot_int_index.lookup
        (call_meets F.slot_int_rmul (typeIs_int s k t) F.entry_int_rmul (F.args_int_rmul_2 _ _) (int_rmul_tuple k t l its.toArray n dd sl)
          ⟨ho, rfl, ⟨_, ho, rfl⟩, call_meets F.slot_tuple_mul ⟨_, ho, rfl⟩ F.entry_tuple_mul (F.args_tuple_mul_2 _ _) (tmul_none l its.toArray n dd sl k t c0 c1 c2) ⟨ho, ?_⟩⟩)
      refine ⟨.ref s.heap.objs.size, _, I.laid (t' := s.toks) (o := .tup []) (fun b ob q => Heap.get?_push_of_some _ q) (Nat.le_refl _) ?_, rfl, q _ (I.hok.fresh (Nat.le_refl _))⟩
      exact ⟨Nat.zero_le _, [], .nil, PyProof.Rows.IsTup.new _ _⟩
/-- text * int -/
def rRepS : R2 := fun x y H Q => ∃ (z : Str) (k : Int), x = .str z ∧ y = .int k ∧ 0 ≤ k ∧ k ≤ 1000 ∧ z.length ≤ 1000 ∧ Q (.str ⟨(List.replicate k.toNat z.cps.toList).flatten.toArray⟩) H
theorem fold_rep (p : Array Nat) : ∀ (m : Nat) (acc : Array Nat), (List.replicate m p).foldl (· ++ ·) acc = (acc.toList ++ (List.replicate m p.toList).flatten).toArray
  | 0, acc => by simp
  | m + 1, acc => by
    rw [List.replicate_succ, List.foldl_cons, fold_rep p m, List.replicate_succ, List.flatten_cons]
    simp
theorem op_repS {X : Cx} : OpR X (binaryOp .Mult) rRepS := by
  intro pins s σ H x y v u Q I rx ry h
  obtain ⟨z, k, rfl, rfl, h1, h2, hz, q⟩ := h
  obtain ⟨t, rfl⟩ := rx
  obtain ⟨t2, rfl⟩ := ry
  have lz : z.length = z.cps.size := rfl
  have bnd : z.length * k.toNat ≤ 1000000 := by
    have a1 : z.length * k.toNat ≤ 1000 * 1000 := Nat.mul_le_mul hz (by omega)
    omega
  have e : ((List.replicate k.toNat z.cps).foldl (· ++ ·) #[]) = (List.replicate k.toNat z.cps.toList).flatten.toArray := by
    rw [fold_rep]; simp
  have ln : (List.replicate k.toNat z.cps.toList).flatten.length = z.length * k.toNat := by
    rw [PyProof.Rows.lm_len_rep_flat, lz, Nat.mul_comm]; rfl
  refine PySem.P.mul_str (by rw [decide_eq_false (by omega), decide_eq_false (by omega)]; rfl) (fun g1 _ => ?_) (fun _ _ => ?_) ?_
  · have hk : (0 : Int) < k := by omega
    have : (z.length : Int) ≤ (2 ^ 63 - 1) / k := by
      rw [Int.le_ediv_iff_mul_le hk]
      have a2 : (z.length : Int) * k = ((z.length * k.toNat : Nat) : Int) := by rw [Int.natCast_mul, Int.toNat_of_nonneg h1]
      rw [a2]; omega
    omega
  · unfold PySem.Builtin.Str.tooLong
    rw [sizeLine_eq]
    exact decide_eq_false (by omega)
  · have fin : ∀ (y : Str) (tk t' : Nat), y = ⟨(List.replicate k.toNat z.cps.toList).flatten.toArray⟩ → EP X pins σ Q (.str y tk) { s with toks := t' } := fun y tk t' e => by
      subst e
      exact ⟨.str _, H, I.tok t', ⟨tk, rfl⟩, q⟩
    by_cases g1 : k < 1
    · rw [if_pos g1]
      have e0 : k.toNat = 0 := by omega
      refine ⟨by decide, fin _ _ _ ?_⟩
      rw [e0]; rfl
    · rw [if_neg g1]
      by_cases g2 : (k == 1 || z.length == 0) = true
      · rw [if_pos g2]
        refine fin z t s.toks ?_
        rcases Bool.or_eq_true_iff.mp g2 with g | g
        · rw [beq_iff_eq.mp g]; simp
        · have : z.cps = #[] := Array.eq_empty_of_size_eq_zero (by rw [← lz]; exact beq_iff_eq.mp g)
          obtain ⟨c⟩ := z
          simp only at this
          subst this
          simp
      · rw [if_neg g2, e]
        refine ⟨?_, fin _ _ _ rfl⟩
        show (List.replicate k.toNat z.cps.toList).flatten.toArray.size ≤ _
        rw [List.size_toArray, ln, sizeLine_eq]
        omega

/-! ### the operators -/
def oMulT : Op2 := fun x y h => match x, y with
  | .d (.tup xs), .d (.int k) => if decide (-1000 ≤ k) && (decide (k ≤ 1000) && Nat.ble xs.length 1000) then some (.d (.tup (List.replicate k.toNat xs).flatten), h) else none
  | .d (.str z), .d (.int k) => if decide (0 ≤ k) && (decide (k ≤ 1000) && Nat.ble z.length 1000) then some (.d (.str ⟨(List.replicate k.toNat z.cps.toList).flatten.toArray⟩), h) else none
  | _, _ => none
section
variable {X : Cx} {ct : CT} {W : WX}
theorem rep_drs {K : PySem.W.Frag} {S : Addr → Prop} {H : Hp} {xs : List D} {vs : List V} (r : DRs K ct S H xs vs) : ∀ n : Nat, DRs K ct S H (List.replicate n xs).flatten (List.replicate n vs).flatten
  | 0 => .nil
  | n + 1 => by
    rw [List.replicate_succ, List.replicate_succ, List.flatten_cons, List.flatten_cons]
    exact r.append (rep_drs r n)
theorem mulT_sound : OpR X (binaryOp .Mult) (rOp X.K ct oMulT) := by
  refine OpR.imp (op_repM.or op_repS) fun x y H Q ⟨m, ah, a, b, hr, ra, rb, p⟩ => ?_
  unfold oMulT at p
  split at p
  · rename_i xs k
    cases rb
    split at p
    · rename_i hc
      simp only [Bool.and_eq_true, decide_eq_true_eq] at hc
      obtain ⟨l, vs, rfl, h1, r1⟩ := tup_of ra
      refine .inl ⟨l, k, vs, rfl, rfl, h1, hc.1, hc.2.1, by rw [← r1.length]; exact Nat.le_of_ble_eq_true hc.2.2, fun hs => ?_, fun _ _ => p.new hr fun a ha kp s => new_tup (rep_drs r1 _) kp s⟩
      refine p.same hr ?_
      rcases hs with rfl | rfl
      · cases r1
        have : (List.replicate k.toNat ([] : List D)).flatten = [] := by simp
        rw [this]; exact ra
      · have : (List.replicate (Int.toNat 1) xs).flatten = xs := by simp
        rw [this]; exact ra
    · exact p.elim
  · cases ra; cases rb
    split at p
    · rename_i hc
      simp only [Bool.and_eq_true, decide_eq_true_eq] at hc
      exact .inr ⟨_, _, rfl, rfl, hc.1, hc.2.1, Nat.le_of_ble_eq_true hc.2.2, p.same hr (.str _)⟩
    · exact p.elim
  · exact p.elim
/-- texts by their order -/
def oS (g : List Nat → List Nat → Bool) : Op2 := fun x y h => match x, y with
  | .d (.str a), .d (.str b) => some (.d (.bl (g a.cps.toList b.cps.toList)), h)
  | _, _ => none
theorem oS_sound {op : CmpOp} {g : List Nat → List Nat → Bool} (ho : OpR X (compareOp op) (fun x y H Q => ∃ i j, x = .str i ∧ y = .str j ∧ Q (.bl (g i.cps.toList j.cps.toList)) H)) : OpR X (compareOp op) (rOp X.K ct (oS g)) :=
  OpR.imp ho fun x y H Q ⟨m, ah, a, b, hr, ra, rb, p⟩ => by
    unfold oS at p
    split at p
    · cases ra; cases rb; exact ⟨_, _, rfl, rfl, p.same hr (.bl _)⟩
    · exact p.elim
def oLeS : Op2 := oS fun i j => !decide (j < i)
def oGtS : Op2 := oS fun i j => decide (j < i)
def oGeS : Op2 := oS fun i j => !decide (i < j)
theorem leS_sound : OpR X (compareOp .LtE) (rOp X.K ct oLeS) := oS_sound op_le_str
theorem gtS_sound : OpR X (compareOp .Gt) (rOp X.K ct oGtS) := oS_sound op_gt_str
theorem geS_sound : OpR X (compareOp .GtE) (rOp X.K ct oGeS) := oS_sound op_ge_str
/-- one sign in a text -/
def oInC (neg : Bool) : Op2 := fun x y h => match x, y with
  | .d (.str a), .d (.str z) => (match a.cps.toList with
    | [c] => some (.d (.bl (if neg then !decide (c ∈ z.cps.toList) else decide (c ∈ z.cps.toList))), h)
    | _ => none)
  | _, _ => none
theorem str_one {a : Str} {c : Nat} (h : a.cps.toList = [c]) : a = ⟨#[c]⟩ := by
  obtain ⟨⟨l⟩⟩ := a
  simp only at h
  subst h; rfl
theorem inC_sound : OpR X (compareOp .In) (rOp X.K ct (oInC false)) := OpR.imp op_in_sign fun x y H Q ⟨m, ah, a, b, hr, ra, rb, p⟩ => by
  unfold oInC at p
  split at p
  · split at p
    · rename_i e
      cases ra; cases rb; exact ⟨_, _, congrArg V.str (str_one e), rfl, p.same hr (.bl _)⟩
    · exact p.elim
  · exact p.elim
theorem notInC_sound : OpR X (compareOp .NotIn) (rOp X.K ct (oInC true)) := OpR.imp op_notIn_sign fun x y H Q ⟨m, ah, a, b, hr, ra, rb, p⟩ => by
  unfold oInC at p
  split at p
  · split at p
    · rename_i e
      cases ra; cases rb; exact ⟨_, _, congrArg V.str (str_one e), rfl, p.same hr (.bl _)⟩
    · exact p.elim
  · exact p.elim
/-- flat things of one kind -/
def scF : D → D → Bool
  | .non, .non => true | .bl _, .bl _ => true | .int _, .int _ => true | .str _, .str _ => true
  | .non, .str _ => true | .str _, .non => true | .non, .int _ => true | .int _, .non => true | .non, .bl _ => true | .bl _, .non => true
  | .int _, .str _ => true | .str _, .int _ => true | .bl _, .str _ => true | .str _, .bl _ => true
  | _, _ => false
def oEqF (ne : Bool) : Op2 := fun x y h => match x, y with
  | .d a, .d b => if scF a b = true then some (.d (.bl (if ne then !eqF a b else eqF a b)), h) else none
  | _, _ => none
theorem scF_of {K : PySem.W.Frag} {S : Addr → Prop} {H : Hp} {a b : D} {x y : V} (h : scF a b = true) (ra : DR K ct S H a x) (rb : DR K ct S H b y) : scal x y = true ∧ decide (x = y) = eqF a b := by
  cases ra <;> cases rb <;> first | (cases h; done) | (refine ⟨rfl, ?_⟩; simp [eqF, Bool.beq_eq_decide_eq])
theorem eqF_sound : OpR X (compareOp .Eq) (rOp X.K ct (oEqF false)) := OpR.imp op_eq fun x y H Q ⟨m, ah, a, b, hr, ra, rb, p⟩ => by
  unfold oEqF at p
  split at p
  · split at p
    · rename_i hs
      obtain ⟨h1, h2⟩ := scF_of hs ra rb
      refine ⟨h1, ?_⟩
      rw [h2]
      exact p.same hr (.bl _)
    · exact p.elim
  · exact p.elim
theorem neF_sound : OpR X (compareOp .NotEq) (rOp X.K ct (oEqF true)) := OpR.imp op_ne fun x y H Q ⟨m, ah, a, b, hr, ra, rb, p⟩ => by
  unfold oEqF at p
  split at p
  · split at p
    · rename_i hs
      obtain ⟨h1, h2⟩ := scF_of hs ra rb
      refine ⟨h1, ?_⟩
      rw [h2]
      exact p.same hr (.bl _)
    · exact p.elim
  · exact p.elim
/-! ### all, any of a list of truths -/
def bls : List D → Option (List Bool)
  | [] => some []
  | .bl b :: xs => (bls xs).map (b :: ·)
  | _ :: _ => none
theorem bls_of {K : PySem.W.Frag} {S : Addr → Prop} {H : Hp} : ∀ {xs : List D} {vs : List V} {bs : List Bool}, DRs K ct S H xs vs → bls xs = some bs → vs = bs.map V.bl
  | _, _, _, .nil, h => by cases h; rfl
  | _, _, _, .cons (d := d) r t, h => by
    cases r <;> first | (cases h; done) | skip
    rename_i b
    unfold bls at h
    cases q : bls _ with
    | none => rw [q] at h; cases h
    | some l =>
      rw [q] at h
      cases h
      rw [bls_of t q]; rfl
def nBs (g : List Bool → Bool) : OpN := fun xs h => match xs with
  | [x] => (match lstOf x h with
    | some ys => (bls ys).map fun bs => (.d (.bl (g bs)), h)
    | none => none)
  | _ => none
theorem nBs_sound {id : String} {g : List Bool → Bool} (hc : CallR X (.builtin id) (fun vs H Q => ∃ (a : Addr) (bs : List Bool), vs = [V.ref a] ∧ SqL X.K H a (bs.map V.bl) ∧ Q (.bl (g bs)) H)) : CallR X (.builtin id) (rN X.K ct (nBs g)) := by
  refine CallR.imp hc fun vs H Q ⟨m, ah, xs, hr, rs, p⟩ => ?_
  unfold nBs at p
  split at p
  · cases rs with
    | cons r t =>
      cases t
      split at p
      · rename_i ys e
        obtain ⟨a, ws, rfl, h1, r1⟩ := lst_of hr e r
        cases q : bls ys with
        | none => rw [q] at p; exact p.elim
        | some bs =>
          rw [q] at p
          have ew := bls_of r1 q
          subst ew
          exact ⟨a, bs, rfl, .of h1, p.same hr (.bl _)⟩
      · exact p.elim
  · exact p.elim
def nAll : OpN := nBs fun bs => bs.all id
def nAny : OpN := nBs fun bs => bs.any id
theorem all_sound (hc : X.calm = true) : CallR X (.builtin "all") (rN X.K ct nAll) := nBs_sound (cr_all hc)
theorem any_sound (hc : X.calm = true) : CallR X (.builtin "any") (rN X.K ct nAny) := nBs_sound (cr_any hc)
/-! ### try that runs through -/
end
section
variable {X : Cx} {ct : CT} {W : WX} {pos : Pos} {body : List Stmt} {h0 : ExceptHandler} {hs : List ExceptHandler} {u : SemS}
/-- no exception leaves -/
def sThru (f : SemS) : SemS := fun σ h => match f σ h with
  | .exc _ _ _ => .bad
  | r => r
theorem ss_thru (hb : SSs X.nox ct W0 body u) : SS X ct W (.Try body (h0 :: hs) [] [] pos) (sThru u) := PS.imp (ps_try_thru0 hb) fun D σV H ⟨m, ah, σ, hr, lr, p⟩ => by
  refine ⟨m, ah, σ, hr, lr, ?_⟩
  unfold sThru at p
  cases e : u σ ah with
  | ok f σ' h' => rw [e] at p; exact p
  | exc x σ' h' => rw [e] at p; exact p.elim
  | bad => rw [e] at p; exact p.elim
end
end Mi

/-! Mi17: facts of many classes at once -/
namespace Mi
open PySem PySem.Spec L2
/-- own classes told apart by isinstance, built-in ones denied -/
def isiT (ok : List Nat) (bt : List String) (C : Nat) : List (Ty × Bool) := ok.map (fun E => (Ty.c E, E == C)) ++ bt.map fun s => (Ty.b s, false)
theorem IsiOk.mapC {K : PySem.W.Frag} {ct : CT} {u : Value} {g : Nat → Bool} {l : List (Ty × Bool)} (h : IsiOk K ct u l) : ∀ {ok : List Nat}, (∀ E ∈ ok, PySem.W.kitOne K (.ref (ct.ca E)) u = some (g E) ∧ IsiC K (ct.ca E)) → IsiOk K ct u (ok.map (fun E => (Ty.c E, g E)) ++ l)
  | [], _ => h
  | E :: ok, q => .consC (q E List.mem_cons_self).1 (q E List.mem_cons_self).2 (IsiOk.mapC h fun E' hE => q E' (List.mem_cons_of_mem _ hE))
theorem IsiOk.mapB {K : PySem.W.Frag} {ct : CT} {u : Value} : ∀ {bt : List String}, (∀ s ∈ bt, PySem.W.kitOne K (.type s) u = some false) → IsiOk K ct u (bt.map fun s => (Ty.b s, false))
  | [], _ => .nil
  | E :: ok, q => .consB (q E List.mem_cons_self) (IsiOk.mapB fun E' hE => q E' (List.mem_cons_of_mem _ hE))
theorem isiT_ok {K : PySem.W.Frag} {ct : CT} {cn : List Str} {ok : List Nat} {bt : List String} {cs : List Nat} {C : Nat} (hca : ∀ C, ct.ca C = cga K cn C) (hc : ∀ E ∈ ok, Cls K (ct.ca E)) (h1 : isiAllB K cn ok = true) (h2 : kitAllB K cn ok bt cs = true) (hC : C ∈ cs) : IsiOk K ct (.ref (ct.ca C)) (isiT ok bt C) := by
  have k := List.all_eq_true.mp h2 C hC
  have k1 := Bool.and_eq_true_iff.mp k
  rw [hca]
  refine IsiOk.mapC (.mapB fun s hs => kitA_ok (List.all_eq_true.mp k1.2 s hs)) fun E hE => ?_
  have h3 := List.all_eq_true.mp h1 E hE
  rw [← hca] at h3
  refine ⟨?_, isiB_ok (hc E hE) h3⟩
  rw [hca]
  exact kitA_ok (List.all_eq_true.mp k1.1 E hE)
/-- one class with an own __eq__ -/
structure EqC (X : Cx) (ct : CT) (fns : List Fn) (C i : Nat) : Prop where
  ex : ∃ F, fns[i]? = some F ∧ Meth X.K (ct.ca C) "__eq__" F.f ∧ FnI X.K F
theorem EqC.mk' {X : Cx} {ct : CT} {fns : List Fn} {C i : Nat} {F : Fn} (h : fns[i]? = some F) (m : Meth X.K (ct.ca C) "__eq__" F.f) (f : FnI X.K F) : EqC X ct fns C i := ⟨⟨F, h, m, f⟩⟩
inductive EqCs (X : Cx) (ct : CT) (fns : List Fn) : List (Nat × Nat) → Prop
  | nil : EqCs X ct fns []
  | cons {C i l} : EqC X ct fns C i → EqCs X ct fns l → EqCs X ct fns ((C, i) :: l)
theorem EqCs.at_ {X : Cx} {ct : CT} {fns : List Fn} {C i : Nat} : ∀ {l : List (Nat × Nat)}, EqCs X ct fns l → l.lookup C = some i → EqC X ct fns C i ∧ C ∈ l.map (·.1)
  | _, .nil, h => by cases h
  | _, .cons (C := C') (i := i') h t, e => by
    by_cases q : C = C'
    · subst q
      simp only [List.lookup, beq_self_eq_true] at e
      cases e
      exact ⟨h, List.mem_cons_self⟩
    · have b : (C == C') = false := beq_eq_false_iff_ne.mpr q
      simp only [List.lookup, b] at e
      exact ⟨(t.at_ e).1, List.mem_cons_of_mem _ (t.at_ e).2⟩
theorem EqCs.tab {X : Cx} {ct : CT} {fns : List Fn} {cn : List Str} {T : List (Nat × Nat)} (h : EqCs X ct fns T) (hca : ∀ C, ct.ca C = cga X.K cn C) (hn : nfAllB X.K cn (T.map (·.1)) = true) : EqT X ct fns T where
  own C i e := by
    obtain ⟨F, h1, h2, h3⟩ := (h.at_ e).1.ex
    exact ⟨F, h1, h2.at_, h2.fn, h3.bi⟩
  two C i C' i' e e' := by
    rw [hca, hca]
    exact List.all_eq_true.mp (List.all_eq_true.mp hn C (h.at_ e).2) C' (h.at_ e').2
/-- a number, a text of the module -/
theorem se_gI {X : Cx} {ct : CT} {W : WX} {pos : Pos} {x : Str} {i : Int} (hg : Gl X x) (hm : ∃ t, X.mg x = some (.int i t)) (hd : (x == ("__debug__" : Str)) = false := by decide) : SE X ct W (.Name x pos) (eK (.int i)) :=
  let ⟨_, h⟩ := hm; se_globI hg h hd
theorem se_gS {X : Cx} {ct : CT} {W : WX} {pos : Pos} {x : Str} {i : Str} (hg : Gl X x) (hm : ∃ t, X.mg x = some (.str i t)) (hd : (x == ("__debug__" : Str)) = false := by decide) : SE X ct W (.Name x pos) (eK (.str i)) :=
  let ⟨_, h⟩ := hm; se_globS hg h hd
end Mi

/-! Mi18: the head's own hook for many classes: each object is met once -/
namespace Mi
open PySem PySem.Spec L2
end Mi

/-! Mi19: drawn numbers, for any law; the further operators at work -/
namespace Mi
open PySem PySem.Spec
section
variable {h : Hs}
@[simp] theorem o_eqF_int (ne : Bool) (i j : Int) : oEqF ne (.d (.int i)) (.d (.int j)) h = some (.d (.bl (if ne then !(i == j) else i == j)), h) := rfl
@[simp] theorem o_eqF_str (ne : Bool) (i j : Str) : oEqF ne (.d (.str i)) (.d (.str j)) h = some (.d (.bl (if ne then !(i == j) else i == j)), h) := rfl
@[simp] theorem o_eqF_bl (ne : Bool) (i j : Bool) : oEqF ne (.d (.bl i)) (.d (.bl j)) h = some (.d (.bl (if ne then !(i == j) else i == j)), h) := rfl
@[simp] theorem ap_thru {σ : Lo} (f : SemS) : sThru f σ h = match f σ h with
  | .exc _ _ _ => .bad
  | r => r := rfl
end
/-- == of two data -/
def eqD2 (T : List (Nat × Nat)) (call : CallT) (x y : D) : Option Bool := match eqTop T call x y with
  | some r => some r
  | none => insE T call x y
theorem o_eqO {T : List (Nat × Nat)} {call : CallT} {x y : D} {b : Bool} (h : Hs) (e : eqD2 T call x y = some b) : oEqO false T call (.d x) (.d y) h = some (.d (.bl b), h) := by
  unfold eqD2 at e
  unfold oEqO
  dsimp only [viewD]
  cases q : eqTop T call x y with
  | some r => rw [q] at e; cases e; rfl
  | none => rw [q] at e; dsimp only at e ⊢; rw [e]; rfl
theorem o_neO {T : List (Nat × Nat)} {call : CallT} {x y : Vl} {d e : D} {b : Bool} (h : Hs) (hx : viewD x h = some d) (hy : viewD y h = some e) (q : eqTop T call d e = some b) : oEqO true T call x y h = some (.d (.bl (!b)), h) := by
  unfold oEqO
  rw [hx, hy]
  dsimp only
  rw [q]; rfl
def takeB (call : CallT) : SemS := (sSq (sIf (tBl (eBin (oEqF false) (eBin oIx (eVar 0) (eK (.int 2))) (eK (.int 0))))
      (sSq (sAs (eK (.int 0)) (gNm 2))
      (sSq (sIf (tBl (eBin oLt (eBin oIx (eVar 0) (eK (.int 1))) (eN nLen (aCons (eBin oIx (eVar 0) (eK (.int 0))) aNil))))
      (sAs (eBin oIx (eBin oIx (eVar 0) (eK (.int 0))) (eBin oIx (eVar 0) (eK (.int 1)))) (gNm 2))
      sNil)
      (sSq (sAs (eBin oAdd (eBin oIx (eVar 0) (eK (.int 1))) (eK (.int 1))) (gSt (eVar 0) (eK (.int 1))))
      (sIf (tBl (eBin oGe (eVar 2) (eBin oPow (eK (.int 10)) (eK (.int 18)))))
      (sAs (eVar 2) (gSt (eVar 0) (eK (.int 2))))
      (sSq (sAs (eBin oMod (eN nInt (aCons (eBin oAdd (eBin oAdd (eBin oAdd (eBin oMulI (eBin oIx (eVar 0) (eK (.int 3))) (eK (.int 69621))) (eBin oMulI (eBin oMod (eN nInt (aCons (eVar 2) aNil)) (eK (.int 2147483629))) (eK (.int 48271)))) (eBin oMulI (eBin oIx (eVar 0) (eK (.int 1))) (eK (.int 7919)))) (eK (.int 1))) aNil)) (eK (.int 2147483647))) (gNm 3))
      (sSq (sAs (eBin oMod (eN nInt (aCons (eBin oAdd (eBin oAdd (eBin oMulI (eVar 3) (eVar 3)) (eBin oMulI (eBin oIx (eVar 0) (eK (.int 1))) (eK (.int 104729)))) (eK (.int 13))) aNil)) (eK (.int 2147483629))) (gNm 3))
      (sSq (sAs (eVar 3) (gSt (eVar 0) (eK (.int 3))))
      (sRt (eBin oMod (eBin oDiv (eVar 3) (eK (.int 7))) (eVar 1))))))))))
      sNil)
      (sSq (sAs (eBin oMod (eN nInt (aCons (eBin oIx (eVar 0) (eK (.int 2))) aNil)) (eVar 1)) (gNm 4))
      (sSq (sAs (eBin oDiv (eBin oIx (eVar 0) (eK (.int 2))) (eVar 1)) (gSt (eVar 0) (eK (.int 2))))
      (sRt (eVar 4)))))
theorem atI_nat {α : Type} (xs : List α) (k : Nat) : L2.atI xs (k : Int) = xs[k]? := by
  unfold L2.atI L2.ixN
  by_cases h : k < xs.length
  · rw [if_pos (by omega), if_pos (by omega)]; simp
  · rw [if_pos (by omega), if_neg (by omega), List.getElem?_eq_none (by omega)]; rfl
theorem atI_back {α : Type} (xs : List α) (k : Nat) (h : k < xs.length) : L2.atI xs ((xs.length : Int) - 1 - (k : Int)) = xs.reverse[k]? := by
  rw [show (xs.length : Int) - 1 - (k : Int) = ((xs.length - 1 - k : Nat) : Int) by omega, atI_nat, List.getElem?_reverse h]
theorem cut_from {α : Type} (xs : List α) (k : Nat) : cutL xs (some (k : Int)) none = xs.drop k := by
  unfold cutL
  rw [HT.sIx_nat, HT.sIx_none]
  by_cases h : k ≤ xs.length
  · rw [Nat.min_eq_left h, List.take_of_length_le (by simp)]
  · rw [Nat.min_eq_right (by omega), List.drop_length, List.drop_eq_nil_of_le (by omega)]; simp
theorem cut_to {α : Type} (xs : List α) (k : Nat) : cutL xs none (some (k : Int)) = xs.take k := by
  unfold cutL
  rw [HT.sIx_nat, HT.sIx_none, List.drop_zero, Nat.sub_zero]
  by_cases h : k ≤ xs.length
  · rw [Nat.min_eq_left h]
  · rw [Nat.min_eq_right (by omega), List.take_length, List.take_of_length_le (by omega)]
/-! ### what both strippings do -/
def sF : List Int → List Int → List Int × List Int
  | x :: xs, y :: ys => if x = y then sF xs ys else (x :: xs, y :: ys)
  | xs, ys => (xs, ys)
def sB (l r : List Int) : List Int × List Int := ((sF (sF l r).1.reverse (sF l r).2.reverse).1.reverse, (sF (sF l r).1.reverse (sF l r).2.reverse).2.reverse)
theorem sF_nil_l (r : List Int) : sF [] r = ([], r) := by cases r <;> rfl
theorem sF_nil_r (l : List Int) : sF l [] = (l, []) := by cases l <;> rfl
theorem drop_cons {α : Type} {xs : List α} {k : Nat} {x : α} (e : xs[k]? = some x) : xs.drop k = x :: xs.drop (k + 1) := by
  obtain ⟨h, rfl⟩ := List.getElem?_eq_some_iff.mp e
  exact List.drop_eq_getElem_cons h
theorem map_get (l : List Int) (k : Nat) : (l.map D.int)[k]? = (l[k]?).map D.int := List.getElem?_map
theorem minI (a b : Nat) : (if (b : Int) < (a : Int) then (b : Int) else (a : Int)) = ((min a b : Nat) : Int) := by
  by_cases h : b < a
  · rw [if_pos (by omega), Nat.min_eq_right (by omega)]
  · rw [if_neg (by omega), Nat.min_eq_left (by omega)]
/-! ### drawn numbers -/
/-- the law's source of numbers, drawn from k times at most -/
def Src (k : Nat) (o : O) : Prop := ∃ (sc : List Int) (a : Nat) (b : Int) (c : Nat), o = .lst [.lv (sc.map D.int), .int (a : Int), .int b, .int (c : Int)] ∧ a ≤ k ∧ c < 2147483647
theorem Src.up {k m : Nat} {o : O} (h : Src k o) (hk : k ≤ m) : Src m o := by
  obtain ⟨sc, a, b, c, e, h1, h2⟩ := h
  exact ⟨sc, a, b, c, e, Nat.le_trans h1 hk, h2⟩
theorem cm {i j : Int} (h1 : i.natAbs < 2 ^ 200) (h2 : j.natAbs < 2 ^ 200) : cMulW i j = true := by
  unfold cMulW
  apply decide_eq_true
  have a : i.natAbs.log2 < 200 := by
    by_cases z : i.natAbs = 0
    · rw [z]; decide
    · exact (Nat.log2_lt z).mpr h1
  have b : j.natAbs.log2 < 200 := by
    by_cases z : j.natAbs = 0
    · rw [z]; decide
    · exact (Nat.log2_lt z).mpr h2
  omega
theorem cd {i j : Int} (h1 : 0 < j) (h2 : j.natAbs < 2 ^ 200) : cDivW i j = true := by
  unfold cDivW
  rw [Bool.and_eq_true, decide_eq_true_eq, decide_eq_true_eq]
  refine ⟨h1, ?_⟩
  have : j.natAbs.log2 < 200 := (Nat.log2_lt (by omega)).mpr h2
  omega
@[simp] theorem at0 {o : O} {t : Hs} : (o :: t)[0]? = some o := rfl
theorem e_take {defs : List MDef} {ix : Nat} (hd : defs[ix]? = some ⟨2, 5, false, takeB⟩) (n k : Nat) (hk : k < 1000000) {src : O} (hs : Src k src) (M : Nat) (hM : 0 < M) (hM2 : M < 2 ^ 180) (t : Hs) : ∃ v : Nat, v < M ∧ ∃ src', Src (k + 1) src' ∧ callF defs (n + 1) ix [.r 0, .d (.int (M : Int))] (src :: t) = .ok (.d (.int (v : Int))) (src' :: t) := by
  obtain ⟨sc, a, b, c, rfl, ha, hc⟩ := hs
  rw [callF_at (md := ⟨2, 5, false, takeB⟩) hd rfl]
  have dsh : ∀ (σ : Lo) (h : Hs), (⟨2, 5, false, takeB⟩ : MDef).body (callF defs n) σ h = takeB (callF defs n) σ h := fun _ _ => rfl
  have x0 : ∀ w x y z : D, L2.atI [w, x, y, z] 0 = some w := fun _ _ _ _ => rfl
  have x1 : ∀ w x y z : D, L2.atI [w, x, y, z] 1 = some x := fun _ _ _ _ => rfl
  have x2 : ∀ w x y z : D, L2.atI [w, x, y, z] 2 = some y := fun _ _ _ _ => rfl
  have x3 : ∀ w x y z : D, L2.atI [w, x, y, z] 3 = some z := fun _ _ _ _ => rfl
  have i1 : L2.ixN 4 1 = some 1 := rfl
  have i2 : L2.ixN 4 2 = some 2 := rfl
  have i3 : L2.ixN 4 3 = some 3 := rfl
  have rI : ∀ (xs : List D) (t : Hs) (i : Int), oIx (.r 0) (.d (.int i)) (.lst xs :: t) = (L2.atI xs i).map fun d => (.d d, .lst xs :: t) := fun xs t i => o_ixR rfl i
  have hMI : (0 : Int) < (M : Int) := by omega
  have dM : ∀ i : Int, cDivW i (M : Int) = true := fun i => cd hMI (by omega)
  have md : ∀ i : Int, ∃ v : Nat, v < M ∧ i % (M : Int) = (v : Int) := fun i => ⟨(i % (M : Int)).toNat, by
    have h1 := Int.emod_nonneg i (show (M : Int) ≠ 0 by omega)
    have h2 := Int.emod_lt_of_pos i hMI
    omega, by
    have h1 := Int.emod_nonneg i (show (M : Int) ≠ 0 by omega)
    omega⟩
  have pw : ∀ h : Hs, oPow (.d (.int 10)) (.d (.int 18)) h = some (.d (.int 1000000000000000000), h) := fun h => by
    rw [o_pow, show cPow 10 18 = true by decide +kernel]; rfl
  have d7 : ∀ i : Int, cDivW i 7 = true := fun i => cd (by omega) (by decide)
  by_cases hb : b = 0
  · subst hb
    have mix : ∀ cell : Int, ∃ c1 : Nat, c1 < 2147483647 ∧ ((c : Int) * 69621 + cell % 2147483629 * 48271 + ((a : Int) + 1) * 7919 + 1) % 2147483647 = (c1 : Int) := fun cell => by
      have h1 := Int.emod_nonneg ((c : Int) * 69621 + cell % 2147483629 * 48271 + ((a : Int) + 1) * 7919 + 1) (show (2147483647 : Int) ≠ 0 by omega)
      have h2 := Int.emod_lt_of_pos ((c : Int) * 69621 + cell % 2147483629 * 48271 + ((a : Int) + 1) * 7919 + 1) (show (0 : Int) < 2147483647 by omega)
      generalize ((c : Int) * 69621 + cell % 2147483629 * 48271 + ((a : Int) + 1) * 7919 + 1) % 2147483647 = z at *
      exact ⟨z.toNat, by omega, by omega⟩
    have mix2 : ∀ c1 : Nat, ∃ c2 : Nat, c2 < 2147483647 ∧ ((c1 : Int) * (c1 : Int) + ((a : Int) + 1) * 104729 + 13) % 2147483629 = (c2 : Int) := fun c1 => by
      have h1 := Int.emod_nonneg ((c1 : Int) * (c1 : Int) + ((a : Int) + 1) * 104729 + 13) (show (2147483629 : Int) ≠ 0 by omega)
      have h2 := Int.emod_lt_of_pos ((c1 : Int) * (c1 : Int) + ((a : Int) + 1) * 104729 + 13) (show (0 : Int) < 2147483629 by omega)
      generalize ((c1 : Int) * (c1 : Int) + ((a : Int) + 1) * 104729 + 13) % 2147483629 = z at *
      exact ⟨z.toNat, by omega, by omega⟩
    have q1 : cMulW (c : Int) 69621 = true := cm (by omega) (by decide)
    have q2 : ∀ cell : Int, cMulW (cell % 2147483629) 48271 = true := fun cell => by
      have h1 := Int.emod_nonneg cell (show (2147483629 : Int) ≠ 0 by omega)
      have h2 := Int.emod_lt_of_pos cell (show (0 : Int) < 2147483629 by omega)
      generalize cell % 2147483629 = z at *
      exact cm (by omega) (by decide)
    have q3 : cMulW ((a : Int) + 1) 7919 = true := cm (by omega) (by decide)
    have q4 : cMulW ((a : Int) + 1) 104729 = true := cm (by omega) (by decide)
    have q5 : ∀ c1 : Nat, c1 < 2147483647 → cMulW (c1 : Int) (c1 : Int) = true := fun c1 h => cm (by omega) (by omega)
    by_cases hlt : a < sc.length
    · have hlt' : (a : Int) < (sc.length : Int) := by omega
      have g : L2.atI (sc.map D.int) (a : Int) = some (.int sc[a]) := by rw [atI_nat, map_get, List.getElem?_eq_getElem hlt]; rfl
      generalize sc[a] = cell at *
      by_cases hbig : 1000000000000000000 ≤ cell
      · obtain ⟨v, hv, ev⟩ := md cell
        refine ⟨v, hv, .lst [.lv (sc.map D.int), .int ((a + 1 : Nat) : Int), .int (cell / (M : Int)), .int (c : Int)], ⟨sc, a + 1, _, c, rfl, by omega, hc⟩, ?_⟩
        simp [startL, takeB, rI, x0, x1, x2, x3, i1, i2, i3, hlt', g, pw, hbig, hM, dM, ev]
      · obtain ⟨c1, hc1, e1⟩ := mix cell
        obtain ⟨c2, hc2, e2⟩ := mix2 c1
        obtain ⟨v, hv, ev⟩ := md ((c2 : Int) / 7)
        refine ⟨v, hv, .lst [.lv (sc.map D.int), .int ((a + 1 : Nat) : Int), .int 0, .int (c2 : Int)], ⟨sc, a + 1, 0, c2, rfl, by omega, hc2⟩, ?_⟩
        simp [startL, takeB, rI, x0, x1, x2, x3, i1, i2, i3, hlt', g, pw, hbig, hM, dM, d7, q1, q2, q3, q4, q5 c1 hc1, e1, e2, ev]
    · have hlt' : ¬ (a : Int) < (sc.length : Int) := by omega
      obtain ⟨c1, hc1, e1⟩ := mix 0
      obtain ⟨c2, hc2, e2⟩ := mix2 c1
      obtain ⟨v, hv, ev⟩ := md ((c2 : Int) / 7)
      refine ⟨v, hv, .lst [.lv (sc.map D.int), .int ((a + 1 : Nat) : Int), .int 0, .int (c2 : Int)], ⟨sc, a + 1, 0, c2, rfl, by omega, hc2⟩, ?_⟩
      have q20 := q2 0
      simp at e1 q20
      simp [startL, takeB, rI, x0, x1, x2, x3, i1, i2, i3, hlt', pw, hM, dM, d7, q1, q20, q3, q4, q5 c1 hc1, e1, e2, ev]
  · obtain ⟨v, hv, ev⟩ := md b
    refine ⟨v, hv, .lst [.lv (sc.map D.int), .int (a : Int), .int (b / (M : Int)), .int (c : Int)], ⟨sc, a, _, c, rfl, by omega, hc⟩, ?_⟩
    simp [startL, takeB, rI, x0, x1, x2, x3, i1, i2, i3, hb, hM, dM, ev]
end Mi
namespace Mi
open PySem PySem.Spec
theorem cmpL_draw {vs : List Nat} {g : SemG} {f : SemE} {σ : Lo} (cost K : Nat) (P : D → Prop) (t : Hs) : ∀ (ds : List D) (k : Nat) (src : O) (acc : List D),
    (∀ d ∈ ds, ∀ k src h', k + cost ≤ K → Src k src → ∃ σ1 y src', (∀ h, g (.d d) (wipeL σ vs) h = some (σ1, h)) ∧ P y ∧ Src (k + cost) src' ∧ f σ1 (src :: h') = .ok (.d y) (src' :: h')) →
    Src k src → k + cost * ds.length ≤ K → acc.length + ds.length < sizeLine →
    ∃ ys src', ys.length = ds.length ∧ (∀ y ∈ ys, P y) ∧ Src (k + cost * ds.length) src' ∧ cmpL vs g tYs f (t.length + 1) ds σ (src :: (t ++ [.lst acc])) = some (src' :: (t ++ [.lst (acc ++ ys)]))
  | [], k, src, acc, _, hs, _, _ => ⟨[], src, rfl, fun y hy => (by cases hy), hs.up (by simp), by simp [cmpL]⟩
  | d :: ds, k, src, acc, step, hs, hK, hz => by
    rw [List.length_cons, Nat.mul_succ] at hK
    rw [List.length_cons] at hz
    obtain ⟨σ1, y, src1, e1, py, s1, e2⟩ := step d List.mem_cons_self k src (t ++ [.lst acc]) (by omega) hs
    obtain ⟨ys, src', h1, h2, h3, h4⟩ := cmpL_draw cost K P t ds (k + cost) src1 (acc ++ [y]) (fun d hd => step d (List.mem_cons_of_mem _ hd)) s1 (by omega) (by rw [List.length_append, List.length_singleton]; omega)
    have ca := cmpAdd_d (h := src1 :: t) (acc := acc) (d := y) (by omega)
    rw [List.length_cons, List.cons_append, List.cons_append] at ca
    refine ⟨y :: ys, src', by rw [List.length_cons, h1, List.length_cons], fun z hz => ?_, h3.up (by rw [List.length_cons, Nat.mul_succ]; omega), ?_⟩
    · rcases List.mem_cons.mp hz with rfl | hz
      · exact py
      · exact h2 z hz
    · rw [cmpL, e1]
      dsimp only
      rw [ap_tys]
      dsimp only
      rw [if_pos rfl, e2]
      dsimp only
      rw [ca]
      dsimp only
      rw [h4, List.append_assoc]
      rfl
theorem ints_of {P : Int → Prop} : ∀ {ys : List D}, (∀ y ∈ ys, ∃ i : Int, y = .int i ∧ P i) → ∃ w : List Int, ys = w.map D.int ∧ (∀ i ∈ w, P i) ∧ w.length = ys.length
  | [], _ => ⟨[], rfl, fun i hi => (by cases hi), rfl⟩
  | y :: ys, h => by
    obtain ⟨i, rfl, pi⟩ := h y List.mem_cons_self
    obtain ⟨w, rfl, pw, lw⟩ := ints_of fun z hz => h z (List.mem_cons_of_mem _ hz)
    refine ⟨i :: w, rfl, fun j hj => ?_, by simp⟩
    rcases List.mem_cons.mp hj with rfl | hj
    · exact pi
    · exact pw j hj
end Mi

/-! Mi20: calls with defaults -/
namespace Mi
open PySem PySem.Spec L2
/-- a def whose last parameters are filled by defaults -/
structure FnD (K : PySem.W.Frag) (ct : CT) (F : Fn) (ds : List D) : Prop where
  kp : PySem.W.keepIn K (.ref F.f) = true
  bi : ∃ (dvs : List V) (dus : List Value), Dfl K ct ds dvs ∧ Vals dvs dus ∧ Binds K F.fd F.ps dus
theorem Dfl.int {K : PySem.W.Frag} {ct : CT} {i : Int} {ds : List D} {dvs : List V} (h : Dfl K ct ds dvs) : Dfl K ct (.int i :: ds) (.int i :: dvs) := fun m ah H => .cons (.int i) (h m ah H)
theorem Dfl.str {K : PySem.W.Frag} {ct : CT} {i : Str} {ds : List D} {dvs : List V} (h : Dfl K ct ds dvs) : Dfl K ct (.str i :: ds) (.str i :: dvs) := fun m ah H => .cons (.str i) (h m ah H)
theorem Dfl.non {K : PySem.W.Frag} {ct : CT} {ds : List D} {dvs : List V} (h : Dfl K ct ds dvs) : Dfl K ct (.non :: ds) (.non :: dvs) := fun m ah H => .cons .non (h m ah H)
section
variable {X : Cx} {ct : CT} {W : WX} {pos p apos : Pos} {e o : Expr} {es : List Expr} {f : SemE} {fs : SemA} {call : CallT} {n i : Nat} {F : Fn} {x : Str} {fns : List Fn} {ds : List D}
theorem sc_callD (c : Cq X ct fns call n) (tk : Takes X W) (fi : FnD X.K ct F ds) (hm : X.mg x = some (.ref F.f)) (hF : fns[i]? = some F) (hg : Gl X x) (ha : SA X ct W (e :: es) fs) (hdb : (x == ("__debug__" : Str)) = false := by decide)
    (he : starEach (e :: es) X.env = (false, eval e X.env) :: starEach es X.env := by rfl) (hpl : (backTo pos (starEach es X.env)).any (·.1) = false := by rfl) : SE X ct W (.Call (.Name x p) (e :: es) [] pos) (eCl call i ds fs) :=
  let ⟨_, _, h1, h2, h3⟩ := fi.bi
  se_call c.co tk (c.ro.mono (Nat.le_succ _)) hF hg hm fi.kp h3 h2 h1 ha hdb he hpl
theorem sc_callD0 (c : Cq X ct fns call n) (tk : Takes X W) (fi : FnD X.K ct F ds) (hm : X.mg x = some (.ref F.f)) (hF : fns[i]? = some F) (hg : Gl X x) (hdb : (x == ("__debug__" : Str)) = false := by decide) : SE X ct W (.Call (.Name x p) [] [] pos) (eCl call i ds aNil) :=
  let ⟨_, _, h1, h2, h3⟩ := fi.bi
  se_call0 c.co tk (c.ro.mono (Nat.le_succ _)) hF hg hm fi.kp h3 h2 h1 hdb
theorem sc_makeD {C : Nat} (c : Cq X ct fns call n) (tk : Takes X W) (fi : FnD X.K ct F ds) (M : Mk X.K (ct.ca C) F.f) (hm : X.mg x = some (.ref (ct.ca C))) (hF : fns[i]? = some F) (hg : Gl X x) (ha : SA X ct W (e :: es) fs) (hdb : (x == ("__debug__" : Str)) = false := by decide)
    (he : starEach (e :: es) X.env = (false, eval e X.env) :: starEach es X.env := by rfl) (hpl : (backTo pos (starEach es X.env)).any (·.1) = false := by rfl) : SE X ct W (.Call (.Name x p) (e :: es) [] pos) (eMk call i C ds fs) :=
  let ⟨_, _, h1, h2, h3⟩ := fi.bi
  se_make c.co tk c.ro hF M hg hm h3 h2 h1 ha hdb he hpl
end
end Mi

/-! Mi21: repr, divmod, dicts with keys that are tuples -/
namespace Mi
open PySem PySem.Spec L2

/-! ### repr -/
def rprOk (d : D) : Bool := shp d && (d.pd.showable && Nat.ble d.pd.shown.length sizeLine)
def nRepr : OpN := fun xs h => match xs with
  | [.d .non] => some (.d (.str "None"), h)
  | [.d (.bl b)] => some (.d (.str (if b then "True" else "False")), h)
  | [.d (.int i)] => if Nat.ble i.natAbs.log2 1900 = true then some (.d (.str (toString i : String)), h) else none
  | [x] => (match viewD x h with
    | some d => if flD d = false ∧ rprOk d = true then some (.d (.str d.pd.shown), h) else none
    | none => none)
  | _ => none
theorem ref_flat {K : PySem.W.Frag} {ct : CT} {m : List Addr} {ah : Hs} {H : Hp} (hr : HR K ct m ah H) {x : Vl} {d : D} {v : V} (e : viewD x ah = some d) (r : VlR K ct m ah H x v) (h : flD d = false) : ∃ a, v = .ref a := ref_of (view_dr e hr r) h
theorem repr_sound {X : Cx} {ct : CT} {k : Nat} (hr : Room (k + 1) X.A) : CallR X (.builtin "repr") (rN X.K ct nRepr) := by
  intro pins s σ H vs us Q I rv ⟨m, ah, xs, h1, rs, p⟩
  unfold nRepr at p
  split at p
  · cases rs with
    | cons r t =>
      cases t; cases r
      obtain ⟨u, rfl, ru⟩ := rv.one
      cases ru
      exact PySem.P.repr_of_none ⟨.str _, H, I.tok _, ⟨_, rfl⟩, p.same h1 (.str _)⟩
  · cases rs with
    | cons r t =>
      cases t; cases r
      obtain ⟨u, rfl, ru⟩ := rv.one
      cases ru
      exact PySem.P.repr_of_bool ⟨.str _, H, I.tok _, ⟨_, rfl⟩, p.same h1 (.str _)⟩
  · split at p
    · rename_i hl
      cases rs with
      | cons r t =>
        cases t; cases r
        obtain ⟨u, rfl, ru⟩ := rv.one
        obtain ⟨tk, rfl⟩ := ru
        exact PySem.P.repr_of_int (by have := Nat.le_of_ble_eq_true hl; omega) ⟨.str _, H, I.tok _, ⟨_, rfl⟩, p.same h1 (.str _)⟩
    · exact p.elim
  · cases rs with
    | cons r t =>
      cases t
      split at p
      · rename_i d e
        split at p
        · rename_i hc
          obtain ⟨hf, hk⟩ := hc
          unfold rprOk at hk
          simp only [Bool.and_eq_true] at hk
          obtain ⟨k1, k2, k3⟩ := hk
          have kl := SeqAt.canLay_of_shaped k1
          obtain ⟨a, rfl⟩ := ref_flat h1 e r hf
          obtain ⟨u, rfl, ru⟩ := rv.one
          cases ru
          obtain ⟨as, rd⟩ := Dp.reads I d.pd (.ref a) (.ref a) (view_dp h1 e r k1) rfl
          have dp := SeqAt.depth_of_shaped k1
          have un := hr.un
          refine repr_of_reads' rd k2 (PyData.noDict_hsm (PyData.hasDict_of_canLay _ kl)) hr.gd (by omega) (fun _ _ q => q) (fun h' u tk hk => ?_) (Nat.le_of_ble_eq_true k3)
          exact ⟨.str _, H, I.kept hk, ⟨_, rfl⟩, p.same h1 (.str _)⟩
        · exact p.elim
      · exact p.elim
  · exact p.elim

/-! ### divmod -/
def nDm : OpN := fun xs h => match xs with
  | [.d (.int i), .d (.int j)] => if decide (0 < j) && Nat.ble j.natAbs 1000000 then some (.d (.tup [.int (i / j), .int (i % j)]), h) else none
  | _ => none
theorem divmod_sound {X : Cx} {ct : CT} : CallR X (.builtin "divmod") (rN X.K ct nDm) := by
  refine CallR.imp call_divmod fun vs H Q ⟨m, ah, xs, hr, rs, p⟩ => ?_
  unfold nDm at p
  split at p
  · cases rs with
    | cons r t =>
      cases t with
      | cons r2 t =>
        cases t; cases r; cases r2
        split at p
        · rename_i hc
          simp only [Bool.and_eq_true, decide_eq_true_eq] at hc
          have := Nat.le_of_ble_eq_true hc.2
          exact ⟨_, _, rfl, ⟨hc.1, by omega⟩, p.new hr fun a ha k s => new_tup (.cons (.int _) (.cons (.int _) .nil)) k s⟩
        · exact p.elim
  · exact p.elim
end Mi

/-! Mi22: dicts with keys of ints and texts, or of tuples of them -/
namespace Mi
open PySem PySem.Spec L2

def keyK : D → Option Key
  | .int i => some (.inl i)
  | .str x => some (.inr x)
  | _ => none
def keysK : List D → Option (List Key)
  | [] => some []
  | d :: ds => (keyK d).bind fun k => (keysK ds).map (k :: ·)
def keyT : D → Option (List Key)
  | .tup ds => keysK ds
  | _ => none
section
variable {κ : Type} [DecidableEq κ]
def valD (kvs : List (κ × D)) (k : κ) : Option D := (kvs.find? fun kv => decide (kv.1 = k)).map (·.2)
def putD (kvs : List (κ × D)) (k : κ) (v : D) : List (κ × D) := if (kvs.any fun kv => decide (kv.1 = k)) = true then kvs.map (fun kv => if kv.1 = k then (kv.1, v) else kv) else kvs ++ [(k, v)]
end
section
variable {K : PySem.W.Frag} {ct : CT} {S : Addr → Prop} {H : Hp}
theorem key_of {d : D} {y : V} {k : Key} (r : DR K ct S H d y) (e : keyK d = some k) : y = kV k := by
  unfold keyK at e
  split at e
  · cases e; cases r; rfl
  · cases e; cases r; rfl
  · cases e
theorem keys_of : ∀ {ds : List D} {vs : List V} {ks : List Key}, DRs K ct S H ds vs → keysK ds = some ks → vs = ks.map kV
  | _, _, _, .nil, e => by cases e; rfl
  | _, _, _, .cons r t, e => by
    unfold keysK at e
    obtain ⟨k, e1, e2⟩ := Option.bind_eq_some_iff.mp e
    obtain ⟨ks, e3, rfl⟩ := Option.map_eq_some_iff.mp e2
    rw [key_of r e1, keys_of t e3]; rfl
theorem val_k {k : Key} : ∀ {kvs : List (Key × D)} {vs : List (Key × V)}, DRk K ct S H kvs vs → (valD kvs k = none → valV vs k = none) ∧ ∀ d, valD kvs k = some d → ∃ v, valV vs k = some v ∧ DR K ct S H d v
  | _, _, .nil => ⟨fun _ => rfl, fun d e => by cases e⟩
  | _, _, .cons (k := j) r t => by
    obtain ⟨i1, i2⟩ := val_k (k := k) t
    unfold valD valV at *
    by_cases q : j = k
    · subst q
      simp only [List.find?_cons, decide_true, Option.map_some]
      exact ⟨fun e => (by cases e), fun d e => by cases e; exact ⟨_, rfl, r⟩⟩
    · simp only [List.find?_cons, decide_eq_false q]
      exact ⟨i1, i2⟩
theorem val_t {k : List Key} : ∀ {kvs : List (List Key × D)} {vs : List (List Key × V)}, DRt K ct S H kvs vs → (valD kvs k = none → valV vs k = none) ∧ ∀ d, valD kvs k = some d → ∃ v, valV vs k = some v ∧ DR K ct S H d v
  | _, _, .nil => ⟨fun _ => rfl, fun d e => by cases e⟩
  | _, _, .cons (k := j) r t => by
    obtain ⟨i1, i2⟩ := val_t (k := k) t
    unfold valD valV at *
    by_cases q : j = k
    · subst q
      simp only [List.find?_cons, decide_true, Option.map_some]
      exact ⟨fun e => (by cases e), fun d e => by cases e; exact ⟨_, rfl, r⟩⟩
    · simp only [List.find?_cons, decide_eq_false q]
      exact ⟨i1, i2⟩
theorem any_k {k : Key} : ∀ {kvs : List (Key × D)} {vs : List (Key × V)}, DRk K ct S H kvs vs → (kvs.any fun kv => decide (kv.1 = k)) = vs.any fun kv => decide (kv.1 = k)
  | _, _, .nil => rfl
  | _, _, .cons r t => by rw [List.any_cons, List.any_cons, any_k t]
theorem any_t {k : List Key} : ∀ {kvs : List (List Key × D)} {vs : List (List Key × V)}, DRt K ct S H kvs vs → (kvs.any fun kv => decide (kv.1 = k)) = vs.any fun kv => decide (kv.1 = k)
  | _, _, .nil => rfl
  | _, _, .cons r t => by rw [List.any_cons, List.any_cons, any_t t]
theorem map_k {k : Key} {d : D} {v : V} (rv : DR K ct S H d v) : ∀ {kvs : List (Key × D)} {vs : List (Key × V)}, DRk K ct S H kvs vs → DRk K ct S H (kvs.map fun kv => if kv.1 = k then (kv.1, d) else kv) (vs.map fun kv => if kv.1 = k then (kv.1, v) else kv)
  | _, _, .nil => .nil
  | _, _, .cons (k := j) r t => by
    rw [List.map_cons, List.map_cons]
    by_cases q : j = k
    · simp only [if_pos q]; exact .cons rv (map_k rv t)
    · simp only [if_neg q]; exact .cons r (map_k rv t)
theorem map_t {k : List Key} {d : D} {v : V} (rv : DR K ct S H d v) : ∀ {kvs : List (List Key × D)} {vs : List (List Key × V)}, DRt K ct S H kvs vs → DRt K ct S H (kvs.map fun kv => if kv.1 = k then (kv.1, d) else kv) (vs.map fun kv => if kv.1 = k then (kv.1, v) else kv)
  | _, _, .nil => .nil
  | _, _, .cons (k := j) r t => by
    rw [List.map_cons, List.map_cons]
    by_cases q : j = k
    · simp only [if_pos q]; exact .cons rv (map_t rv t)
    · simp only [if_neg q]; exact .cons r (map_t rv t)
theorem app_k {k : Key} {d : D} {v : V} (rv : DR K ct S H d v) : ∀ {kvs : List (Key × D)} {vs : List (Key × V)}, DRk K ct S H kvs vs → DRk K ct S H (kvs ++ [(k, d)]) (vs ++ [(k, v)])
  | _, _, .nil => .cons rv .nil
  | _, _, .cons r t => .cons r (app_k rv t)
theorem app_t {k : List Key} {d : D} {v : V} (rv : DR K ct S H d v) : ∀ {kvs : List (List Key × D)} {vs : List (List Key × V)}, DRt K ct S H kvs vs → DRt K ct S H (kvs ++ [(k, d)]) (vs ++ [(k, v)])
  | _, _, .nil => .cons rv .nil
  | _, _, .cons r t => .cons r (app_t rv t)
theorem put_k {k : Key} {d : D} {v : V} (rv : DR K ct S H d v) {kvs : List (Key × D)} {vs : List (Key × V)} (r : DRk K ct S H kvs vs) : DRk K ct S H (putD kvs k d) (putK vs k v) := by
  unfold putD putK
  rw [any_k r]
  split
  · exact map_k rv r
  · exact app_k rv r
theorem put_t {k : List Key} {d : D} {v : V} (rv : DR K ct S H d v) {kvs : List (List Key × D)} {vs : List (List Key × V)} (r : DRt K ct S H kvs vs) : DRt K ct S H (putD kvs k d) (putK vs k v) := by
  unfold putD putK
  rw [any_t r]
  split
  · exact map_t rv r
  · exact app_t rv r
end
/-- the value of a key -/
def dGet (x y : Vl) (h : Hs) : Option (Option D) := match y with
  | .d k => (match x with
    | .d (.dk kvs) => (keyK k).map (valD kvs)
    | .d (.dt kvs) => (keyT k).map (valD kvs)
    | .r i => (match h[i]? with
      | some (.dk kvs) => (keyK k).map (valD kvs)
      | some (.dt kvs) => (keyT k).map (valD kvs)
      | _ => none)
    | _ => none)
  | _ => none
section
variable {K : PySem.W.Frag} {ct : CT} {m : List Addr} {ah : Hs} {H : Hp}
theorem get_k {a : Addr} {kvs : List (Key × D)} {vs : List (Key × V)} {k : D} {w : V} {o : Option D} (hH : H a = some (.dK vs)) (r : DRk K ct (Sf m ah) H kvs vs) (rk : DR K ct (Sf m ah) H k w) (e : (keyK k).map (valD kvs) = some o) :
    ∃ ov, DGet H a w ov ∧ IsD H a ∧ (o = none → ov = none) ∧ ∀ d, o = some d → ∃ u, ov = some u ∧ DR K ct (Sf m ah) H d u := by
  obtain ⟨key, e1, rfl⟩ := Option.map_eq_some_iff.mp e
  have ew := key_of rk e1
  subst ew
  obtain ⟨i1, i2⟩ := val_k (k := key) r
  exact ⟨_, DGet.k hH, .inl ⟨_, .inl hH⟩, i1, i2⟩
theorem get_t {a : Addr} {kvs : List (List Key × D)} {vs : List (List Key × V)} {k : D} {w : V} {o : Option D} (hH : H a = some (.dT vs)) (r : DRt K ct (Sf m ah) H kvs vs) (rk : DR K ct (Sf m ah) H k w) (e : (keyT k).map (valD kvs) = some o) :
    ∃ ov, DGet H a w ov ∧ IsD H a ∧ (o = none → ov = none) ∧ ∀ d, o = some d → ∃ u, ov = some u ∧ DR K ct (Sf m ah) H d u := by
  obtain ⟨key, e1, rfl⟩ := Option.map_eq_some_iff.mp e
  unfold keyT at e1
  split at e1
  · cases rk with
    | tup h1 t =>
      have ew := keys_of t e1
      subst ew
      obtain ⟨i1, i2⟩ := val_t (k := key) r
      exact ⟨_, DGet.t hH h1.1, .inr ⟨_, .inl hH⟩, i1, i2⟩
  · cases e1
theorem dget_of (hr : HR K ct m ah H) {x y : Vl} {v w : V} {o : Option D} (rx : VlR K ct m ah H x v) (ry : VlR K ct m ah H y w) (e : dGet x y ah = some o) :
    ∃ a ov, v = .ref a ∧ DGet H a w ov ∧ IsD H a ∧ (o = none → ov = none) ∧ ∀ d, o = some d → ∃ u, ov = some u ∧ DR K ct (Sf m ah) H d u := by
  unfold dGet at e
  split at e
  · split at e
    · cases rx with
      | dk h1 _ t => exact ⟨_, (get_k h1 t ry e).choose, rfl, (get_k h1 t ry e).choose_spec⟩
    · cases rx with
      | dt h1 _ t => exact ⟨_, (get_t h1 t ry e).choose, rfl, (get_t h1 t ry e).choose_spec⟩
    · rename_i i
      obtain ⟨a, ha, rfl⟩ := rx
      split at e
      · rename_i kvs hk
        obtain ⟨u, h1, h2⟩ := hr.ob i a _ ha hk
        cases h2 with
        | dk t => exact ⟨a, (get_k h1 t ry e).choose, rfl, (get_k h1 t ry e).choose_spec⟩
      · rename_i kvs hk
        obtain ⟨u, h1, h2⟩ := hr.ob i a _ ha hk
        cases h2 with
        | dt t => exact ⟨a, (get_t h1 t ry e).choose, rfl, (get_t h1 t ry e).choose_spec⟩
      · cases e
    · cases e
  · cases e
end
def oDIn (neg : Bool) : Op2 := fun x y h => (dGet y x h).map fun o => (.d (.bl (if neg then !o.isSome else o.isSome)), h)
def oDGet : Op2 := fun x y h => match dGet x y h with
  | some (some d) => some (.d d, h)
  | _ => none
def eDg1 (f g : SemE) : SemE := fun σ h => rb (f σ h) fun x h1 => rb (g σ h1) fun y h2 => match dGet x y h2 with
  | some o => .ok (.d (o.getD .non)) h2
  | none => .bad
def isDct (x : Vl) (h : Hs) : Bool := match x with
  | .d (.dk _) => true
  | .d (.dt _) => true
  | .r i => (match h[i]? with
    | some (.dk _) => true
    | some (.dt _) => true
    | _ => false)
  | _ => false
def eDg2 (f g k : SemE) : SemE := fun σ h => rb (f σ h) fun x h1 => if isDct x h1 = true then rb (g σ h1) fun y h2 => rb (k σ h2) fun z h3 => (match dGet x y h3 with
  | some (some d) => .ok (.d d) h3
  | some none => .ok z h3
  | none => .bad) else .bad
theorem isDct_of {K : PySem.W.Frag} {ct : CT} {m : List Addr} {ah : Hs} {H : Hp} (hr : HR K ct m ah H) {x : Vl} {v : V} (rx : VlR K ct m ah H x v) (e : isDct x ah = true) : ∃ a, v = .ref a ∧ IsD H a := by
  unfold isDct at e
  split at e
  · cases rx with
    | dk h1 _ _ => exact ⟨_, rfl, .inl ⟨_, .inl h1⟩⟩
  · cases rx with
    | dt h1 _ _ => exact ⟨_, rfl, .inr ⟨_, .inl h1⟩⟩
  · rename_i i
    obtain ⟨a, ha, rfl⟩ := rx
    split at e
    · rename_i hk
      obtain ⟨u, h1, h2⟩ := hr.ob i a _ ha hk
      cases h2; exact ⟨a, rfl, .inl ⟨_, .inl h1⟩⟩
    · rename_i hk
      obtain ⟨u, h1, h2⟩ := hr.ob i a _ ha hk
      cases h2; exact ⟨a, rfl, .inr ⟨_, .inl h1⟩⟩
    · cases e
  · cases e
def dPut (x k : Vl) (d : D) (h : Hs) : Option Hs := match x, k with
  | .r i, .d k => (match h[i]? with
    | some (.dk kvs) => (keyK k).bind fun key => if kvs.length < sizeLine then some (h.set i (.dk (putD kvs key d))) else none
    | some (.dt kvs) => (keyT k).bind fun key => if kvs.length < sizeLine then some (h.set i (.dt (putD kvs key d))) else none
    | _ => none)
  | _, _ => none
def sDp (f g v : SemE) : SemS := fun σ h => sb (v σ h) σ fun y h1 => match toD y h1 with
  | none => .bad
  | some (d, h2) => sb (f σ h2) σ fun x h3 => sb (g σ h3) σ fun k h4 => match dPut x k d h4 with
    | some h5 => .ok .nx σ h5
    | none => .bad
theorem DRk.length' {K : PySem.W.Frag} {ct : CT} {S : Addr → Prop} {H : Hp} {d : List (Key × D)} {v : List (Key × V)} (h : DRk K ct S H d v) : d.length = v.length := DRk.length h
section
variable {X : Cx} {ct : CT} {W : WX} {pos pos' apos cpos : Pos} {o i e a b value : Expr} {f g k v : SemE}
theorem din_sound (hu : X.A.units + 65 < cLine) : OpR X (compareOp .In) (rOp X.K ct (oDIn false)) := by
  intro pins s σ H x y u1 u2 Q I q1 q2 ⟨m, ah, a, b, h1, ra, rb, p⟩
  unfold oDIn at p
  cases e : dGet b a ah with
  | none => rw [e] at p; exact p.elim
  | some o =>
    rw [e] at p
    obtain ⟨c, ov, rfl, g1, g2, n1, n2⟩ := dget_of h1 rb ra e
    have es : ov.isSome = o.isSome := by
      cases o with
      | none => rw [n1 rfl]; rfl
      | some d => obtain ⟨u, e2, _⟩ := n2 d rfl; rw [e2]; rfl
    cases q2
    exact d_in (by omega) I g1 q1 fun s' I' => ⟨.bl _, H, I', rfl, by rw [es]; exact p.same h1 (.bl _)⟩
theorem dnotin_sound (hu : X.A.units + 65 < cLine) : OpR X (compareOp .NotIn) (rOp X.K ct (oDIn true)) := by
  intro pins s σ H x y u1 u2 Q I q1 q2 ⟨m, ah, a, b, h1, ra, rb, p⟩
  unfold oDIn at p
  cases e : dGet b a ah with
  | none => rw [e] at p; exact p.elim
  | some o =>
    rw [e] at p
    obtain ⟨c, ov, rfl, g1, g2, n1, n2⟩ := dget_of h1 rb ra e
    have es : ov.isSome = o.isSome := by
      cases o with
      | none => rw [n1 rfl]; rfl
      | some d => obtain ⟨u, e2, _⟩ := n2 d rfl; rw [e2]; rfl
    cases q2
    exact d_notIn (by omega) I g1 q1 fun s' I' => ⟨.bl _, H, I', rfl, by rw [es]; exact p.same h1 (.bl _)⟩
theorem se_dget (hu : X.A.units + 65 < cLine) (ho : SE X ct W o f) (hi : SE X ct W i g) (hs : NoSl i := by exact fun _ _ => rfl) : SE X ct W (.Subscript o i pos) (eBin oDGet f g) :=
  PE.imp (pe_dget (by omega) ho hi hs) fun σV H Q ⟨m, ah, σ, hr, lr, p⟩ => ⟨m, ah, σ, hr, lr, (Po.bind (R := VlR X.K ct) p).imp fun x H1 ⟨m1, h1, x', hr1, e1, r1, p1⟩ =>
    ⟨m1, h1, σ, hr1, lr.ext e1, (Po.bind (R := VlR X.K ct) p1).imp fun y H2 ⟨m2, h2, y', hr2, e2, r2, p2⟩ => by
      have p3 := Pp.of p2
      unfold oDGet at p3
      split at p3
      · rename_i d e
        obtain ⟨c, ov, rfl, g1, _, _, n2⟩ := dget_of hr2 (VlR.ext e2 r1) r2 e
        obtain ⟨u, rfl, ru⟩ := n2 d rfl
        exact ⟨c, u, rfl, g1, p3.same hr2 ru⟩
      · exact p3.elim⟩⟩
theorem se_dg2 (hu : X.A.units + 65 < cLine) (ho : SE X ct W o f) (he : SE X ct W e g) (hk : SE X ct W a k) (mm : M2 X o "get" apos e a cpos) : SE X ct W (.Call (.Attribute o "get" apos) [e, a] [] cpos) (eDg2 f g k) :=
  PE.imp (pe_dget2 (by omega) ho he hk mm) fun σV H Q ⟨m, ah, σ, hr, lr, p⟩ => ⟨m, ah, σ, hr, lr, (Po.bind (R := VlR X.K ct) p).imp fun x H1 ⟨m1, h1, x', hr1, e1, r1, p1⟩ => by
    dsimp only at p1
    split at p1
    · rename_i hd
      obtain ⟨c, rfl, hD⟩ := isDct_of hr1 r1 hd
      refine ⟨c, rfl, hD, m1, h1, σ, hr1, lr.ext e1, (Po.bind (R := VlR X.K ct) p1).imp fun y H2 ⟨m2, h2, y', hr2, e2, r2, p2⟩ => ⟨m2, h2, σ, hr2, (lr.ext e1).ext e2, (Po.bind (R := VlR X.K ct) p2).imp fun z H3 ⟨m3, h3, z', hr3, e3, r3, p3⟩ => ?_⟩⟩
      dsimp only at p3
      split at p3
      · rename_i d e
        obtain ⟨c', ov, ee, g1, _, _, n2⟩ := dget_of hr3 (VlR.ext e3 (VlR.ext e2 r1)) (VlR.ext e3 r2) e
        cases ee
        obtain ⟨u, rfl, ru⟩ := n2 d rfl
        exact ⟨some u, g1, p3 m3 H3 u hr3 (Ext.refl _ _ _) ru⟩
      · rename_i e
        obtain ⟨c', ov, ee, g1, _, n1, _⟩ := dget_of hr3 (VlR.ext e3 (VlR.ext e2 r1)) (VlR.ext e3 r2) e
        cases ee
        have := n1 rfl
        subst this
        exact ⟨none, g1, p3 m3 H3 z hr3 (Ext.refl _ _ _) r3⟩
      · exact p3.elim
    · exact p1.elim⟩
theorem ss_dput (hu : X.A.units + 65 < cLine) (ho : SE X ct W o f) (hi : SE X ct W i g) (hv : SE X ct W value v) (hs : swapsWith value (some (.Subscript o i pos')) pos.line X.env = pure false := by rfl) :
    SS X ct W (.Assign [.Subscript o i pos'] value pos) (sDp f g v) :=
  PS.imp (ps_dput (by omega) ho hi hv hs) fun D σV H ⟨m, ah, σ, hr, lr, p⟩ => ⟨m, ah, σ, hr, lr, (PoS.bind (R := VlR X.K ct) lr p).imp fun y H1 ⟨m1, h1, y', hr1, e1, r1, p1⟩ => by
    dsimp only at p1
    cases q : toD y' h1 with
    | none => rw [q] at p1; exact p1.elim
    | some z =>
      obtain ⟨d, h2⟩ := z
      rw [q] at p1
      dsimp only at p1
      obtain ⟨hr2, e2, r2⟩ := toD_sound hr1 q r1
      have l2 := (lr.ext e1).ext e2
      refine ⟨m1, h2, σ, hr2, l2, (PoS.bind (R := VlR X.K ct) l2 (PoS.ext (r := sb (f σ h2) σ fun x h3 => _) p1 e2)).imp fun x H2 ⟨m3, h3, x', hr3, e3, r3, p3⟩ => ?_⟩
      have l3 := l2.ext e3
      refine ⟨m3, h3, σ, hr3, l3, (PoS.bind (R := VlR X.K ct) l3 p3).imp fun w H4 ⟨m4, h4, w', hr4, e4, r4, p4⟩ => ?_⟩
      dsimp only at p4
      cases q2 : dPut x' w' d h4 with
      | none => rw [q2] at p4; exact p4.elim
      | some h5 =>
        rw [q2] at p4
        dsimp only at p4
        cases x' with
        | d _ => cases q2
        | r j =>
        cases w' with
        | r _ => cases q2
        | d key =>
          unfold dPut at q2
          dsimp only at q2
          obtain ⟨a, ha, rfl⟩ := VlR.ext e4 r3
          have rd := r2.mono (e3.kp.trans e4.kp)
          split at q2
          · rename_i kvs hk
            obtain ⟨u, h1', h2'⟩ := hr4.ob j a _ ha hk
            obtain ⟨kk, k1, k2⟩ := Option.bind_eq_some_iff.mp q2
            split at k2
            · rename_i hl
              cases k2
              cases h2' with
              | dk t =>
                have ew := key_of r4 k1
                subst ew
                obtain ⟨hr6, e6⟩ := hr4.write ha hk (by simp) (OR.dk (put_k (k := kk) rd t))
                exact ⟨a, _, rfl, DPut.k h1' (by rw [← t.length]; exact hl), p4 m4 _ σV hr6 e6 ((l3.ext e4).ext e6)⟩
            · cases k2
          · rename_i kvs hk
            obtain ⟨u, h1', h2'⟩ := hr4.ob j a _ ha hk
            obtain ⟨kk, k1, k2⟩ := Option.bind_eq_some_iff.mp q2
            split at k2
            · rename_i hl
              cases k2
              cases h2' with
              | dt t =>
                unfold keyT at k1
                split at k1
                · cases r4 with
                  | tup g1 tt =>
                    have ew := keys_of tt k1
                    subst ew
                    obtain ⟨hr6, e6⟩ := hr4.write ha hk (by simp) (OR.dt (put_t (k := kk) rd t))
                    exact ⟨a, _, rfl, DPut.t h1' g1.1 (by rw [← t.length]; exact hl), p4 m4 _ σV hr6 e6 ((l3.ext e4).ext e6)⟩
                · cases k1
            · cases k2
          · cases q2⟩
end
end Mi

/-! Mi23: zip of two sequences, each a list or a tuple -/
namespace Mi
open PySem PySem.Spec L2
/-- a tuple (true) or a list (false) that is read -/
def SqB : Bool → PySem.W.Frag → Hp → Addr → List V → Prop
  | true => SqT
  | false => SqL
def ObB : Bool → Heap → Addr → Array Value → Prop
  | true => Heap.IsTuple
  | false => Heap.IsList
def ItB : Bool → Heap → Addr → Addr → Nat → Prop
  | true => Heap.IsTupleIter
  | false => Heap.IsListIter
def nwB (t : Bool) (a : Addr) : Obj := { cls := .type (if t then "tuple_iterator" else "list_iterator"), data := .fields #[.ref a, .int 0 0] }
theorem SqB.get {X : Cx} {pins : List (Addr × Obj)} {σ : L2.St} {H : Hp} {s : Shared} {a : Addr} {xs : List V} (I : Inv X pins σ H s) : ∀ {t : Bool}, SqB t X.K H a xs → ∃ its : List Value, Vals xs its ∧ ObB t s.heap a its.toArray
  | true, h => let ⟨its, r, p, _⟩ := I.tuple h; ⟨its, r, p⟩
  | false, h => let ⟨its, r, p, _⟩ := I.list h; ⟨its, r, p.isList⟩
theorem SqB.inj {X : Cx} {pins : List (Addr × Obj)} {σ : L2.St} {H : Hp} {s : Shared} {a : Addr} {xs ys : List V} (I : Inv X pins σ H s) : ∀ {t : Bool}, SqB t X.K H a xs → SqB t X.K H a ys → xs = ys
  | true, h, g => I.tuple_inj h g
  | false, h, g => I.list_inj h g
theorem ObB.lt {h : Heap} {a : Addr} {its : Array Value} : ∀ {t : Bool}, ObB t h a its → a < h.objs.size
  | true, q => by obtain ⟨o, ho, _⟩ := q; exact Heap.lt_size ho
  | false, q => by obtain ⟨o, ho, _⟩ := q; exact Heap.lt_size ho
theorem ItB.obj {h : Heap} {it l : Addr} {i : Nat} : ∀ {t : Bool}, ItB t h it l i → ∃ o, h.get? it = some o ∧ ∀ v, o.data ≠ .cell v
  | true, q => by obtain ⟨o, ho, _, hd⟩ := q; exact ⟨o, ho, fun v z => by rw [hd] at z; cases z⟩
  | false, q => by obtain ⟨o, ho, _, hd⟩ := q; exact ⟨o, ho, fun v z => by rw [hd] at z; cases z⟩
theorem ItB.keep {h h' : Heap} {it l : Addr} {i : Nat} (k : ∀ o, h.get? it = some o → h'.get? it = some o) : ∀ {t : Bool}, ItB t h it l i → ItB t h' it l i
  | true, q => Heap.IsTupleIter.at q k
  | false, q => Heap.IsListIter.at q k
theorem ItB.new {h : Heap} {it a : Addr} : ∀ {t : Bool}, h.get? it = some (nwB t a) → ItB t h it a 0
  | true, q => ⟨_, q, rfl, rfl⟩
  | false, q => ⟨_, q, rfl, rfl⟩
theorem drB {prog : Program} {w : World} {A : Around} (hh : A.handled = none) (it l : Addr) (hne : l ≠ it) (items : Array Value) :
    ∀ t : Bool, Draws prog w A it [it, l] items.size (fun i v => items[i]? = some v) fun i h => ItB t h it l i ∧ ObB t h l items
  | true => Draws.tuple hh it l hne items
  | false => Draws.list hh it l hne items
theorem endB {prog : Program} {w : World} {A : Around} (hh : A.handled = none) {it l : Addr} {items : Array Value} {i : Nat} (hi : items.size ≤ i) {s : Shared} {Q E : Value → Shared → Prop} : ∀ {t : Bool}, ItB t s.heap it l i → ObB t s.heap l items →
    (∀ h' e, Heap.ExtBut it s.heap h' → (∃ o, h'.get? e = some o ∧ o.cls = .type "StopIteration") → E (.ref e) { s with heap := h' }) → wpAny (model prog w) A (Builtin.SmallTypes.nextOf (.ref it)) Q E s
  | true, a, b, c => wpAny_nextOf_tuple_end hh a b (Array.getElem?_eq_none hi) c
  | false, a, b, c => wpAny_nextOf_list_end hh a b (Array.getElem?_eq_none hi) c
/-- at the i-th turn, be it past the end -/
theorem drX {prog : Program} {w : World} {A : Around} (hh : A.handled = none) {it l : Addr} (hne : l ≠ it) {items : Array Value} {t : Bool} {i : Nat} {h : Heap} (a : ItB t h it l i) (b : ObB t h l items) :
    ∃ n P St, Draws prog w A it [it, l] n P St ∧ St i h ∧ i ≤ n ∧ (items.size ≤ i → i = n) := by
  by_cases q : items.size ≤ i
  · refine ⟨i, fun _ _ => False, fun j g => j = i ∧ ItB t g it l i ∧ ObB t g l items, ⟨fun j g st => ?_, fun j g g' st k => ⟨st.1, st.2.1.keep fun o z => k it List.mem_cons_self o z, ?_⟩, fun j s Q E hj st _ => ?_, fun s Q E st hE => endB hh q st.2.1 st.2.2 hE⟩, ⟨rfl, a, b⟩, Nat.le_refl _, fun _ => rfl⟩
    · obtain ⟨o, z, _⟩ := st.2.1.obj; exact ⟨o, z⟩
    · have st2 := st.2.2
      cases t
      · exact Heap.IsList.at st2 fun o z => k l (List.mem_cons_of_mem _ List.mem_cons_self) o z
      · exact Heap.IsTuple.at st2 fun o z => k l (List.mem_cons_of_mem _ List.mem_cons_self) o z
    · exact absurd st.1 (Nat.ne_of_lt hj)
  · exact ⟨_, _, _, drB hh it l hne items t, ⟨a, b⟩, by omega, fun z => absurd z q⟩
theorem bgB (l : Addr) (items : Array Value) : ∀ t : Bool, Begins (.ref l) (nwB t l) fun h => ObB t h l items
  | true => begins_tuple l items
  | false => begins_list l items
/-- the two at a and b as they stand at each turn, the items in new pairs -/
def ItzB (K : PySem.W.Frag) (t u : Bool) (a b : Addr) : It :=
  { go := fun i H => ∃ (xs ys : List V) (x y : V), SqB t K H a xs ∧ SqB u K H b ys ∧ (xs[i]? = some x ∧ ys[i]? = some y)
    yld := fun i H v H' => ∃ T x y, v = .ref T ∧ (H T = none ∧ H' = upd H T (.tup [x, y])) ∧ (∀ xs, SqB t K H a xs → xs[i]? = some x) ∧ ∀ ys, SqB u K H b ys → ys[i]? = some y
    stop := fun i H => ∃ xs ys : List V, SqB t K H a xs ∧ SqB u K H b ys ∧ (xs.length ≤ i ∨ ys.length ≤ i) }
theorem sep_of {z TI TO i1 i2 a b : Addr} (D : ZipApart z TI TO i1 i2 a b) : ZipSep2 z TI TO i1 i2 [i1, a] [i2, b] where
  TIz := D.TIz
  TOz := D.TOz
  TITO := D.TITO
  TIi1 := D.TIi1
  mem1 := List.mem_cons_self
  zf1 := fun q => by rcases List.mem_cons.mp q with q | q; exact D.i1z q.symm; exact D.l1z (List.mem_singleton.mp q).symm
  Tf1 := fun q => by rcases List.mem_cons.mp q with q | q; exact D.TOi1 q; exact D.l1TO (List.mem_singleton.mp q).symm
  TIi2 := D.TIi2
  mem2 := List.mem_cons_self
  zf2 := fun q => by rcases List.mem_cons.mp q with q | q; exact D.i2z q.symm; exact D.l2z (List.mem_singleton.mp q).symm
  Tf2 := fun q => by rcases List.mem_cons.mp q with q | q; exact D.TOi2 q; exact D.l2TO (List.mem_singleton.mp q).symm
  sep1_2 := fun q => by rcases List.mem_cons.mp q with q | q; exact D.i12 q; exact D.l2i1 (List.mem_singleton.mp q).symm
  sep2_1 := fun q => by rcases List.mem_cons.mp q with q | q; exact D.i12 q.symm; exact D.l1i2 (List.mem_singleton.mp q).symm
theorem mem5 {c z TI TO i1 i2 : Addr} (h : c ∈ [z, TI, TO, i1, i2]) : c = z ∨ c = TI ∨ c = TO ∨ c = i1 ∨ c = i2 := by simpa using h
theorem turn_zipB {P : Program} {w : World} {K : PySem.W.Frag} {elts : List Expr} {kk : Nat} {tpos : Pos} {t u : Bool} {a b z TI TO i1 i2 : Addr} (D : ZipApart z TI TO i1 i2 a b) :
    Turn P w K (.Tuple elts kk tpos) (ItzB K t u a b) [z, TI, TO, i1, i2] z (fun i h => (IsZip h z TI TO .none ∧ IsPair h TI (.ref i1) (.ref i2)) ∧ (∃ x y, IsPair h TO x y) ∧ (ItB t h i1 a i ∧ ItB u h i2 b i)) where
  mem := by simp
  obj := fun i h ⟨⟨hz, hTI⟩, ⟨x, y, hTO⟩, h1, h2⟩ c hc => by
    rcases mem5 hc with q | q | q | q | q
    · subst q; refine ⟨_, hz, ?_⟩; intro v e; cases e
    · subst q; refine ⟨_, hTI, ?_⟩; intro v e; cases e
    · subst q; refine ⟨_, hTO, ?_⟩; intro v e; cases e
    · exact q ▸ h1.obj
    · exact q ▸ h2.obj
  keep := fun i h h' ⟨⟨hz, hTI⟩, ⟨x, y, hTO⟩, h1, h2⟩ k => ⟨⟨k z (by simp) _ hz, k TI (by simp) _ hTI⟩, ⟨x, y, k TO (by simp) _ hTO⟩, h1.keep fun o q => k i1 (by simp) o q, h2.keep fun o q => k i2 (by simp) o q⟩
  item := by
    rintro X rfl rfl rfl hc i pins s σ H E I hf ⟨⟨hz, hTI⟩, ⟨x0, y0, hTO⟩, h1, h2⟩ ⟨xs, ys, x, y, hqx, hqy, hx, hy⟩
    obtain ⟨its, rv, p⟩ := SqB.get I hqx
    obtain ⟨its2, rv2, p2⟩ := SqB.get I hqy
    obtain ⟨v1, hv1, r1⟩ := rv.get hx
    obtain ⟨v2, hv2, r2⟩ := rv2.get hy
    have hh : X.A.in1.handled = none := I.ok.hd hc
    have hzl : z < s.heap.objs.size := Heap.lt_size hz
    refine wpAny_pyNext_zipD2_item (sep_of D) (drB hh i1 a D.l1i1 its.toArray t) (drB hh i2 b D.l2i2 its2.toArray u) hz hTI hTO ⟨h1, p⟩ ⟨h2, p2⟩ (by have := (List.getElem?_eq_some_iff.mp hv1).1; simpa using this) (by have := (List.getElem?_eq_some_iff.mp hv2).1; simpa using this)
      fun x1 x2 h' tk e1 e2 z' TO' s1' s2' hT hsz hk => ?_
    have ex1 : x1 = v1 := by
      have q : its.toArray[i]? = some v1 := by simpa using hv1
      rw [e1] at q; exact Option.some.inj q
    have ex2 : x2 = v2 := by
      have q : its2.toArray[i]? = some v2 := by simpa using hv2
      rw [e2] at q; exact Option.some.inj q
    subst ex1 ex2
    refine ⟨_, rfl, wpAny_letOwnedTupleGo_zip (s := { s with heap := h', toks := tk }) z' fun h'' z'' sb => ?_⟩
    have hT2 := (sb.2 _ (Nat.ne_of_gt hzl)).trans hT
    have new : ObjOk X.prog X.w (upd H s.heap.objs.size (.tup [x, y])) h'' s.heap.objs.size (.tup [x, y]) :=
      ⟨Nat.le_trans (by decide : 2 ≤ 16) (by decide), [x1, x2], .cons r1 (.cons r2 .nil), ⟨_, hT2, rfl, _, rfl⟩⟩
    have no : ∀ c, c ∉ [z, TI, TO, i1, i2] → (c ≠ z ∧ c ≠ TO) ∧ c ≠ i1 ∧ c ≠ i2 := fun c hb => ⟨⟨fun q => hb (by simp [q]), fun q => hb (by simp [q])⟩, fun q => hb (by simp [q]), fun q => hb (by simp [q])⟩
    have I1 : Inv X pins σ (upd H s.heap.objs.size (.tup [x, y])) { s with heap := h'', toks := tk } :=
      I.turnedNew (ch := [z, TI, TO, i1, i2]) (fun c o hb q => (sb.2 c (no c hb).1.1).trans (hk c o (no c hb).1.1 (no c hb).1.2 (no c hb).2.1 (no c hb).2.2 q)) hf (Nat.le_refl _) new
    refine ⟨.ref s.heap.objs.size, _, I1, rfl, ⟨_, x, y, rfl, ⟨I.hok.fresh (Nat.le_refl _), rfl⟩, fun l hl => by rw [SqB.inj I hl hqx]; exact hx, fun l hl => by rw [SqB.inj I hl hqy]; exact hy⟩, ⟨⟨z'', ?_⟩, ⟨x1, x2, ?_⟩, ?_, ?_⟩, fun c hcm => ?_⟩
    · exact (sb.2 TI D.TIz).trans (hk TI _ D.TIz D.TITO D.TIi1 D.TIi2 hTI)
    · exact (sb.2 TO D.TOz).trans TO'
    · exact s1'.1.keep fun o q => (sb.2 i1 D.i1z).trans q
    · exact s2'.1.keep fun o q => (sb.2 i2 D.i2z).trans q
    · have hlt : c < s.heap.objs.size := by
        obtain ⟨o1, g1, _⟩ := h1.obj
        obtain ⟨o2, g2, _⟩ := h2.obj
        rcases mem5 hcm with q | q | q | q | q
        · exact q ▸ hzl
        · exact q ▸ Heap.lt_size hTI
        · exact q ▸ Heap.lt_size hTO
        · exact q ▸ Heap.lt_size g1
        · exact q ▸ Heap.lt_size g2
      rw [upd_ne (Nat.ne_of_lt hlt)]
      exact (hf c hcm).1
  done := by
    rintro X rfl rfl rfl hc i pins s σ H E I hf ⟨⟨hz, hTI⟩, ⟨x0, y0, hTO⟩, h1, h2⟩ ⟨xs, ys, hqx, hqy, hend⟩
    obtain ⟨its, rv, p⟩ := SqB.get I hqx
    obtain ⟨its2, rv2, p2⟩ := SqB.get I hqy
    have l1 := rv.length
    have l2 := rv2.length
    have hh : X.A.in1.handled = none := I.ok.hd hc
    have no : ∀ c, c ∉ [z, TI, TO, i1, i2] → (c ≠ z ∧ c ≠ TO) ∧ c ≠ i1 ∧ c ≠ i2 := fun c hb => ⟨⟨fun q => hb (by simp [q]), fun q => hb (by simp [q])⟩, fun q => hb (by simp [q]), fun q => hb (by simp [q])⟩
    obtain ⟨n1, P1, S1, D1, st1, k1, f1⟩ := drX (prog := X.prog) (w := X.w) hh D.l1i1 h1 p
    obtain ⟨n2, P2, S2, D2, st2, k2, f2⟩ := drX (prog := X.prog) (w := X.w) hh D.l2i2 h2 p2
    have he : i = n1 ∨ i = n2 := hend.imp (fun q => f1 (by simp; omega)) fun q => f2 (by simp; omega)
    exact wpAny_pyNext_zipD2_end (sep_of D) D1 D2 hz hTI hTO st1 st2 k1 k2 he
      fun h' tk hk => ⟨rfl, I.turnedL (ch := [z, TI, TO, i1, i2]) (fun c o hb q => hk c o (no c hb).1.1 (no c hb).1.2 (no c hb).2.1 (no c hb).2.2 q) hf⟩
  self := fun A i s Q E st h => wpAny_pyIter_zip st.1.1 h

def iZipB (K : PySem.W.Frag) (ta : TA) : TI := fun σ H R => ta σ H fun vs H1 => ∃ a b t u xs ys, vs = [.ref a, .ref b] ∧ SqB t K H1 a xs ∧ SqB u K H1 b ys ∧ R (ItzB K t u a b) H1
section
variable {X : Cx} {ct : CT} {W : WX} {e e2 : Expr} {ta : TA} {p pos tpos : Pos} {elts : List Expr} {kk : Nat} {fs : SemA}
theorem pi_zipB (hg : Gl X "zip") (hm : X.mg "zip" = none) (ha : PA X [e, e2] ta)
    (hs : starEach [e, e2] X.env = (false, eval e X.env) :: starEach [e2] X.env := by rfl) (hpl : (backTo pos (starEach [e2] X.env)).any (·.1) = false := by rfl) :
    PI X (.Tuple elts kk tpos) (.Call (.Name "zip" p) [e, e2] [] pos) (iZipB X.K ta) := by
  refine ⟨fun pins s σ H R I h => ?_⟩
  refine PyProof.Rows.Call_ (ld_blt I hg hm PyProof.Rows.boot_zip (PyProof.Rows.callWith_type1 (thn (ha.run pos pins s σ H _ I h) fun us s1 ⟨vs, H1, I1, r1, a, b, t, u, xs, ys, ex, hqx, hqy, q⟩ => ?_) hs hpl))
  subst ex
  cases r1 with
  | cons r rr =>
    cases rr with
    | cons r' rr =>
      cases rr
      cases r
      cases r'
      obtain ⟨its, rv, p1⟩ := SqB.get I1 hqx
      obtain ⟨its2, rv2, p2⟩ := SqB.get I1 hqy
      refine zip_begins2 (bgB a its.toArray t) (bgB b its2.toArray u) p1 p2 fun h' hz hTI hTO h1 h2 hsz hk => wpAny_pyIter_zip hz ?_
      refine ⟨s1.heap.objs.size + 4, [s1.heap.objs.size + 4, s1.heap.objs.size + 2, s1.heap.objs.size + 3, s1.heap.objs.size, s1.heap.objs.size + 1], _, _, H1, rfl, I1.kept (t' := s1.toks) hk,
        turn_zipB (PySem.W.ktu_apart s1.heap.objs.size a b p1.lt p2.lt), ⟨⟨hz, hTI⟩, ⟨_, _, hTO⟩, ItB.new h1, ItB.new h2⟩, fun c hcm => ?_, q⟩
      have hle : s1.heap.objs.size ≤ c := by rcases mem5 hcm with q | q | q | q | q <;> (rw [q]; first | exact Nat.le_add_right _ _ | exact Nat.le_refl _)
      exact I1.fpOk hle (I1.hok.fresh hle)
/-- enumerate over a list or a tuple -/
def iEnumB (K : PySem.W.Frag) (ta : TA) : TI := fun σ H R => ta σ H fun vs H1 => ∃ a xs, vs = [.ref a] ∧ ((SqT K H1 a xs ∧ R (IteT K a) H1) ∨ (SqL K H1 a xs ∧ R (Ite K a) H1))
theorem pi_enumB (hg : Gl X "enumerate") (hm : X.mg "enumerate" = none) (ha : PA X [e] ta) (hs : starEach [e] X.env = [(false, eval e X.env)] := by rfl) :
    PI X (.Tuple elts kk tpos) (.Call (.Name "enumerate" p) [e] [] pos) (iEnumB X.K ta) := by
  refine ⟨fun pins s σ H R I h => ?_⟩
  refine PyProof.Rows.Call_ (ld_blt I hg hm PyProof.Rows.boot_enumerate (PyProof.Rows.callWith_type1 (thn (ha.run pos pins s σ H _ I h) fun us s1 ⟨vs, H1, I1, r1, a, xs, ex, hq⟩ => ?_) hs rfl))
  subst ex
  obtain ⟨u, rfl, r⟩ := r1.one
  cases r
  have fr : ∀ b, b ∈ [s1.heap.objs.size + 1, s1.heap.objs.size] → FpOk X pins H1 b := fun b hb => by
    have hle : s1.heap.objs.size ≤ b := by
      rcases List.mem_cons.mp hb with q | q
      · omega
      · have := List.mem_singleton.mp q; omega
    exact I1.fpOk hle (I1.hok.fresh hle)
  rcases hq with ⟨hq, q⟩ | ⟨hq, q⟩
  · obtain ⟨its, rv, p', hz⟩ := I1.tuple hq
    refine call_enumT p' fun h' he hit hk => wpAny_pyIter_enum he ?_
    exact ⟨_, _, _, _, H1, rfl, I1.kept (t' := s1.toks) hk, turn_enumT a _ _, ⟨⟨.none, he⟩, hit, Nat.succ_ne_self _⟩, fr, q⟩
  · obtain ⟨its, rv, p', hz⟩ := I1.list hq
    refine call_enumerate_list p'.isList fun h' he hit _ hk => wpAny_pyIter_enum he ?_
    exact ⟨_, _, _, _, H1, rfl, I1.kept (t' := s1.toks) hk, turn_enum a _ _, ⟨⟨.none, he⟩, hit, Nat.succ_ne_self _⟩, fr, q⟩
end
def pureB (x : Vl) : Option (Bool × List D) := match x with
  | .d (.tup xs) => some (true, xs)
  | .d (.lv xs) => some (false, xs)
  | _ => none
section
variable {K : PySem.W.Frag} {ct : CT} {m : List Addr} {ah : Hs} {H : Hp}
def HasB (m : List Addr) (ah : Hs) (H : Hp) (t : Bool) (a : Addr) (vs : List V) : Prop := match t with
  | true => H a = some (.tup vs) ∧ Sf m ah a
  | false => (H a = some (.lst vs) ∨ ∃ o, H a = some (.frz o (.lst vs))) ∧ Sf m ah a
theorem HasB.sq {t : Bool} {a : Addr} {vs : List V} (h : HasB m ah H t a vs) : SqB t K H a vs := by
  cases t
  · exact sqL_uniq (ys := vs) h.1
  · exact sqT_of h
theorem HasB.ext {m2 : List Addr} {h2 : Hs} {H2 : Hp} {t : Bool} {a : Addr} {vs : List V} (ex : Kp (Sf m ah) H (Sf m2 h2) H2) (h : HasB m ah H t a vs) : SqB t K H2 a vs := by
  cases t
  · exact sqL_uniq (ys := vs) (h.1.imp (fun g => (ex _ _ g h.2).1) fun ⟨o, g⟩ => ⟨o, (ex _ _ g h.2).1⟩)
  · exact sqT_of (sqT_ext ex h)
theorem pureB_of {x : Vl} {t : Bool} {ds : List D} {v : V} (e : pureB x = some (t, ds)) (r : VlR K ct m ah H x v) : ∃ a vs, v = .ref a ∧ HasB m ah H t a vs ∧ DRs K ct (Sf m ah) H ds vs := by
  cases t with
  | true =>
    unfold pureB at e
    split at e
    · cases e
      cases r with
      | tup h r => exact ⟨_, _, rfl, h, r⟩
    · cases e
    · cases e
  | false =>
    have q : pureLst x = some ds := by
      unfold pureB at e
      split at e
      · cases e
      · cases e; rfl
      · cases e
    obtain ⟨a, vs, e1, h, s, r⟩ := pureLst_of q r
    exact ⟨a, vs, e1, ⟨h, s⟩, r⟩
theorem wks_zipB {t u : Bool} {a b : Addr} {ds es : List D} {vs ws : List V} (h : HasB m ah H t a vs) (r : DRs K ct (Sf m ah) H ds vs) (g : HasB m ah H u b ws) (r2 : DRs K ct (Sf m ah) H es ws) : Wks K ct (zipD ds es) m ah H (ItzB K t u a b) := fun m2 h2 H2 hr ex => by
  have h' : SqB t K H2 a vs := h.ext ex
  have g' : SqB u K H2 b ws := g.ext ex
  refine ⟨fun i hi => ?_, fun i d hd => ?_⟩
  · rw [zipD_len, r.length, r2.length] at hi
    exact ⟨vs, ws, h', g', by omega⟩
  · obtain ⟨x0, y0, q1, q2, rfl⟩ := zipD_get hd
    obtain ⟨x, hx, rx⟩ := (r.mono ex).get q1
    obtain ⟨y, hy, ry⟩ := (r2.mono ex).get q2
    refine ⟨⟨vs, ws, x, y, h', g', hx, hy⟩, ?_⟩
    rintro z H3 ⟨T, x1, y1, rfl, ⟨hT, rfl⟩, f1, f2⟩
    have e1 := (f1 vs h').symm.trans hx
    have e2 := (f2 ws g').symm.trans hy
    cases e1; cases e2
    exact pair_new hr hT rx ry
end
def iZpB (f : SemA) : SemI := fun σ h => rb (f σ h) fun xs h1 => match xs with
  | [x, y] => (match pureB x, pureB y with
    | some (_, ds), some (_, es) => .ok (zipD ds es) h1
    | _, _ => .bad)
  | _ => .bad
def iEnB (f : SemA) : SemI := fun σ h => rb (f σ h) fun xs h1 => match xs with
  | [x] => (match pureB x with
    | some (_, ds) => .ok (enumD ds) h1
    | none => .bad)
  | _ => .bad
section
variable {X : Cx} {ct : CT} {W : WX} {e e2 : Expr} {p pos tpos : Pos} {elts : List Expr} {kk : Nat} {fs : SemA}
theorem si_zipB (hg : Gl X "zip") (hm : X.mg "zip" = none) (ha : SA X ct W [e, e2] fs)
    (hs : starEach [e, e2] X.env = (false, eval e X.env) :: starEach [e2] X.env := by rfl) (hpl : (backTo pos (starEach [e2] X.env)).any (·.1) = false := by rfl) :
    SI X ct W (.Tuple elts kk tpos) (.Call (.Name "zip" p) [e, e2] [] pos) (iZpB fs) :=
  PI.imp (pi_zipB hg hm ha hs hpl) fun σV H R ⟨m, ah, σ, hr, lr, p⟩ => ⟨m, ah, σ, hr, lr, (Po.bind (R := VlRs X.K ct) p).imp fun vs H1 ⟨m1, h1, x, hr1, e1, r1, p1⟩ => by
    dsimp only at p1
    split at p1
    · cases r1 with
      | cons r t =>
        cases t with
        | cons r2 t =>
          cases t
          split at p1
          · rename_i t ds u es q1 q2
            obtain ⟨a, vs, rfl, h, r⟩ := pureB_of q1 r
            obtain ⟨b, ws, rfl, h2, r2⟩ := pureB_of q2 r2
            exact ⟨a, b, t, u, vs, ws, rfl, h.sq, h2.sq, p1 m1 H1 _ hr1 (Ext.refl _ _ _) (wks_zipB h r h2 r2)⟩
          · exact p1.elim
    · exact p1.elim⟩
theorem si_enumB (hg : Gl X "enumerate") (hm : X.mg "enumerate" = none) (ha : SA X ct W [e] fs) (hs : starEach [e] X.env = [(false, eval e X.env)] := by rfl) : SI X ct W (.Tuple elts kk tpos) (.Call (.Name "enumerate" p) [e] [] pos) (iEnB fs) :=
  PI.imp (pi_enumB hg hm ha hs) fun σV H R ⟨m, ah, σ, hr, lr, p⟩ => ⟨m, ah, σ, hr, lr, (Po.bind (R := VlRs X.K ct) p).imp fun vs H1 ⟨m1, h1, x, hr1, e1, r1, p1⟩ => by
    dsimp only at p1
    split at p1
    · cases r1 with
      | cons r t =>
        cases t
        split at p1
        · rename_i t ds q1
          obtain ⟨a, vs, rfl, h, r⟩ := pureB_of q1 r
          cases t with
          | true => exact ⟨_, _, rfl, .inl ⟨sqT_of h, p1 m1 H1 _ hr1 (Ext.refl _ _ _) (wks_enumT h r)⟩⟩
          | false => exact ⟨_, _, rfl, .inr ⟨sqL_uniq (ys := vs) h.1, p1 m1 H1 _ hr1 (Ext.refl _ _ _) (wks_enum h.1 h.2 r)⟩⟩
        · exact p1.elim
    · exact p1.elim⟩
end
end Mi

/-! Mi24: list.index of data -/
namespace Mi
open PySem PySem.Spec L2
def fIx (p : D → Bool) : List D → Option Nat
  | [] => none
  | d :: ds => if p d = true then some 0 else (fIx p ds).map (· + 1)
theorem fIx_some {p : D → Bool} : ∀ {ds : List D} {j : Nat}, fIx p ds = some j → (∃ z, ds[j]? = some z ∧ p z = true) ∧ ∀ (m : Nat) (z : D), m < j → ds[m]? = some z → p z = false
  | [], j, e => by cases e
  | d :: ds, j, e => by
    unfold fIx at e
    split at e
    · rename_i h
      cases e
      exact ⟨⟨d, rfl, h⟩, fun m z hm => absurd hm (Nat.not_lt_zero _)⟩
    · rename_i h
      obtain ⟨i, ei, rfl⟩ := Option.map_eq_some_iff.mp e
      obtain ⟨⟨z, g1, g2⟩, g3⟩ := fIx_some ei
      refine ⟨⟨z, by simpa using g1, g2⟩, fun m z' hm hz => ?_⟩
      cases m with
      | zero => simp only [List.getElem?_cons_zero, Option.some.injEq] at hz; subst hz; exact Bool.eq_false_iff.mpr h
      | succ m => exact g3 m z' (by omega) (by simpa using hz)
theorem pds_get : ∀ (ds : List D) (j : Nat), (D.pds ds)[j]? = (ds[j]?).map D.pd
  | [], j => by simp [D.pds]
  | d :: ds, 0 => by simp [D.pds]
  | d :: ds, j + 1 => by simp only [D.pds, List.getElem?_cons_succ]; exact pds_get ds j
def eIdx (f : SemE) (g : SemA) : SemE := fun σ h => rb (f σ h) fun x h1 => (match lstOf x h1 with
  | some _ => rb (g σ h1) fun ys h2 => (match ys with
    | [y] => (match lstOf x h2, viewD y h2 with
      | some ds, some d => if (shp (.lv ds) && shp d) = true then (match fIx (fun z => PyData.eqv z.pd d.pd) ds with
          | some j => .ok (.d (.int (j : Nat))) h2
          | none => .bad) else .bad
      | _, _ => .bad)
    | _ => .bad)
  | none => .bad)
section
variable {X : Cx} {ct : CT} {W : WX} {o e : Expr} {f : SemE} {fs : SemA} {apos cpos : Pos}
theorem se_index (hu : X.A.units + 65 < cLine) (he : SE X ct W o f) (ha : SA X ct W [e] fs)
    (hb : attributeBase o "index" X.env (eval o X.env) = eval o X.env := by rfl)
    (hf : ((backTo cpos (starEach [e] X.env)).all (fun x => !x.1) && (backToKw cpos (keywordEach [] X.env)).all (fun x => x.1.isSome)
      && decide ([e].length + ([] : List Keyword).length + (if ([] : List Keyword).isEmpty then 0 else 1) < 30)) = true := by rfl)
    (hl : (apos.endLine == cpos.line) = true := by rfl) (hs : starEach [e] X.env = (false, eval e X.env) :: starEach [] X.env := by rfl) (hp : (backTo cpos (starEach [] X.env)).any (·.1) = false := by rfl) :
    SE X ct W (.Call (.Attribute o "index" apos) [e] [] cpos) (eIdx f fs) :=
  PE.imp (pe_bm PySem.F.plainAttrs_list PySem.F.slot_list_index PySem.F.type_list_index (r := rIndexD X.K) (mt_indexD hu) he ha hb hf hl hs hp) fun σV H Q ⟨m, ah, σ, hr, lr, p⟩ => by
    refine ⟨m, ah, σ, hr, lr, (Po.bind (R := VlR X.K ct) p).imp fun v H1 ⟨m1, h1, x, hr1, e1, r1, p1⟩ => ?_⟩
    dsimp only at p1
    split at p1
    · rename_i xs hx
      obtain ⟨a, vs, rfl, g1, g2⟩ := lst_of hr1 hx r1
      refine ⟨.inl ⟨rfl, vs, .of g1⟩, m1, h1, σ, hr1, lr.ext e1, (Po.bind (R := VlRs X.K ct) p1).imp fun us H2 ⟨m2, h2, ys2, hr2, e2, r2, p2⟩ => ?_⟩
      dsimp only at p2
      split at p2
      · cases r2 with
        | cons ry tt =>
          cases tt
          split at p2
          · rename_i ds d q1 q2
            split at p2
            · rename_i hc
              have hc' := Bool.and_eq_true_iff.mp hc
              split at p2
              · rename_i j hj
                obtain ⟨l, ws, ea, h3, r3⟩ := lst_of hr2 q1 (VlR.ext e2 r1)
                cases ea
                have c2 := hc'.1
                unfold shp at c2
                simp only [D.pd] at c2
                have c3 := SeqAt.canLay_of_shaped c2
                simp only [PyData.canLay0] at c3
                obtain ⟨⟨z, z1, z2⟩, z3⟩ := fIx_some hj
                refine ⟨a, _, d.pd, D.pds ds, j, z.pd, rfl, rfl, .lst (.of h3) (dps_of r3 c3), view_dp hr2 q2 ry hc'.2, c2, hc'.2, by rw [pds_get, z1]; rfl, z2, fun m z' hm hz => ?_, ?_⟩
                · rw [pds_get] at hz
                  obtain ⟨z'', e1, rfl⟩ := Option.map_eq_some_iff.mp hz
                  exact z3 m z'' hm e1
                · exact p2 m2 H2 _ hr2 (Ext.refl _ _ _) (.int _)
              · exact p2.elim
            · exact p2.elim
          · exact p2.elim
      · exact p2.elim
    · exact p1.elim
end
end Mi

/-! Mi25: exception objects as data: made, read, asked by isinstance -/
namespace Mi
open PySem PySem.Spec L2

/-! ### what is asked of an own exception class -/
structure ExcK (K : PySem.W.Frag) (C : Addr) : Prop where
  ox : OexC K C
  ga : PySem.W.findIn K (.ref C) "__getattribute__" = some (some (.builtin "BaseException.__getattribute__"))
  gg : PySem.W.findIn K (.ref C) "__getattr__" = some none
  hd : PySem.W.hasDictIn K C = true
  cl : (PySem.W.clsIn K C).isSome = true
  ha : PySem.W.findIn K (.ref C) "__class__" = some (some (.builtin "object.__class__"))
  hn : PySem.W.specialIn K (.builtin "object.__class__") "__get__" = some (some (.builtin "getset_descriptor.__get__"))
  ht : PySem.W.takesIn K (.builtin "object.__class__") = some true
  hm : PySem.W.mroIn K C (.type "object") = some true
theorem oexB_ok {K : PySem.W.Frag} {C : Addr} (q : oexB K C = true) : ∃ nm q N bs bm sn sub ab col dd k0 k1 k2 k3 k5, K.lookup C = some (excClassObj nm q C N bs bm true sn sub ab col dd k0 k1 k2 k3 k5 "ValueError.__new__") ∧ PySem.HandSPX.refsVE bm = true := by
  unfold oexB at q
  split at q
  · rename_i dd cd sl ho
    split at q
    · rename_i C' bm k0 k1 k2 k3 n k5 h1 h2
      obtain ⟨nm, bs, mro, N, qn, hd, sn, sub, ab, col, dl⟩ := cd
      simp only [Bool.and_eq_true, decide_eq_true_eq, beq_iff_eq, Bool.not_eq_true'] at q h1
      obtain ⟨e1, e2, e3, e4, e5⟩ := q
      subst e1 e2 e3 e4 h1
      have hs : sl = #[k0, k1, k2, k3, some (.builtin "ValueError.__new__"), k5] := by
        cases sl
        simp only at h2
        rw [h2]
      subst hs
      exact ⟨nm, qn, N, bs, bm, sn, sub, ab, col, dd, k0, k1, k2, k3, k5, ho, e5⟩
    · cases q
  · cases q
theorem excKB_ok {K : PySem.W.Frag} {C : Addr} (q : excKB K C = true) : ExcK K C := by
  unfold excKB at q
  simp only [Bool.and_eq_true, decide_eq_true_eq] at q
  obtain ⟨h1, h2, h3, h4, h5, h6, h7, h8, h9, h10, h11, h12, h13⟩ := q
  exact ⟨⟨oexB_ok h1, He.eqO_ok h2, h3, h4, h5⟩, He.eqO_ok h6, He.eqO_ok h7, h8, h9, He.eqO_ok h10, He.eqO_ok h11, h12, h13⟩

/-! ### an exception object in the heap -/
/-- what the context knows of the caught exception -/
def Caught (X : Cx) (ct : CT) : Prop := ∀ a C d, ct.ex = some (a, C, d) → ∃ oe, (a, oe) ∈ X.pn ∧ Zc (.ref (ct.ca C)) d oe ∧ ∃ vs, oe.data = .fields vs
theorem Caught.none {X : Cx} {ct : CT} (h : ct.ex = none) : Caught X ct := fun a C d e => by rw [h] at e; cases e
section
variable {X : Cx} {ct : CT} {W : WX} {pins : List (Addr × Obj)} {σ : L2.St} {H : Hp} {s : Shared} {S : Addr → Prop}
theorem exc_inst (hc : Caught X ct) (I : Inv X pins σ H s) {C : Nat} {fs : List (Nat × D)} {v : V} (r : DR X.K ct S H (.exc C fs) v) :
    ∃ (a : Addr) (ox : Obj), v = .ref a ∧ (fs = [] → ∃ od, PySem.W.InstAt s.heap a ox (ct.ca C) od) ∧ (fs ≠ [] → ∃ od, PySem.W.InstAt s.heap a ox (ct.ca C) (some od) ∧ ∀ k d, fs.lookup k = some d → ∃ (w : V) (u : Value), PySem.W.lookIn (ct.nm k) od = some (some u) ∧ RelV w u ∧ DR X.K ct S H d w) := by
  have own : ∀ {dx : Addr} {vs : List (Str × V)} {mA : Str → Option Value}, s.heap.Ns1 dx mA → (∀ f, RelO (vs.lookup f) (mA f)) → DRf X.K ct S H fs vs →
      ∃ od, s.heap.get? dx = some od ∧ ∀ k d, fs.lookup k = some d → ∃ (w : V) (u : Value), PySem.W.lookIn (ct.nm k) od = some (some u) ∧ RelV w u ∧ DR X.K ct S H d w := by
    intro dx vs mA hn hr t
    obtain ⟨od, ho, hl⟩ := lookIn_ns hn
    refine ⟨od, ho, fun k d hk => ?_⟩
    obtain ⟨w, h3, r3⟩ := (lookup_drf t).1 d hk
    obtain ⟨u, hu, ru⟩ := RelO.some_of (v := w) (o := mA (ct.nm k)) (by rw [← h3]; exact hr _)
    exact ⟨w, u, by rw [hl, hu], ru, r3⟩
  cases r with
  | exb h hs =>
    obtain ⟨t1, ho⟩ := exo_at I.hok h
    exact ⟨_, _, rfl, fun _ => ⟨none, ho, rfl, rfl, trivial⟩, fun z => absurd rfl z⟩
  | @exd a _ dx _ vs h hs h2 hs2 t =>
    obtain ⟨t1, ho⟩ := exo_at I.hok h
    obtain ⟨mA, hn, hr⟩ := exd_at I.hok h2
    obtain ⟨od, hod, q⟩ := own hn hr t
    exact ⟨a, _, rfl, fun _ => ⟨some od, ho, rfl, rfl, hod⟩, fun _ => ⟨od, ⟨ho, rfl, rfl, hod⟩, q⟩⟩
  | @exq a _ e =>
    obtain ⟨oe, hp, hz, vs, hv⟩ := hc _ _ _ e
    obtain ⟨hget, _⟩ := I.pin (a, oe) (List.mem_append_left _ hp)
    exact ⟨a, oe, rfl, fun _ => ⟨none, hget, hz.1, by unfold PySem.W.notCls; rw [hv] <;> rfl, by rw [hz.2]; trivial⟩, fun z => absurd rfl z⟩
  | @exr a _ dx _ vs e h hs t =>
    obtain ⟨oe, hp, hz, ws, hv⟩ := hc _ _ _ e
    obtain ⟨hget, _⟩ := I.pin (a, oe) (List.mem_append_left _ hp)
    have hx : ObjOk X.prog X.w H s.heap dx (.xd vs) := I.hok dx _ h
    obtain ⟨mA, hn, hr⟩ := hx
    obtain ⟨od, hod, q⟩ := own hn hr t
    have J : PySem.W.InstAt s.heap a oe (ct.ca C) (some od) := ⟨hget, hz.1, by unfold PySem.W.notCls; rw [hv] <;> rfl, by rw [hz.2]; exact hod⟩
    exact ⟨a, oe, rfl, fun _ => ⟨_, J⟩, fun _ => ⟨od, J, q⟩⟩
end
end Mi

/-! Mi26: an exception's fields read, isinstance of it, exceptions made as values -/
namespace Mi
open PySem PySem.Spec L2

/-- e.f, e an exception -/
def eXf (ok : Nat → Bool) (n : Nat) (f : SemE) : SemE := fun σ h => rb (f σ h) fun x h1 => match x with
  | .d (.exc C fs) => if ok C = true then (match fs.lookup n with
    | some d => .ok (.d d) h1
    | none => .bad) else .bad
  | _ => .bad
/-- isinstance(e, C) by a table over the exception classes -/
def eIsx (l : List (Nat × Bool)) (f : SemE) : SemE := fun σ h => rb (f σ h) fun x h1 => match x with
  | .d (.exc C _) => (match l.lookup C with
    | some b => .ok (.d (.bl b)) h1
    | none => .bad)
  | _ => .bad
section
variable {X : Cx} {ct : CT} {W : WX} {pos p p2 : Pos} {e : Expr} {f : SemE} {x : Str}
theorem se_xf {ok : Nat → Bool} {k : Nat} {fl : Str} (hc : Caught X ct) (he : SE X ct W e f) (hf : ct.nm k = fl) (hok : ∀ C, ok C = true → ExcK X.K (ct.ca C) ∧ PySem.W.findIn X.K (.ref (ct.ca C)) fl = some none)
    (hb : attributeBase e fl X.env (eval e X.env) = eval e X.env := by rfl) : SE X ct W (.Attribute e fl pos) (eXf ok k f) := by
  subst hf
  refine ⟨fun pins s σV H Q I ⟨m, ah, σ, hr, lr, p⟩ => attr_of hb (thn (he.run pins s σV H _ I ⟨m, ah, σ, hr, lr, Po.bind (R := VlR X.K ct) p⟩) fun u s1 ⟨v, H1, I1, rx, m1, h1, y, hr1, e1, r1, p1⟩ => ?_)⟩
  dsimp only at p1
  split at p1
  · rename_i C fs
    split at p1
    · rename_i hC
      obtain ⟨T, hno⟩ := hok C hC
      cases q : fs.lookup k with
      | none => rw [q] at p1; exact p1.elim
      | some d =>
        rw [q] at p1
        obtain ⟨a, ox, rfl, _, z⟩ := exc_inst hc I1 r1
        obtain ⟨od, J, g⟩ := z (fun z => by rw [z] at q; cases q)
        obtain ⟨w, uu, hl, ru, rd⟩ := g k d q
        obtain rfl : u = Value.ref a := rx
        exact HandSPX.exc_get I1.kIn J T.ga T.gg T.ox.exC (PySem.W.findObj_own T.hd hno rfl hl) (handed_of ru) ⟨w, H1, I1.tok _, ru, p1 m1 H1 w hr1 (Ext.refl _ _ _) rd⟩
    · exact p1.elim
  · exact p1.elim
/-- isinstance of an exception -/
def rIsx (K : PySem.W.Frag) (ct : CT) : List V → Hp → VK → Prop := fun xs H Q => ∃ (v c : V) (C : Nat) (fs : List (Nat × D)) (u : Value) (b : Bool) (S : Addr → Prop), xs = [v, c] ∧ ClsV c u ∧ DR K ct S H (.exc C fs) v ∧ ExcK K (ct.ca C) ∧ PySem.W.kitOne K (.ref (ct.ca C)) u = some b ∧ Q (.bl b) H
theorem call_isx (hc : Caught X ct) : CallR X (.builtin "isinstance") (rIsx X.K ct) := by
  intro pins s σ H xs us Q I r h
  obtain ⟨v, c, C, fs, u, b, S, rfl, k, d, T, e, q⟩ := h
  obtain ⟨u1, u2, rfl, r1, r2⟩ := vals2 r
  have e2 := k.eq r2
  subst e2
  obtain ⟨a, ox, rfl, z1, z2⟩ := exc_inst hc I d
  obtain rfl : u1 = Value.ref a := r1
  obtain ⟨od, J⟩ : ∃ od, PySem.W.InstAt s.heap a ox (ct.ca C) od := by
    by_cases hf : fs = []
    · exact z1 hf
    · obtain ⟨od, J, _⟩ := z2 hf; exact ⟨_, J⟩
  exact PySem.W.kia_one (PySem.W.kitx_exc T.cl T.ga T.gg T.ox.exC T.ha T.hn T.ht T.hm) I.kIn J e (fun z => nomatch z) fun tk => ⟨.bl b, H, I.tok tk, rfl, q⟩
theorem pe_isx {l : List (Nat × Bool)} {c : V} {u : Value} (hk : ClsV c u) (h2 : PE X (.Name x p2) (tC c)) (hc : Caught X ct) (ho : ∀ C b, l.lookup C = some b → ExcK X.K (ct.ca C) ∧ PySem.W.kitOne X.K (.ref (ct.ca C)) u = some b) (hg : Gl X "isinstance") (hm : X.mg "isinstance" = none) (he : SE X ct W e f)
    (h1 : starEach [e, .Name x p2] X.env = (false, eval e X.env) :: starEach [.Name x p2] X.env := by rfl) : SE X ct W (.Call (.Name "isinstance" p) [e, .Name x p2] [] pos) (eIsx l f) :=
  PE.imp (pe_callB (call_isx hc) hg hm PyProof.Rows.boot_isinstance (pa_cons he (pa_cons h2 pa_nil (by rfl)) h1) (by decide) (by decide) h1 (by rfl)) fun σV H Q ⟨m, ah, σ, hr, lr, p⟩ => ⟨m, ah, σ, hr, lr, (Po.bind (R := VlR X.K ct) p).imp fun v H1 ⟨m1, h1, x, hr1, e1, r1, p1⟩ => by
    dsimp only at p1
    split at p1
    · rename_i C fs
      cases q2 : l.lookup C with
      | none => rw [q2] at p1; exact p1.elim
      | some b =>
        rw [q2] at p1
        obtain ⟨T, k1⟩ := ho C b q2
        exact ⟨v, c, C, fs, u, b, _, rfl, hk, r1, T, k1, p1 m1 H1 _ hr1 (Ext.refl _ _ _) (.bl b)⟩
    · exact p1.elim⟩
/-- isinstance(e, T), T built in -/
theorem se_isxB {l : List (Nat × Bool)} {T : String} (hg2 : Gl X x) (hm2 : X.mg x = none) (hv : bootBuiltins x = some (.type T)) (hc : Caught X ct) (ho : ∀ C b, l.lookup C = some b → ExcK X.K (ct.ca C) ∧ PySem.W.kitOne X.K (.ref (ct.ca C)) (.type T) = some b) (hg : Gl X "isinstance") (hm : X.mg "isinstance" = none) (he : SE X ct W e f)
    (hn : x ≠ "__name__" := by decide) (hd : (x == ("__debug__" : Str)) = false := by decide)
    (h1 : starEach [e, .Name x p2] X.env = (false, eval e X.env) :: starEach [.Name x p2] X.env := by rfl) : SE X ct W (.Call (.Name "isinstance" p) [e, .Name x p2] [] pos) (eIsx l f) :=
  pe_isx (.ty T) (pe_bltn hg2 hm2 hv (v := .ty T) rfl hn hd) hc ho hg hm he h1
/-- isinstance(e, C), C own -/
theorem se_isxC {l : List (Nat × Bool)} {C : Addr} (hg2 : Gl X x) (hm2 : X.mg x = some (.ref C)) (hc : Caught X ct) (ho : ∀ D b, l.lookup D = some b → ExcK X.K (ct.ca D) ∧ PySem.W.kitOne X.K (.ref (ct.ca D)) (.ref C) = some b) (hg : Gl X "isinstance") (hm : X.mg "isinstance" = none) (he : SE X ct W e f)
    (hd : (x == ("__debug__" : Str)) = false := by decide)
    (h1 : starEach [e, .Name x p2] X.env = (false, eval e X.env) :: starEach [.Name x p2] X.env := by rfl) : SE X ct W (.Call (.Name "isinstance" p) [e, .Name x p2] [] pos) (eIsx l f) :=
  pe_isx (.own C) (pe_glob hg2 hm2 (v := .ref C) rfl hd) hc ho hg hm he h1

/-! ### made as values -/
/-- C(), no own __init__ -/
def eXb (C : Nat) : SemE := fun _ h => .ok (.d (.exc C [])) h
theorem se_exb {C : Nat} (q : PySem.W.excIn X.K (ct.ca C) He.veBase "ValueError.__new__" = true) (kC : PySem.W.keepIn X.K (.ref (ct.ca C)) = true) (gC : X.mg x = some (.ref (ct.ca C))) (hg : Gl X x) (hdb : (x == ("__debug__" : Str)) = false := by decide) : SE X ct W (.Call (.Name x p) [] [] pos) (eXb C) := by
  refine ⟨fun pins s σV H Q I ⟨m, ah, σ, hr, lr, p⟩ => ?_⟩
  refine wpAny_Call_Name_kw (ld_glob I hg gC ?_ hdb)
  refine PySem.W.callWith_K0 I.kIn kC ?_
  show wpAny _ _ (call (.ref (ct.ca C)) []) _ _ _
  obtain ⟨bm, N, nm, qn, bs, hdct, sn, sub, ab, col, dd, k0, k1, k2, k3, k5, mN, hC, hN, hni, T⟩ := exc_obj I.kIn q
  refine wpAny_call_exc_subT F.excBase_ValueError T hC hN hni (fun h' a hm => ?_) (by show 0 ≤ sizeLine; omega)
  obtain ⟨t, ht, _, _⟩ := hm.there
  have hn : H a = none := I.hok.gone hm.new
  obtain ⟨hr2, e2, sa⟩ := hr.pure (o := L2.exo a (ct.ca C) none) hn
  exact ⟨.ref a, upd H a (L2.exo a (ct.ca C) none), I.laidN hm.keeps hm.new hn (exo_ok ht), rfl, p m _ (.ref a) hr2 e2 (.exb upd_same sa)⟩
end
end Mi

/-! Mi27: exceptions with an own __init__ -/
namespace Mi
open PySem PySem.Spec L2

def fieldsOf (ct : CT) (ks : List Nat) (ws : List V) : List (Str × V) := ((ks.map ct.nm).zip ws).reverse
/-- what an exception's __init__ keeps: it stores its arguments under the names ks -/
def spX (ct : CT) (C : Nat) (ks : List Nat) : Sp := fun vs H Q _ => ∃ (a : Addr) (ws : List V), vs = .ref a :: ws ∧ ws.length = ks.length ∧ H a = some (L2.exo a (ct.ca C) none) ∧
  (ks = [] → Q .non H) ∧ (ks ≠ [] → ∀ (dx : Addr) (H' : Hp), H dx = none → dx ≠ a → H' a = some (L2.exo a (ct.ca C) (some dx)) → H' dx = some (L2.exd dx (fieldsOf ct ks ws)) → (∀ b, b ≠ a → b ≠ dx → H' b = H b) → Q .non H')
section
variable {P : Program} {w : World} {K : PySem.W.Frag} {mg : Str → Option Value} {base : Heap} {CX : CXT} {ct : CT} {x qual slf v v2 : Str} {params : Arguments} {scope : Scope} {dvs : List V} {kws : List (Str × V)} {f : Addr} {fd : FuncData} {k : Nat} {p1 p2 p3 p4 p5 p6 p7 p8 : Pos} {C k0 k1 : Nat}
theorem xi1_ok (F : FunD K x qual params [.Assign [.Attribute (.Name slf p1) (ct.nm k0) p2] (.Name v p3) p4] scope dvs kws f fd) (S : FnScope [slf, v] [slf, v] scope) (hs : Vis scope slf) (hv : Vis scope v) (T : OexC K (ct.ca C)) (hno : PySem.W.findIn K (.ref (ct.ca C)) (ct.nm k0) = some none)
    (d1 : (slf == ("__debug__" : Str)) = false := by decide) (d2 : (slf == ("__classdict__" : Str)) = false := by decide) (d3 : (v == ("__debug__" : Str)) = false := by decide) (d4 : (v == ("__classdict__" : Str)) = false := by decide) : FnOk P w K mg base CX (k + 1) f fd [slf, v] (spX ct C [k0]) :=
  fun_ok F S (fun vs H Q E ⟨a, ws, h1, h2, _⟩ => by subst h1; simp [h2]) fun cdv A outer s H vs Q E hr ⟨a, ws, h1, h2, h3, _, h5⟩ => by
    match ws, h2, h1, h5 with
    | [y], _, h1, h5 =>
      subst h1
      refine ⟨_, pss_one (ps_ost (pe_var (i := 0) rfl hs d1 d2) (pe_var (i := 1) rfl hv d3 d4)), ?_⟩
      exact ⟨y, rfl, .ref a, rfl, a, ct.ca C, rfl, T, hno, .inl ⟨h3, fun dx n ne => h5 (by simp) dx _ n ne upd_same (by rw [upd_ne ne, upd_same]; rfl) fun b b1 b2 => by rw [upd_ne b1, upd_ne b2]⟩⟩
theorem xi2_ok (F : FunD K x qual params [.Assign [.Attribute (.Name slf p1) (ct.nm k0) p2] (.Name v p3) p4, .Assign [.Attribute (.Name slf p5) (ct.nm k1) p6] (.Name v2 p7) p8] scope dvs kws f fd) (S : FnScope [slf, v, v2] [slf, v, v2] scope) (hs : Vis scope slf) (hv : Vis scope v) (hv2 : Vis scope v2)
    (T : OexC K (ct.ca C)) (hno : PySem.W.findIn K (.ref (ct.ca C)) (ct.nm k0) = some none) (hno2 : PySem.W.findIn K (.ref (ct.ca C)) (ct.nm k1) = some none)
    (d1 : (slf == ("__debug__" : Str)) = false := by decide) (d2 : (slf == ("__classdict__" : Str)) = false := by decide) (d3 : (v == ("__debug__" : Str)) = false := by decide) (d4 : (v == ("__classdict__" : Str)) = false := by decide)
    (d5 : (v2 == ("__debug__" : Str)) = false := by decide) (d6 : (v2 == ("__classdict__" : Str)) = false := by decide) : FnOk P w K mg base CX (k + 1) f fd [slf, v, v2] (spX ct C [k0, k1]) :=
  fun_ok F S (fun vs H Q E ⟨a, ws, h1, h2, _⟩ => by subst h1; simp [h2]) fun cdv A outer s H vs Q E hr ⟨a, ws, h1, h2, h3, _, h5⟩ => by
    match ws, h2, h1, h5 with
    | [y, y2], _, h1, h5 =>
      subst h1
      refine ⟨_, pss_cons (ps_ost (pe_var (i := 0) rfl hs d1 d2) (pe_var (i := 1) rfl hv d3 d4)) (pss_one (ps_ost (pe_var (i := 0) rfl hs d1 d2) (pe_var (i := 2) rfl hv2 d5 d6))), ?_⟩
      exact ⟨y, rfl, .ref a, rfl, a, ct.ca C, rfl, T, hno, .inl ⟨h3, fun dx n ne => ⟨y2, rfl, .ref a, rfl, a, ct.ca C, rfl, T, hno2, .inr ⟨dx, _, upd_same, by rw [upd_ne ne, upd_same], (by show 1 ≤ 900; omega),
        h5 (by simp) dx _ n ne (by rw [upd_ne ne.symm, upd_same]) upd_same fun b b1 b2 => by rw [upd_ne b2, upd_ne b1, upd_ne b2]⟩⟩⟩⟩
end
end Mi

/-! Mi28: an exception with an own __init__ made as a value; an __init__ that calls its base's -/
namespace Mi
open PySem PySem.Spec L2

section
variable {K : PySem.W.Frag} {ct : CT} {S : Addr → Prop} {H : Hp}
theorem DRf.append : ∀ {ds : List (Nat × D)} {vs : List (Str × V)} {es : List (Nat × D)} {ws : List (Str × V)}, DRf K ct S H ds vs → DRf K ct S H es ws → DRf K ct S H (ds ++ es) (vs ++ ws)
  | _, _, _, _, .nil, t => t
  | _, _, _, _, .cons r s, t => .cons r (DRf.append s t)
theorem drf_fields : ∀ {ks : List Nat} {ds : List D} {ws : List V}, DRs K ct S H ds ws → DRf K ct S H (ks.zip ds).reverse (fieldsOf ct ks ws)
  | [], _, _, _ => .nil
  | _ :: _, _, _, .nil => .nil
  | k :: ks, _, _, .cons r t => by
    unfold fieldsOf
    simp only [List.zip_cons_cons, List.map_cons, List.reverse_cons]
    exact DRf.append (drf_fields t) (.cons r .nil)
end
/-- what the class's own __init__ is -/
structure XInit (X : Cx) (ct : CT) (C : Nat) (ks : List Nat) : Prop where
  T : OexC X.K (ct.ca C)
  i : ∃ (f : Addr) (fd : FuncData) (ps : List Str), PySem.W.findIn X.K (.ref (ct.ca C)) "__init__" = some (some (.ref f)) ∧ PySem.W.typeIn X.K (.ref f) = some (.type "function") ∧ Binds X.K fd ps [] ∧ FnOk X.prog X.w X.K X.mg X.base (L2.CX X.prog X.w) 1 f fd ps (spX ct C ks)
section
variable {X : Cx} {ct : CT} {W : WX} {pos p : Pos} {e : Expr} {es : List Expr} {fs : SemA} {x : Str}
theorem run_exi {C : Nat} {ks : List Nat} {pins : List (Addr × Obj)} {σ : L2.St} {H : Hp} {s : Shared} {Q : VK} {us : List Value} {vs : List V} (XI : XInit X ct C ks) (hr : Room 2 X.A) (hl : vs.length = ks.length) (hk : ks.length ≤ 100) (I : Inv X pins σ H s) (r : Vals vs us)
    (h0 : ks = [] → ∀ a, H a = none → Q (.ref a) (upd H a (L2.exo a (ct.ca C) none)))
    (h1 : ks ≠ [] → ∀ a dx H', H a = none → H dx = none → H' a = some (L2.exo a (ct.ca C) (some dx)) → H' dx = some (L2.exd dx (fieldsOf ct ks vs)) → (∀ b, b ≠ a → b ≠ dx → H' b = H b) → Q (.ref a) H') :
    wpAny (model X.prog X.w) X.A (call (.ref (ct.ca C)) us) (EP X pins σ Q) X.xe s := by
  obtain ⟨T, fI, fd, ps, iC, tI, hb, F1⟩ := XI
  obtain ⟨nm, q, N, bs, bm, sn, sub, ab, col, dd, k0, k1, k2, k3, k5, hC, hbm⟩ := T.cls
  obtain ⟨hp, g, dr, tk, os⟩ := s
  have hsz : hp.objs.size ≤ hp.objs.size + 1 := Nat.le_succ _
  have hn : H (hp.objs.size + 1) = none := I.hok.fresh hsz
  have kk : ∀ b o, hp.get? b = some o → ((hp.push (PySem.W.kdv_tup us)).push (PySem.HandSPX.excO (ct.ca C) hp.objs.size)).get? b = some o := fun b o e => Heap.get?_push_of_some _ (Heap.get?_push_of_some _ e)
  have hget : ((hp.push (PySem.W.kdv_tup us)).push (PySem.HandSPX.excO (ct.ca C) hp.objs.size)).get? (hp.objs.size + 1) = some (PySem.HandSPX.excO (ct.ca C) hp.objs.size) := by heap_get
  have I2 := I.laid (t' := tk) (a := hp.objs.size + 1) (o := L2.exo (hp.objs.size + 1) (ct.ca C) none) (h' := (hp.push (PySem.W.kdv_tup us)).push (PySem.HandSPX.excO (ct.ca C) hp.objs.size)) kk hsz (exo_ok hget)
  have r2 : Vals (V.ref (hp.objs.size + 1) :: vs) (Value.ref (hp.objs.size + 1) :: us) := .cons rfl r
  have hus : us.length ≤ sizeLine := by
    rw [← Paired.length r, hl, sizeLine_eq]
    omega
  have hq : spX ct C ks (V.ref (hp.objs.size + 1) :: vs) (upd H (hp.objs.size + 1) (L2.exo (hp.objs.size + 1) (ct.ca C) none)) (fun v H2 => v = .non ∧ Q (.ref (hp.objs.size + 1)) H2) (fun _ _ _ => False) := by
    refine ⟨_, vs, rfl, hl, upd_same, fun z => ⟨rfl, h0 z _ hn⟩, fun z dx H' n ne e1 e2 e3 => ⟨rfl, h1 z _ dx H' hn ?_ e1 e2 fun b b1 b2 => by rw [e3 b b1 b2, upd_ne b1]⟩⟩
    rw [upd_ne ne] at n
    exact n
  have hlen : (Value.ref (hp.objs.size + 1) :: us).length = ps.length := by rw [← Paired.length r2, F1.len _ _ _ _ hq]
  have bb := hb _ (Value.ref (hp.objs.size + 1) :: us) I2.kIn (by rw [List.append_nil]; exact hlen)
  rw [List.append_nil] at bb
  refine wpAny_call (PySem.HandSPX.call_own F.excBase_ValueError (fun Y => PySem.HandSPX.refsVE_contains Y bm hbm) (I.kIn _ _ hC) (PySem.W.looks_findIn I.kIn iC) (fun self => PySem.W.bind_fn I.kIn self tI) hus
    (codeAny_mono (F1.run _ X.stack _ _ ⟨Value.ref (hp.objs.size + 1) :: us, []⟩ _ _ _ _ (hr.make (ct.ca C) us []) (I2.env0.make (ct.ca C) us []) bb r2 hq) fun r s' hq' => ?_))
  cases r with
  | error er =>
    obtain ⟨_, _, _, _, _, _, _, _, _, _, _, _, z⟩ := hq'
    exact z.elim
  | ok fl =>
    cases fl with
    | ret u =>
      obtain ⟨v, H', I3, rv, ev, q3⟩ := I2.after hq'
      subst ev
      exact ⟨rv, ⟨V.ref (hp.objs.size + 1), H', I3, rfl, q3⟩⟩
    | next => exact False.elim hq'
    | brk => exact False.elim hq'
    | cont => exact False.elim hq'
/-- C(e, ..) -/
def eXi (C : Nat) (ks : List Nat) (fs : SemA) : SemE := fun σ h => rb (fs σ h) fun xs h1 => match toDs xs h1 with
  | some (ds, h2) => if ds.length = ks.length then .ok (.d (.exc C (ks.zip ds).reverse)) h2 else .bad
  | none => .bad
theorem se_exi {C : Nat} {k : Nat} {ks : List Nat} (XI : XInit X ct C (k :: ks)) (hr : Room 2 X.A) (hk : (k :: ks).length ≤ 100) (hg : Gl X x) (hm : X.mg x = some (.ref (ct.ca C))) (ha : SA X ct W (e :: es) fs) (hdb : (x == ("__debug__" : Str)) = false := by decide)
    (he : starEach (e :: es) X.env = (false, eval e X.env) :: starEach es X.env := by rfl) (hpl : (backTo pos (starEach es X.env)).any (·.1) = false := by rfl) : SE X ct W (.Call (.Name x p) (e :: es) [] pos) (eXi C (k :: ks) fs) := by
  refine ⟨fun pins s σV H Q I ⟨m, ah, σ, hr0, lr, q⟩ => ?_⟩
  refine wpAny_Call_Name_kw (ld_glob I hg hm ?_ hdb)
  refine PySem.W.callWith_K (h₀ := X.base) I.ok.mod.kin XI.T.kC (thn (ha.run pos pins s σV H _ I ⟨m, ah, σ, hr0, lr, Po.bind (R := VlRs X.K ct) q⟩) fun us s1 ⟨vs, H1, I1, r, m1, h1, xs, hr1, e1, r1, p1⟩ => ⟨I1.kIn, ?_⟩) he hpl
  dsimp only at p1
  cases e2 : toDs xs h1 with
  | none => rw [e2] at p1; exact p1.elim
  | some z =>
    obtain ⟨ds, h2⟩ := z
    rw [e2] at p1
    dsimp only at p1
    split at p1
    · rename_i hl
      obtain ⟨hr2, ex2, t2⟩ := toDs_sound hr1 e2 r1
      refine run_exi XI hr (by rw [← hl, t2.length]) hk I1 r (fun z => nomatch z) fun _ a dx H' n nd q1 q2 q3 => ?_
      obtain ⟨hr3, e3⟩ := hr2.more (H' := H') fun b o hb => by
        rw [q3 b (ne_of_none hb n) (ne_of_none hb nd)]
        exact hb
      exact p1 m1 H' (.ref a) hr3 (ex2.trans e3) (.exd q1 (hr2.freshS n) q2 (hr2.freshS nd) ((drf_fields t2).mono e3.kp))
    · exact p1.elim
/-- C(), C's __init__ stores nothing -/
theorem se_exi0 {C : Nat} (XI : XInit X ct C []) (hr : Room 2 X.A) (hg : Gl X x) (hm : X.mg x = some (.ref (ct.ca C))) (hdb : (x == ("__debug__" : Str)) = false := by decide) : SE X ct W (.Call (.Name x p) [] [] pos) (eXb C) := by
  refine ⟨fun pins s σV H Q I ⟨m, ah, σ, hr0, lr, q⟩ => ?_⟩
  refine wpAny_Call_Name_kw (ld_glob I hg hm ?_ hdb)
  refine PySem.W.callWith_K0 I.kIn XI.T.kC ?_
  refine run_exi (us := []) (vs := []) XI hr rfl (by decide) I .nil (fun _ a n => ?_) fun z => absurd rfl z
  obtain ⟨hr2, e2, sa⟩ := hr0.pure (o := L2.exo a (ct.ca C) none) n
  exact q m _ (.ref a) hr2 e2 (.exb upd_same sa)
end
/-! ### an __init__ that calls its base's -/
section
variable {X : Cx} {e : Expr} {es : List Expr} {ta : TA} {x : Str} {p p1 p2 pos : Pos}
/-- B.__init__(self, ..), found at ValueError -/
theorem pe_binit {B : Addr} {pl : Sem Bool} (hg : Gl X x) (hm : X.mg x = some (.ref B)) (h1 : PySem.W.specialIn X.K (.ref B) "__getattribute__" = some (some (.builtin "type.__getattribute__"))) (h2 : PySem.W.readsIn X.K B (.type "type") = true)
    (h3 : PySem.W.findCls X.K (.ref B) (.type "type") "__init__" = some (.val (.builtin "ValueError.__init__"))) (ha : PA X (e :: es) ta)
    (hc : eval (.Call (.Attribute (.Name x p1) "__init__" p2) (e :: es) [] pos) X.env = (do
      let ov ← eval (.Name x p1) X.env
      standAt p2.atName
      let (f, first) ← holding [ov] (getMethod ov "__init__" pl)
      callWith pos f first (backTo pos (starEach (e :: es) X.env)) (backToKw pos (keywordEach [] X.env))) := by rfl)
    (hdb : (x == ("__debug__" : Str)) = false := by decide)
    (he : starEach (e :: es) X.env = (false, eval e X.env) :: starEach es X.env := by rfl) (hpl : (backTo pos (starEach es X.env)).any (·.1) = false := by rfl) :
    PE X (.Call (.Attribute (.Name x p1) "__init__" p2) (e :: es) [] pos) (tVeI X.K ta) := by
  refine ⟨fun pins s σ H Q I h => PySem.W.methodCall_KW (ld_glob I hg hm ?_ hdb) hc⟩
  refine PySem.W.method_cls I.kIn h1 (PySem.W.cls_value I.kIn h2 h3 (by decide +kernel) ?_)
  refine PyProof.Rows.callWith_method1 (thn (ha.run pos pins _ σ H _ (I.tok _) h) fun us s1 ⟨vs, H1, I1, r1, a, C, ws, ev, hl, T, ea, q⟩ => ?_) he hpl
  subst ev
  cases r1 with
  | @cons _ u0 _ ur ra rr =>
    obtain rfl : u0 = Value.ref a := ra
    exact oinit_ok T I1 ea (by rw [← Paired.length rr, sizeLine_eq]; omega) fun s' J => ⟨.non, H1, J, rfl, q⟩
end
section
variable {P : Program} {w : World} {K : PySem.W.Frag} {mg : Str → Option Value} {base : Heap} {CX : CXT} {ct : CT} {x qual slf : Str} {params : Arguments} {scope : Scope} {dvs : List V} {kws : List (Str × V)} {f : Addr} {fd : FuncData} {k : Nat} {p6 : Pos} {C : Nat} {e : Expr} {t : TE}
theorem xi0_ok (F : FunD K x qual params [.Expr e p6] scope dvs kws f fd) (S : FnScope [slf] [slf] scope) (hs : ∀ env : Env, swapsWith e none p6.line env = pure false) (hp : ∀ (cdv : Value) (A : Around) (outer : List Env) (s : Shared) (H : Hp) (E : XK), PE (cxOf CX P w K mg base [slf] qual scope f cdv A outer s H E) e t)
    (ht : ∀ (a : Addr) (H : Hp) (Q : VK), H a = some (L2.exo a (ct.ca C) none) → Q .non H → t (L2.start [slf] [V.ref a]) H Q) : FnOk P w K mg base CX (k + 1) f fd [slf] (spX ct C []) :=
  fun_ok F S (fun vs H Q E ⟨a, ws, h1, h2, _⟩ => by subst h1; simp [h2]) fun cdv A outer s H vs Q E hr ⟨a, ws, e1, e2, e3, e4, _⟩ => by
    match ws, e2, e1 with
    | [], _, e1 =>
      subst e1
      exact ⟨_, pss_one (ps_expr (hp cdv A outer s H E) (hs _)), ht a H _ e3 (e4 rfl)⟩
end
end Mi

/-! Mi29: facts of exception classes by tables; join -/
namespace Mi
open PySem PySem.Spec L2

def isxC (b : Nat) (xs : List Nat) (T : Nat) : List (Nat × Bool) := xs.map fun C => (C, xsub b C T)
def isxB (xs : List Nat) : List (Nat × Bool) := xs.map fun C => (C, true)
theorem lookup_map {xs : List Nat} {g : Nat → Bool} {C : Nat} {b : Bool} (h : (xs.map fun C => (C, g C)).lookup C = some b) : C ∈ xs ∧ g C = b := by
  induction xs with
  | nil => cases h
  | cons x xs ih =>
    by_cases e : C = x
    · subst e
      simp only [List.map_cons, List.lookup, beq_self_eq_true] at h
      cases h
      exact ⟨List.mem_cons_self, rfl⟩
    · have z : (C == x) = false := beq_eq_false_iff_ne.mpr e
      simp only [List.map_cons, List.lookup, z] at h
      exact ⟨List.mem_cons_of_mem _ (ih h).1, (ih h).2⟩
theorem xAll_ok {K : PySem.W.Frag} {ct : CT} {cn : List Str} {xs : List Nat} {C : Nat} (hca : ∀ C, ct.ca C = cga K cn C) (h : xAllB K cn xs = true) (hC : C ∈ xs) : ExcK K (ct.ca C) := by
  rw [hca]
  exact excKB_ok (List.all_eq_true.mp h C hC)
theorem isxC_ok {K : PySem.W.Frag} {ct : CT} {cn : List Str} {b : Nat} {xs ts : List Nat} {T : Nat} (hca : ∀ C, ct.ca C = cga K cn C) (h1 : xAllB K cn xs = true) (h2 : kitXB K cn b xs ts = true) (hT : T ∈ ts) (C : Nat) (r : Bool) (h : (isxC b xs T).lookup C = some r) :
    ExcK K (ct.ca C) ∧ PySem.W.kitOne K (.ref (ct.ca C)) (.ref (ct.ca T)) = some r := by
  obtain ⟨hm, e⟩ := lookup_map h
  subst e
  refine ⟨xAll_ok hca h1 hm, ?_⟩
  rw [hca, hca]
  exact kitA_ok (List.all_eq_true.mp (List.all_eq_true.mp h2 C hm) T hT)
theorem isxB_ok {K : PySem.W.Frag} {ct : CT} {cn : List Str} {xs : List Nat} {ts : List String} {T : String} (hca : ∀ C, ct.ca C = cga K cn C) (h1 : xAllB K cn xs = true) (h2 : kitYB K cn xs ts = true) (hT : T ∈ ts) (C : Nat) (r : Bool) (h : (isxB xs).lookup C = some r) :
    ExcK K (ct.ca C) ∧ PySem.W.kitOne K (.ref (ct.ca C)) (.type T) = some r := by
  obtain ⟨hm, e⟩ := lookup_map h
  subst e
  refine ⟨xAll_ok hca h1 hm, ?_⟩
  rw [hca]
  exact kitA_ok (List.all_eq_true.mp (List.all_eq_true.mp h2 C hm) T hT)
theorem bare_ok {K : PySem.W.Frag} {ct : CT} {cn : List Str} {xs : List Nat} {C : Nat} (hca : ∀ C, ct.ca C = cga K cn C) (h : bareAllB K cn xs = true) (hC : C ∈ xs) : PySem.W.excIn K (ct.ca C) He.veBase "ValueError.__new__" = true ∧ PySem.W.keepIn K (.ref (ct.ca C)) = true := by
  rw [hca]
  exact Bool.and_eq_true_iff.mp (List.all_eq_true.mp h C hC)
theorem binit_ok {K : PySem.W.Frag} {B : Addr} (h : binitB K B = true) : PySem.W.specialIn K (.ref B) "__getattribute__" = some (some (.builtin "type.__getattribute__")) ∧ PySem.W.readsIn K B (.type "type") = true ∧ PySem.W.findCls K (.ref B) (.type "type") "__init__" = some (.val (.builtin "ValueError.__init__")) := by
  unfold binitB at h
  obtain ⟨h1, h⟩ := Bool.and_eq_true_iff.mp h
  obtain ⟨h2, h3⟩ := Bool.and_eq_true_iff.mp h
  refine ⟨He.eqO_ok h1, h2, ?_⟩
  split at h3
  · rename_i n e
    rw [e, beq_iff_eq.mp h3]
  · cases h3

theorem ro2 {n : Nat} {A : Around} (r : Room (2 * n + 2) A) : Room 2 A := r.mono (by omega)

/-! ### x.join(y) -/
def strsOf : List D → Option (List Str)
  | [] => some []
  | .str a :: r => (strsOf r).map (a :: ·)
  | _ => none
def eJo (f g : SemE) : SemE := fun σ h => rb (f σ h) fun x h1 => match x with
  | .d (.str a) => rb (g σ h1) fun y h2 => match seqOf y h2 with
    | some xs => (match strsOf xs with
      | some ys => if (ys.map (·.length)).sum + ys.length * a.length ≤ 16777216 then .ok (.d (.str (Txt.join a ys))) h2 else .bad
      | none => .bad)
    | none => .bad
  | _ => .bad
theorem strsOf_drs {K : PySem.W.Frag} {ct : CT} {S : Addr → Prop} {H : Hp} : ∀ {xs : List D} {vs : List V} {ys : List Str}, strsOf xs = some ys → DRs K ct S H xs vs → vs = ys.map V.str
  | [], _, _, e, .nil => by cases e; rfl
  | x :: xs, _, ys, e, .cons r t => by
    cases x with
    | str a =>
      simp only [strsOf, Option.map_eq_some_iff] at e
      obtain ⟨zs, e1, e2⟩ := e
      subst e2
      cases r
      rw [List.map_cons, ← strsOf_drs e1 t]
    | _ => cases e
theorem se_join {X : Cx} {ct : CT} {W : WX} {o e : Expr} {f g : SemE} {apos pos : Pos} (ho : SE X ct W o f) (he : SE X ct W e g) (hs : starEach [e] X.env = [(false, eval e X.env)] := by rfl) (hbase : attributeBase o "join" X.env (eval o X.env) = eval o X.env := by rfl)
    (hline : (apos.endLine == pos.line) = true := by rfl) : SE X ct W (.Call (.Attribute o "join" apos) [e] [] pos) (eJo f g) :=
  PE.imp (pe_join ho he hs hbase hline) fun σV H Q ⟨m, ah, σ, hr, lr, p⟩ => ⟨m, ah, σ, hr, lr, (Po.bind (R := VlR X.K ct) p).imp fun v H1 ⟨m1, h1, x, hr1, e1, r1, p1⟩ => by
    dsimp only at p1
    split at p1
    · rename_i a
      cases r1
      refine ⟨⟨a, rfl⟩, m1, h1, σ, hr1, lr.ext e1, (Po.bind (R := VlR X.K ct) p1).imp fun u H2 ⟨m2, h2, y, hr2, e2, r2, p2⟩ => ?_⟩
      dsimp only at p2
      cases q : seqOf y h2 with
      | none => rw [q] at p2; exact p2.elim
      | some xs =>
        rw [q] at p2
        dsimp only at p2
        cases q2 : strsOf xs with
        | none => rw [q2] at p2; exact p2.elim
        | some ys =>
          rw [q2] at p2
          dsimp only at p2
          split at p2
          · rename_i hb
            obtain ⟨b, vs, rfl, h3, t⟩ := seq_of hr2 q r2
            rw [strsOf_drs q2 t] at h3
            exact ⟨a, b, ys, rfl, rfl, h3, hb, p2 m2 H2 _ hr2 (Ext.refl _ _ _) (.str _)⟩
          · exact p2.elim
    · exact p1.elim⟩
end Mi

/-! Mi30: the new meanings, applied -/
namespace Mi
open PySem PySem.Spec L2
section
variable {σ : Lo} {h : Hs} {f g : SemE} {fs : SemA}
@[simp] theorem ap_jo : eJo f g σ h = rb (f σ h) fun x h1 => match x with
  | .d (.str a) => rb (g σ h1) fun y h2 => match seqOf y h2 with
    | some xs => (match strsOf xs with
      | some ys => if (ys.map (·.length)).sum + ys.length * a.length ≤ 16777216 then .ok (.d (.str (Txt.join a ys))) h2 else .bad
      | none => .bad)
    | none => .bad
  | _ => .bad := rfl
@[simp] theorem ap_xf (ok : Nat → Bool) (n : Nat) : eXf ok n f σ h = rb (f σ h) fun x h1 => match x with
  | .d (.exc C fs) => if ok C = true then (match fs.lookup n with
    | some d => .ok (.d d) h1
    | none => .bad) else .bad
  | _ => .bad := rfl
@[simp] theorem ap_isx (l : List (Nat × Bool)) : eIsx l f σ h = rb (f σ h) fun x h1 => match x with
  | .d (.exc C _) => (match l.lookup C with
    | some b => .ok (.d (.bl b)) h1
    | none => .bad)
  | _ => .bad := rfl
@[simp] theorem ap_xb (C : Nat) : eXb C σ h = .ok (.d (.exc C [])) h := rfl
@[simp] theorem ap_xi (C : Nat) (ks : List Nat) : eXi C ks fs σ h = rb (fs σ h) fun xs h1 => match toDs xs h1 with
  | some (ds, h2) => if ds.length = ks.length then .ok (.d (.exc C (ks.zip ds).reverse)) h2 else .bad
  | none => .bad := rfl
end
end Mi

namespace K00
open PySem PySem.Spec L2 Mi
/-! printed by gen.py: the defs, their meanings -/
def fl : List Str := ["what", "line", "place", "at", "how", "number", "waiting", "hand", "report", "symbol", "length", "begin", "end", "name", "road", "used", "turns"]
def ct (K : PySem.W.Frag) : CT := ⟨fun C => He.ga K (cn.getD C ""), nmL fl, nmL_inj (by decide +kernel), none⟩
def okx_at (C : Nat) : Bool := C == 8 || C == 22 || C == 24 || C == 28 || C == 45
def okx_begin (C : Nat) : Bool := C == 27
def okx_end (C : Nat) : Bool := C == 27
def okx_hand (C : Nat) : Bool := C == 18 || C == 19 || C == 20
def okx_how (C : Nat) : Bool := C == 12
def okx_length (C : Nat) : Bool := C == 25
def okx_line (C : Nat) : Bool := C == 4
def okx_name (C : Nat) : Bool := C == 29
def okx_number (C : Nat) : Bool := C == 13 || C == 14 || C == 15
def okx_place (C : Nat) : Bool := C == 4
def okx_report (C : Nat) : Bool := C == 21
def okx_road (C : Nat) : Bool := C == 34 || C == 36 || C == 47
def okx_symbol (C : Nat) : Bool := C == 23
def okx_turns (C : Nat) : Bool := C == 37
def okx_used (C : Nat) : Bool := C == 35
def okx_waiting (C : Nat) : Bool := C == 16
def okx_what (C : Nat) : Bool := C == 1 || C == 3 || C == 5 || C == 8 || C == 33 || C == 34 || C == 39
def m__law_source (call : CallT) : SemS := (sRt (eLst (aCons (eN nListV (aCons (eVar 0) aNil)) (aCons (eK (.int 0)) (aCons (eK (.int 0)) (aCons (eK (.int 1)) aNil))))))
@[simp] theorem am__law_source (call : CallT) (σ : Lo) (h : Hs) : m__law_source call σ h = (sRt (eLst (aCons (eN nListV (aCons (eVar 0) aNil)) (aCons (eK (.int 0)) (aCons (eK (.int 0)) (aCons (eK (.int 1)) aNil)))))) σ h := rfl
def m__law_take (call : CallT) : SemS := (sSq (sIf (tBl (eBin (oEqF false) (eBin oIx (eVar 0) (eK (.int 2))) (eK (.int 0))))
      (sSq (sAs (eK (.int 0)) (gNm 2))
      (sSq (sIf (tBl (eBin oLt (eBin oIx (eVar 0) (eK (.int 1))) (eN nLen (aCons (eBin oIx (eVar 0) (eK (.int 0))) aNil))))
      (sAs (eBin oIx (eBin oIx (eVar 0) (eK (.int 0))) (eBin oIx (eVar 0) (eK (.int 1)))) (gNm 2))
      sNil)
      (sSq (sAs (eBin oAdd (eBin oIx (eVar 0) (eK (.int 1))) (eK (.int 1))) (gSt (eVar 0) (eK (.int 1))))
      (sIf (tBl (eBin oGe (eVar 2) (eBin oPow (eK (.int 10)) (eK (.int 18)))))
      (sAs (eVar 2) (gSt (eVar 0) (eK (.int 2))))
      (sSq (sAs (eBin oMod (eN nInt (aCons (eBin oAdd (eBin oAdd (eBin oAdd (eBin oMulI (eBin oIx (eVar 0) (eK (.int 3))) (eK (.int 69621))) (eBin oMulI (eBin oMod (eN nInt (aCons (eVar 2) aNil)) (eK (.int 2147483629))) (eK (.int 48271)))) (eBin oMulI (eBin oIx (eVar 0) (eK (.int 1))) (eK (.int 7919)))) (eK (.int 1))) aNil)) (eK (.int 2147483647))) (gNm 3))
      (sSq (sAs (eBin oMod (eN nInt (aCons (eBin oAdd (eBin oAdd (eBin oMulI (eVar 3) (eVar 3)) (eBin oMulI (eBin oIx (eVar 0) (eK (.int 1))) (eK (.int 104729)))) (eK (.int 13))) aNil)) (eK (.int 2147483629))) (gNm 3))
      (sSq (sAs (eVar 3) (gSt (eVar 0) (eK (.int 3))))
      (sRt (eBin oMod (eBin oDiv (eVar 3) (eK (.int 7))) (eVar 1))))))))))
      sNil)
      (sSq (sAs (eBin oMod (eN nInt (aCons (eBin oIx (eVar 0) (eK (.int 2))) aNil)) (eVar 1)) (gNm 4))
      (sSq (sAs (eBin oDiv (eBin oIx (eVar 0) (eK (.int 2))) (eVar 1)) (gSt (eVar 0) (eK (.int 2))))
      (sRt (eVar 4)))))
@[simp] theorem am__law_take (call : CallT) (σ : Lo) (h : Hs) : m__law_take call σ h = (sSq (sIf (tBl (eBin (oEqF false) (eBin oIx (eVar 0) (eK (.int 2))) (eK (.int 0))))
      (sSq (sAs (eK (.int 0)) (gNm 2))
      (sSq (sIf (tBl (eBin oLt (eBin oIx (eVar 0) (eK (.int 1))) (eN nLen (aCons (eBin oIx (eVar 0) (eK (.int 0))) aNil))))
      (sAs (eBin oIx (eBin oIx (eVar 0) (eK (.int 0))) (eBin oIx (eVar 0) (eK (.int 1)))) (gNm 2))
      sNil)
      (sSq (sAs (eBin oAdd (eBin oIx (eVar 0) (eK (.int 1))) (eK (.int 1))) (gSt (eVar 0) (eK (.int 1))))
      (sIf (tBl (eBin oGe (eVar 2) (eBin oPow (eK (.int 10)) (eK (.int 18)))))
      (sAs (eVar 2) (gSt (eVar 0) (eK (.int 2))))
      (sSq (sAs (eBin oMod (eN nInt (aCons (eBin oAdd (eBin oAdd (eBin oAdd (eBin oMulI (eBin oIx (eVar 0) (eK (.int 3))) (eK (.int 69621))) (eBin oMulI (eBin oMod (eN nInt (aCons (eVar 2) aNil)) (eK (.int 2147483629))) (eK (.int 48271)))) (eBin oMulI (eBin oIx (eVar 0) (eK (.int 1))) (eK (.int 7919)))) (eK (.int 1))) aNil)) (eK (.int 2147483647))) (gNm 3))
      (sSq (sAs (eBin oMod (eN nInt (aCons (eBin oAdd (eBin oAdd (eBin oMulI (eVar 3) (eVar 3)) (eBin oMulI (eBin oIx (eVar 0) (eK (.int 1))) (eK (.int 104729)))) (eK (.int 13))) aNil)) (eK (.int 2147483629))) (gNm 3))
      (sSq (sAs (eVar 3) (gSt (eVar 0) (eK (.int 3))))
      (sRt (eBin oMod (eBin oDiv (eVar 3) (eK (.int 7))) (eVar 1))))))))))
      sNil)
      (sSq (sAs (eBin oMod (eN nInt (aCons (eBin oIx (eVar 0) (eK (.int 2))) aNil)) (eVar 1)) (gNm 4))
      (sSq (sAs (eBin oDiv (eBin oIx (eVar 0) (eK (.int 2))) (eVar 1)) (gSt (eVar 0) (eK (.int 2))))
      (sRt (eVar 4))))) σ h := rfl
def m__law_pick (call : CallT) : SemS := (sRt (eBin oIx (eVar 1) (eCl call 1 [] (aCons (eVar 0) (aCons (eN nLen (aCons (eVar 1) aNil)) aNil)))))
@[simp] theorem am__law_pick (call : CallT) (σ : Lo) (h : Hs) : m__law_pick call σ h = (sRt (eBin oIx (eVar 1) (eCl call 1 [] (aCons (eVar 0) (aCons (eN nLen (aCons (eVar 1) aNil)) aNil))))) σ h := rfl
def m__law_text (call : CallT) : SemS := (sRt (eJo (eK (.str "")) (eLc false [1] (iA1 (aCons (eCl call 1 [] (aCons (eVar 0) (aCons (eK (.int 9)) aNil))) aNil)) (gNm 1) tYs (eBin oIx (eK (.str "abcdefghijklmnopqrstuvwxyz ")) (eCl call 1 [] (aCons (eVar 0) (aCons (eK (.int 27)) aNil)))))))
@[simp] theorem am__law_text (call : CallT) (σ : Lo) (h : Hs) : m__law_text call σ h = (sRt (eJo (eK (.str "")) (eLc false [1] (iA1 (aCons (eCl call 1 [] (aCons (eVar 0) (aCons (eK (.int 9)) aNil))) aNil)) (gNm 1) tYs (eBin oIx (eK (.str "abcdefghijklmnopqrstuvwxyz ")) (eCl call 1 [] (aCons (eVar 0) (aCons (eK (.int 27)) aNil))))))) σ h := rfl
def m__law_thing (call : CallT) : SemS := (sRt (eCl call 2 [] (aCons (eVar 0) (aCons (eLv (aCons (eBin oSub (eCl call 1 [] (aCons (eVar 0) (aCons (eBin oPow (eK (.int 10)) (eK (.int 21))) aNil))) (eBin oPow (eK (.int 10)) (eK (.int 20)))) (aCons (eCl call 3 [] (aCons (eVar 0) aNil)) (aCons (eK .non) (aCons (eTup (aCons (eCl call 1 [] (aCons (eVar 0) (aCons (eK (.int 100)) aNil))) (aCons (eK (.int 2)) aNil))) (aCons (eTup aNil) aNil)))))) aNil))))
@[simp] theorem am__law_thing (call : CallT) (σ : Lo) (h : Hs) : m__law_thing call σ h = (sRt (eCl call 2 [] (aCons (eVar 0) (aCons (eLv (aCons (eBin oSub (eCl call 1 [] (aCons (eVar 0) (aCons (eBin oPow (eK (.int 10)) (eK (.int 21))) aNil))) (eBin oPow (eK (.int 10)) (eK (.int 20)))) (aCons (eCl call 3 [] (aCons (eVar 0) aNil)) (aCons (eK .non) (aCons (eTup (aCons (eCl call 1 [] (aCons (eVar 0) (aCons (eK (.int 100)) aNil))) (aCons (eK (.int 2)) aNil))) (aCons (eTup aNil) aNil)))))) aNil)))) σ h := rfl
def m__law_bare (call : CallT) : SemS := (sRt (eLv (aCons (eTup (aCons (eK (.int 1)) (aCons (eXb 2) aNil))) (aCons (eTup (aCons (eK (.int 5)) (aCons (eXb 6) aNil))) (aCons (eTup (aCons (eK (.int 6)) (aCons (eXb 7) aNil))) (aCons (eTup (aCons (eK (.int 8)) (aCons (eXb 9) aNil))) (aCons (eTup (aCons (eK (.int 9)) (aCons (eXb 10) aNil))) (aCons (eTup (aCons (eK (.int 10)) (aCons (eXb 11) aNil))) (aCons (eTup (aCons (eK (.int 16)) (aCons (eXb 17) aNil))) (aCons (eTup (aCons (eK (.int 25)) (aCons (eXb 26) aNil))) (aCons (eTup (aCons (eK (.int 29)) (aCons (eXb 30) aNil))) (aCons (eTup (aCons (eK (.int 30)) (aCons (eXb 31) aNil))) (aCons (eTup (aCons (eK (.int 31)) (aCons (eXb 32) aNil))) (aCons (eTup (aCons (eK (.int 37)) (aCons (eXb 38) aNil))) (aCons (eTup (aCons (eK (.int 39)) (aCons (eXb 40) aNil))) (aCons (eTup (aCons (eK (.int 40)) (aCons (eXb 41) aNil))) (aCons (eTup (aCons (eK (.int 41)) (aCons (eXb 42) aNil))) (aCons (eTup (aCons (eK (.int 42)) (aCons (eXb 43) aNil))) (aCons (eTup (aCons (eK (.int 43)) (aCons (eXb 44) aNil))) (aCons (eTup (aCons (eK (.int 45)) (aCons (eXb 46) aNil))) aNil))))))))))))))))))))
@[simp] theorem am__law_bare (call : CallT) (σ : Lo) (h : Hs) : m__law_bare call σ h = (sRt (eLv (aCons (eTup (aCons (eK (.int 1)) (aCons (eXb 2) aNil))) (aCons (eTup (aCons (eK (.int 5)) (aCons (eXb 6) aNil))) (aCons (eTup (aCons (eK (.int 6)) (aCons (eXb 7) aNil))) (aCons (eTup (aCons (eK (.int 8)) (aCons (eXb 9) aNil))) (aCons (eTup (aCons (eK (.int 9)) (aCons (eXb 10) aNil))) (aCons (eTup (aCons (eK (.int 10)) (aCons (eXb 11) aNil))) (aCons (eTup (aCons (eK (.int 16)) (aCons (eXb 17) aNil))) (aCons (eTup (aCons (eK (.int 25)) (aCons (eXb 26) aNil))) (aCons (eTup (aCons (eK (.int 29)) (aCons (eXb 30) aNil))) (aCons (eTup (aCons (eK (.int 30)) (aCons (eXb 31) aNil))) (aCons (eTup (aCons (eK (.int 31)) (aCons (eXb 32) aNil))) (aCons (eTup (aCons (eK (.int 37)) (aCons (eXb 38) aNil))) (aCons (eTup (aCons (eK (.int 39)) (aCons (eXb 40) aNil))) (aCons (eTup (aCons (eK (.int 40)) (aCons (eXb 41) aNil))) (aCons (eTup (aCons (eK (.int 41)) (aCons (eXb 42) aNil))) (aCons (eTup (aCons (eK (.int 42)) (aCons (eXb 43) aNil))) (aCons (eTup (aCons (eK (.int 43)) (aCons (eXb 44) aNil))) (aCons (eTup (aCons (eK (.int 45)) (aCons (eXb 46) aNil))) aNil)))))))))))))))))))) σ h := rfl
def b__law_what_rows_1 (call : CallT) : SemS := (sEx (eLm lmAppend (eVar 1) (aCons (eTup (aCons (eVar 2) (aCons (eVar 3) (aCons (eXf okx_what 0 (eVar 3)) aNil)))) aNil)))
@[simp] theorem ab__law_what_rows_1 (call : CallT) (σ : Lo) (h : Hs) : b__law_what_rows_1 call σ h = (sEx (eLm lmAppend (eVar 1) (aCons (eTup (aCons (eVar 2) (aCons (eVar 3) (aCons (eXf okx_what 0 (eVar 3)) aNil)))) aNil))) σ h := rfl
def m__law_what_rows (call : CallT) : SemS := (sSq (sAs (eLst aNil) (gNm 1))
      (sSq (sFor (iSeq (eTup (aCons (eTup (aCons (eK (.int 0)) (aCons (eXi 1 [0] (aCons (eVar 0) aNil)) aNil))) (aCons (eTup (aCons (eK (.int 2)) (aCons (eXi 3 [0] (aCons (eVar 0) aNil)) aNil))) (aCons (eTup (aCons (eK (.int 4)) (aCons (eXi 5 [0] (aCons (eVar 0) aNil)) aNil))) (aCons (eTup (aCons (eK (.int 32)) (aCons (eXi 33 [0] (aCons (eVar 0) aNil)) aNil))) (aCons (eTup (aCons (eK (.int 38)) (aCons (eXi 39 [0] (aCons (eVar 0) aNil)) aNil))) aNil))))))) (gTp 2 (gCo (gNm 2) (gCo (gNm 3) gNi)))
      (b__law_what_rows_1 call))
      (sRt (eVar 1))))
@[simp] theorem am__law_what_rows (call : CallT) (σ : Lo) (h : Hs) : m__law_what_rows call σ h = (sSq (sAs (eLst aNil) (gNm 1))
      (sSq (sFor (iSeq (eTup (aCons (eTup (aCons (eK (.int 0)) (aCons (eXi 1 [0] (aCons (eVar 0) aNil)) aNil))) (aCons (eTup (aCons (eK (.int 2)) (aCons (eXi 3 [0] (aCons (eVar 0) aNil)) aNil))) (aCons (eTup (aCons (eK (.int 4)) (aCons (eXi 5 [0] (aCons (eVar 0) aNil)) aNil))) (aCons (eTup (aCons (eK (.int 32)) (aCons (eXi 33 [0] (aCons (eVar 0) aNil)) aNil))) (aCons (eTup (aCons (eK (.int 38)) (aCons (eXi 39 [0] (aCons (eVar 0) aNil)) aNil))) aNil))))))) (gTp 2 (gCo (gNm 2) (gCo (gNm 3) gNi)))
      (b__law_what_rows_1 call))
      (sRt (eVar 1)))) σ h := rfl
def b__law_how_rows_1 (call : CallT) : SemS := (sEx (eLm lmAppend (eVar 1) (aCons (eTup (aCons (eVar 2) (aCons (eVar 3) (aCons (eXf okx_how 4 (eVar 3)) aNil)))) aNil)))
@[simp] theorem ab__law_how_rows_1 (call : CallT) (σ : Lo) (h : Hs) : b__law_how_rows_1 call σ h = (sEx (eLm lmAppend (eVar 1) (aCons (eTup (aCons (eVar 2) (aCons (eVar 3) (aCons (eXf okx_how 4 (eVar 3)) aNil)))) aNil))) σ h := rfl
def m__law_how_rows (call : CallT) : SemS := (sSq (sAs (eLst aNil) (gNm 1))
      (sSq (sFor (iSeq (eTup (aCons (eTup (aCons (eK (.int 11)) (aCons (eXi 12 [4] (aCons (eVar 0) aNil)) aNil))) aNil))) (gTp 2 (gCo (gNm 2) (gCo (gNm 3) gNi)))
      (b__law_how_rows_1 call))
      (sRt (eVar 1))))
@[simp] theorem am__law_how_rows (call : CallT) (σ : Lo) (h : Hs) : m__law_how_rows call σ h = (sSq (sAs (eLst aNil) (gNm 1))
      (sSq (sFor (iSeq (eTup (aCons (eTup (aCons (eK (.int 11)) (aCons (eXi 12 [4] (aCons (eVar 0) aNil)) aNil))) aNil))) (gTp 2 (gCo (gNm 2) (gCo (gNm 3) gNi)))
      (b__law_how_rows_1 call))
      (sRt (eVar 1)))) σ h := rfl
def b__law_number_rows_1 (call : CallT) : SemS := (sEx (eLm lmAppend (eVar 1) (aCons (eTup (aCons (eVar 2) (aCons (eVar 3) (aCons (eXf okx_number 5 (eVar 3)) aNil)))) aNil)))
@[simp] theorem ab__law_number_rows_1 (call : CallT) (σ : Lo) (h : Hs) : b__law_number_rows_1 call σ h = (sEx (eLm lmAppend (eVar 1) (aCons (eTup (aCons (eVar 2) (aCons (eVar 3) (aCons (eXf okx_number 5 (eVar 3)) aNil)))) aNil))) σ h := rfl
def m__law_number_rows (call : CallT) : SemS := (sSq (sAs (eLst aNil) (gNm 1))
      (sSq (sFor (iSeq (eTup (aCons (eTup (aCons (eK (.int 12)) (aCons (eXi 13 [5] (aCons (eVar 0) aNil)) aNil))) (aCons (eTup (aCons (eK (.int 13)) (aCons (eXi 14 [5] (aCons (eVar 0) aNil)) aNil))) (aCons (eTup (aCons (eK (.int 14)) (aCons (eXi 15 [5] (aCons (eVar 0) aNil)) aNil))) aNil))))) (gTp 2 (gCo (gNm 2) (gCo (gNm 3) gNi)))
      (b__law_number_rows_1 call))
      (sRt (eVar 1))))
@[simp] theorem am__law_number_rows (call : CallT) (σ : Lo) (h : Hs) : m__law_number_rows call σ h = (sSq (sAs (eLst aNil) (gNm 1))
      (sSq (sFor (iSeq (eTup (aCons (eTup (aCons (eK (.int 12)) (aCons (eXi 13 [5] (aCons (eVar 0) aNil)) aNil))) (aCons (eTup (aCons (eK (.int 13)) (aCons (eXi 14 [5] (aCons (eVar 0) aNil)) aNil))) (aCons (eTup (aCons (eK (.int 14)) (aCons (eXi 15 [5] (aCons (eVar 0) aNil)) aNil))) aNil))))) (gTp 2 (gCo (gNm 2) (gCo (gNm 3) gNi)))
      (b__law_number_rows_1 call))
      (sRt (eVar 1)))) σ h := rfl
def b__law_waiting_rows_1 (call : CallT) : SemS := (sEx (eLm lmAppend (eVar 1) (aCons (eTup (aCons (eVar 2) (aCons (eVar 3) (aCons (eXf okx_waiting 6 (eVar 3)) aNil)))) aNil)))
@[simp] theorem ab__law_waiting_rows_1 (call : CallT) (σ : Lo) (h : Hs) : b__law_waiting_rows_1 call σ h = (sEx (eLm lmAppend (eVar 1) (aCons (eTup (aCons (eVar 2) (aCons (eVar 3) (aCons (eXf okx_waiting 6 (eVar 3)) aNil)))) aNil))) σ h := rfl
def m__law_waiting_rows (call : CallT) : SemS := (sSq (sAs (eLst aNil) (gNm 1))
      (sSq (sFor (iSeq (eTup (aCons (eTup (aCons (eK (.int 15)) (aCons (eXi 16 [6] (aCons (eVar 0) aNil)) aNil))) aNil))) (gTp 2 (gCo (gNm 2) (gCo (gNm 3) gNi)))
      (b__law_waiting_rows_1 call))
      (sRt (eVar 1))))
@[simp] theorem am__law_waiting_rows (call : CallT) (σ : Lo) (h : Hs) : m__law_waiting_rows call σ h = (sSq (sAs (eLst aNil) (gNm 1))
      (sSq (sFor (iSeq (eTup (aCons (eTup (aCons (eK (.int 15)) (aCons (eXi 16 [6] (aCons (eVar 0) aNil)) aNil))) aNil))) (gTp 2 (gCo (gNm 2) (gCo (gNm 3) gNi)))
      (b__law_waiting_rows_1 call))
      (sRt (eVar 1)))) σ h := rfl
def b__law_hand_rows_1 (call : CallT) : SemS := (sEx (eLm lmAppend (eVar 1) (aCons (eTup (aCons (eVar 2) (aCons (eVar 3) (aCons (eXf okx_hand 7 (eVar 3)) aNil)))) aNil)))
@[simp] theorem ab__law_hand_rows_1 (call : CallT) (σ : Lo) (h : Hs) : b__law_hand_rows_1 call σ h = (sEx (eLm lmAppend (eVar 1) (aCons (eTup (aCons (eVar 2) (aCons (eVar 3) (aCons (eXf okx_hand 7 (eVar 3)) aNil)))) aNil))) σ h := rfl
def m__law_hand_rows (call : CallT) : SemS := (sSq (sAs (eLst aNil) (gNm 1))
      (sSq (sFor (iSeq (eTup (aCons (eTup (aCons (eK (.int 17)) (aCons (eXi 18 [7] (aCons (eVar 0) aNil)) aNil))) (aCons (eTup (aCons (eK (.int 18)) (aCons (eXi 19 [7] (aCons (eVar 0) aNil)) aNil))) (aCons (eTup (aCons (eK (.int 19)) (aCons (eXi 20 [7] (aCons (eVar 0) aNil)) aNil))) aNil))))) (gTp 2 (gCo (gNm 2) (gCo (gNm 3) gNi)))
      (b__law_hand_rows_1 call))
      (sRt (eVar 1))))
@[simp] theorem am__law_hand_rows (call : CallT) (σ : Lo) (h : Hs) : m__law_hand_rows call σ h = (sSq (sAs (eLst aNil) (gNm 1))
      (sSq (sFor (iSeq (eTup (aCons (eTup (aCons (eK (.int 17)) (aCons (eXi 18 [7] (aCons (eVar 0) aNil)) aNil))) (aCons (eTup (aCons (eK (.int 18)) (aCons (eXi 19 [7] (aCons (eVar 0) aNil)) aNil))) (aCons (eTup (aCons (eK (.int 19)) (aCons (eXi 20 [7] (aCons (eVar 0) aNil)) aNil))) aNil))))) (gTp 2 (gCo (gNm 2) (gCo (gNm 3) gNi)))
      (b__law_hand_rows_1 call))
      (sRt (eVar 1)))) σ h := rfl
def b__law_report_rows_1 (call : CallT) : SemS := (sEx (eLm lmAppend (eVar 1) (aCons (eTup (aCons (eVar 2) (aCons (eVar 3) (aCons (eXf okx_report 8 (eVar 3)) aNil)))) aNil)))
@[simp] theorem ab__law_report_rows_1 (call : CallT) (σ : Lo) (h : Hs) : b__law_report_rows_1 call σ h = (sEx (eLm lmAppend (eVar 1) (aCons (eTup (aCons (eVar 2) (aCons (eVar 3) (aCons (eXf okx_report 8 (eVar 3)) aNil)))) aNil))) σ h := rfl
def m__law_report_rows (call : CallT) : SemS := (sSq (sAs (eLst aNil) (gNm 1))
      (sSq (sFor (iSeq (eTup (aCons (eTup (aCons (eK (.int 20)) (aCons (eXi 21 [8] (aCons (eVar 0) aNil)) aNil))) aNil))) (gTp 2 (gCo (gNm 2) (gCo (gNm 3) gNi)))
      (b__law_report_rows_1 call))
      (sRt (eVar 1))))
@[simp] theorem am__law_report_rows (call : CallT) (σ : Lo) (h : Hs) : m__law_report_rows call σ h = (sSq (sAs (eLst aNil) (gNm 1))
      (sSq (sFor (iSeq (eTup (aCons (eTup (aCons (eK (.int 20)) (aCons (eXi 21 [8] (aCons (eVar 0) aNil)) aNil))) aNil))) (gTp 2 (gCo (gNm 2) (gCo (gNm 3) gNi)))
      (b__law_report_rows_1 call))
      (sRt (eVar 1)))) σ h := rfl
def b__law_at_rows_1 (call : CallT) : SemS := (sEx (eLm lmAppend (eVar 1) (aCons (eTup (aCons (eVar 2) (aCons (eVar 3) (aCons (eXf okx_at 3 (eVar 3)) aNil)))) aNil)))
@[simp] theorem ab__law_at_rows_1 (call : CallT) (σ : Lo) (h : Hs) : b__law_at_rows_1 call σ h = (sEx (eLm lmAppend (eVar 1) (aCons (eTup (aCons (eVar 2) (aCons (eVar 3) (aCons (eXf okx_at 3 (eVar 3)) aNil)))) aNil))) σ h := rfl
def m__law_at_rows (call : CallT) : SemS := (sSq (sAs (eLst aNil) (gNm 1))
      (sSq (sFor (iSeq (eTup (aCons (eTup (aCons (eK (.int 21)) (aCons (eXi 22 [3] (aCons (eVar 0) aNil)) aNil))) (aCons (eTup (aCons (eK (.int 23)) (aCons (eXi 24 [3] (aCons (eVar 0) aNil)) aNil))) (aCons (eTup (aCons (eK (.int 27)) (aCons (eXi 28 [3] (aCons (eVar 0) aNil)) aNil))) (aCons (eTup (aCons (eK (.int 44)) (aCons (eXi 45 [3] (aCons (eVar 0) aNil)) aNil))) aNil)))))) (gTp 2 (gCo (gNm 2) (gCo (gNm 3) gNi)))
      (b__law_at_rows_1 call))
      (sRt (eVar 1))))
@[simp] theorem am__law_at_rows (call : CallT) (σ : Lo) (h : Hs) : m__law_at_rows call σ h = (sSq (sAs (eLst aNil) (gNm 1))
      (sSq (sFor (iSeq (eTup (aCons (eTup (aCons (eK (.int 21)) (aCons (eXi 22 [3] (aCons (eVar 0) aNil)) aNil))) (aCons (eTup (aCons (eK (.int 23)) (aCons (eXi 24 [3] (aCons (eVar 0) aNil)) aNil))) (aCons (eTup (aCons (eK (.int 27)) (aCons (eXi 28 [3] (aCons (eVar 0) aNil)) aNil))) (aCons (eTup (aCons (eK (.int 44)) (aCons (eXi 45 [3] (aCons (eVar 0) aNil)) aNil))) aNil)))))) (gTp 2 (gCo (gNm 2) (gCo (gNm 3) gNi)))
      (b__law_at_rows_1 call))
      (sRt (eVar 1)))) σ h := rfl
def b__law_symbol_rows_1 (call : CallT) : SemS := (sEx (eLm lmAppend (eVar 1) (aCons (eTup (aCons (eVar 2) (aCons (eVar 3) (aCons (eXf okx_symbol 9 (eVar 3)) aNil)))) aNil)))
@[simp] theorem ab__law_symbol_rows_1 (call : CallT) (σ : Lo) (h : Hs) : b__law_symbol_rows_1 call σ h = (sEx (eLm lmAppend (eVar 1) (aCons (eTup (aCons (eVar 2) (aCons (eVar 3) (aCons (eXf okx_symbol 9 (eVar 3)) aNil)))) aNil))) σ h := rfl
def m__law_symbol_rows (call : CallT) : SemS := (sSq (sAs (eLst aNil) (gNm 1))
      (sSq (sFor (iSeq (eTup (aCons (eTup (aCons (eK (.int 22)) (aCons (eXi 23 [9] (aCons (eVar 0) aNil)) aNil))) aNil))) (gTp 2 (gCo (gNm 2) (gCo (gNm 3) gNi)))
      (b__law_symbol_rows_1 call))
      (sRt (eVar 1))))
@[simp] theorem am__law_symbol_rows (call : CallT) (σ : Lo) (h : Hs) : m__law_symbol_rows call σ h = (sSq (sAs (eLst aNil) (gNm 1))
      (sSq (sFor (iSeq (eTup (aCons (eTup (aCons (eK (.int 22)) (aCons (eXi 23 [9] (aCons (eVar 0) aNil)) aNil))) aNil))) (gTp 2 (gCo (gNm 2) (gCo (gNm 3) gNi)))
      (b__law_symbol_rows_1 call))
      (sRt (eVar 1)))) σ h := rfl
def b__law_length_rows_1 (call : CallT) : SemS := (sEx (eLm lmAppend (eVar 1) (aCons (eTup (aCons (eVar 2) (aCons (eVar 3) (aCons (eXf okx_length 10 (eVar 3)) aNil)))) aNil)))
@[simp] theorem ab__law_length_rows_1 (call : CallT) (σ : Lo) (h : Hs) : b__law_length_rows_1 call σ h = (sEx (eLm lmAppend (eVar 1) (aCons (eTup (aCons (eVar 2) (aCons (eVar 3) (aCons (eXf okx_length 10 (eVar 3)) aNil)))) aNil))) σ h := rfl
def m__law_length_rows (call : CallT) : SemS := (sSq (sAs (eLst aNil) (gNm 1))
      (sSq (sFor (iSeq (eTup (aCons (eTup (aCons (eK (.int 24)) (aCons (eXi 25 [10] (aCons (eVar 0) aNil)) aNil))) aNil))) (gTp 2 (gCo (gNm 2) (gCo (gNm 3) gNi)))
      (b__law_length_rows_1 call))
      (sRt (eVar 1))))
@[simp] theorem am__law_length_rows (call : CallT) (σ : Lo) (h : Hs) : m__law_length_rows call σ h = (sSq (sAs (eLst aNil) (gNm 1))
      (sSq (sFor (iSeq (eTup (aCons (eTup (aCons (eK (.int 24)) (aCons (eXi 25 [10] (aCons (eVar 0) aNil)) aNil))) aNil))) (gTp 2 (gCo (gNm 2) (gCo (gNm 3) gNi)))
      (b__law_length_rows_1 call))
      (sRt (eVar 1)))) σ h := rfl
def b__law_name_rows_1 (call : CallT) : SemS := (sEx (eLm lmAppend (eVar 1) (aCons (eTup (aCons (eVar 2) (aCons (eVar 3) (aCons (eXf okx_name 13 (eVar 3)) aNil)))) aNil)))
@[simp] theorem ab__law_name_rows_1 (call : CallT) (σ : Lo) (h : Hs) : b__law_name_rows_1 call σ h = (sEx (eLm lmAppend (eVar 1) (aCons (eTup (aCons (eVar 2) (aCons (eVar 3) (aCons (eXf okx_name 13 (eVar 3)) aNil)))) aNil))) σ h := rfl
def m__law_name_rows (call : CallT) : SemS := (sSq (sAs (eLst aNil) (gNm 1))
      (sSq (sFor (iSeq (eTup (aCons (eTup (aCons (eK (.int 28)) (aCons (eXi 29 [13] (aCons (eVar 0) aNil)) aNil))) aNil))) (gTp 2 (gCo (gNm 2) (gCo (gNm 3) gNi)))
      (b__law_name_rows_1 call))
      (sRt (eVar 1))))
@[simp] theorem am__law_name_rows (call : CallT) (σ : Lo) (h : Hs) : m__law_name_rows call σ h = (sSq (sAs (eLst aNil) (gNm 1))
      (sSq (sFor (iSeq (eTup (aCons (eTup (aCons (eK (.int 28)) (aCons (eXi 29 [13] (aCons (eVar 0) aNil)) aNil))) aNil))) (gTp 2 (gCo (gNm 2) (gCo (gNm 3) gNi)))
      (b__law_name_rows_1 call))
      (sRt (eVar 1)))) σ h := rfl
def b__law_used_rows_1 (call : CallT) : SemS := (sEx (eLm lmAppend (eVar 1) (aCons (eTup (aCons (eVar 2) (aCons (eVar 3) (aCons (eXf okx_used 15 (eVar 3)) aNil)))) aNil)))
@[simp] theorem ab__law_used_rows_1 (call : CallT) (σ : Lo) (h : Hs) : b__law_used_rows_1 call σ h = (sEx (eLm lmAppend (eVar 1) (aCons (eTup (aCons (eVar 2) (aCons (eVar 3) (aCons (eXf okx_used 15 (eVar 3)) aNil)))) aNil))) σ h := rfl
def m__law_used_rows (call : CallT) : SemS := (sSq (sAs (eLst aNil) (gNm 1))
      (sSq (sFor (iSeq (eTup (aCons (eTup (aCons (eK (.int 34)) (aCons (eXi 35 [15] (aCons (eVar 0) aNil)) aNil))) aNil))) (gTp 2 (gCo (gNm 2) (gCo (gNm 3) gNi)))
      (b__law_used_rows_1 call))
      (sRt (eVar 1))))
@[simp] theorem am__law_used_rows (call : CallT) (σ : Lo) (h : Hs) : m__law_used_rows call σ h = (sSq (sAs (eLst aNil) (gNm 1))
      (sSq (sFor (iSeq (eTup (aCons (eTup (aCons (eK (.int 34)) (aCons (eXi 35 [15] (aCons (eVar 0) aNil)) aNil))) aNil))) (gTp 2 (gCo (gNm 2) (gCo (gNm 3) gNi)))
      (b__law_used_rows_1 call))
      (sRt (eVar 1)))) σ h := rfl
def b__law_road_rows_1 (call : CallT) : SemS := (sEx (eLm lmAppend (eVar 1) (aCons (eTup (aCons (eVar 2) (aCons (eVar 3) (aCons (eXf okx_road 14 (eVar 3)) aNil)))) aNil)))
@[simp] theorem ab__law_road_rows_1 (call : CallT) (σ : Lo) (h : Hs) : b__law_road_rows_1 call σ h = (sEx (eLm lmAppend (eVar 1) (aCons (eTup (aCons (eVar 2) (aCons (eVar 3) (aCons (eXf okx_road 14 (eVar 3)) aNil)))) aNil))) σ h := rfl
def m__law_road_rows (call : CallT) : SemS := (sSq (sAs (eLst aNil) (gNm 1))
      (sSq (sFor (iSeq (eTup (aCons (eTup (aCons (eK (.int 35)) (aCons (eXi 36 [14] (aCons (eVar 0) aNil)) aNil))) (aCons (eTup (aCons (eK (.int 46)) (aCons (eXi 47 [14] (aCons (eVar 0) aNil)) aNil))) aNil)))) (gTp 2 (gCo (gNm 2) (gCo (gNm 3) gNi)))
      (b__law_road_rows_1 call))
      (sRt (eVar 1))))
@[simp] theorem am__law_road_rows (call : CallT) (σ : Lo) (h : Hs) : m__law_road_rows call σ h = (sSq (sAs (eLst aNil) (gNm 1))
      (sSq (sFor (iSeq (eTup (aCons (eTup (aCons (eK (.int 35)) (aCons (eXi 36 [14] (aCons (eVar 0) aNil)) aNil))) (aCons (eTup (aCons (eK (.int 46)) (aCons (eXi 47 [14] (aCons (eVar 0) aNil)) aNil))) aNil)))) (gTp 2 (gCo (gNm 2) (gCo (gNm 3) gNi)))
      (b__law_road_rows_1 call))
      (sRt (eVar 1)))) σ h := rfl
def b__law_turns_rows_1 (call : CallT) : SemS := (sEx (eLm lmAppend (eVar 1) (aCons (eTup (aCons (eVar 2) (aCons (eVar 3) (aCons (eXf okx_turns 16 (eVar 3)) aNil)))) aNil)))
@[simp] theorem ab__law_turns_rows_1 (call : CallT) (σ : Lo) (h : Hs) : b__law_turns_rows_1 call σ h = (sEx (eLm lmAppend (eVar 1) (aCons (eTup (aCons (eVar 2) (aCons (eVar 3) (aCons (eXf okx_turns 16 (eVar 3)) aNil)))) aNil))) σ h := rfl
def m__law_turns_rows (call : CallT) : SemS := (sSq (sAs (eLst aNil) (gNm 1))
      (sSq (sFor (iSeq (eTup (aCons (eTup (aCons (eK (.int 36)) (aCons (eXi 37 [16] (aCons (eVar 0) aNil)) aNil))) aNil))) (gTp 2 (gCo (gNm 2) (gCo (gNm 3) gNi)))
      (b__law_turns_rows_1 call))
      (sRt (eVar 1))))
@[simp] theorem am__law_turns_rows (call : CallT) (σ : Lo) (h : Hs) : m__law_turns_rows call σ h = (sSq (sAs (eLst aNil) (gNm 1))
      (sSq (sFor (iSeq (eTup (aCons (eTup (aCons (eK (.int 36)) (aCons (eXi 37 [16] (aCons (eVar 0) aNil)) aNil))) aNil))) (gTp 2 (gCo (gNm 2) (gCo (gNm 3) gNi)))
      (b__law_turns_rows_1 call))
      (sRt (eVar 1)))) σ h := rfl
def m__law_couple_rows (call : CallT) : SemS := (sSq (sAs (eTup (aCons (eXi 4 [1, 2] (aCons (eVar 0) (aCons (eVar 1) aNil))) (aCons (eXi 8 [3, 0] (aCons (eVar 0) (aCons (eVar 1) aNil))) (aCons (eXi 27 [11, 12] (aCons (eVar 0) (aCons (eVar 1) aNil))) (aCons (eXi 34 [0, 14] (aCons (eVar 0) (aCons (eVar 1) aNil))) aNil))))) (gTp 4 (gCo (gNm 2) (gCo (gNm 3) (gCo (gNm 4) (gCo (gNm 5) gNi))))))
      (sRt (eLv (aCons (eTup (aCons (eK (.int 3)) (aCons (eVar 2) (aCons (eTup (aCons (eXf okx_line 1 (eVar 2)) (aCons (eXf okx_place 2 (eVar 2)) aNil))) aNil)))) (aCons (eTup (aCons (eK (.int 7)) (aCons (eVar 3) (aCons (eTup (aCons (eXf okx_at 3 (eVar 3)) (aCons (eXf okx_what 0 (eVar 3)) aNil))) aNil)))) (aCons (eTup (aCons (eK (.int 26)) (aCons (eVar 4) (aCons (eTup (aCons (eXf okx_begin 11 (eVar 4)) (aCons (eXf okx_end 12 (eVar 4)) aNil))) aNil)))) (aCons (eTup (aCons (eK (.int 33)) (aCons (eVar 5) (aCons (eTup (aCons (eXf okx_what 0 (eVar 5)) (aCons (eXf okx_road 14 (eVar 5)) aNil))) aNil)))) aNil)))))))
@[simp] theorem am__law_couple_rows (call : CallT) (σ : Lo) (h : Hs) : m__law_couple_rows call σ h = (sSq (sAs (eTup (aCons (eXi 4 [1, 2] (aCons (eVar 0) (aCons (eVar 1) aNil))) (aCons (eXi 8 [3, 0] (aCons (eVar 0) (aCons (eVar 1) aNil))) (aCons (eXi 27 [11, 12] (aCons (eVar 0) (aCons (eVar 1) aNil))) (aCons (eXi 34 [0, 14] (aCons (eVar 0) (aCons (eVar 1) aNil))) aNil))))) (gTp 4 (gCo (gNm 2) (gCo (gNm 3) (gCo (gNm 4) (gCo (gNm 5) gNi))))))
      (sRt (eLv (aCons (eTup (aCons (eK (.int 3)) (aCons (eVar 2) (aCons (eTup (aCons (eXf okx_line 1 (eVar 2)) (aCons (eXf okx_place 2 (eVar 2)) aNil))) aNil)))) (aCons (eTup (aCons (eK (.int 7)) (aCons (eVar 3) (aCons (eTup (aCons (eXf okx_at 3 (eVar 3)) (aCons (eXf okx_what 0 (eVar 3)) aNil))) aNil)))) (aCons (eTup (aCons (eK (.int 26)) (aCons (eVar 4) (aCons (eTup (aCons (eXf okx_begin 11 (eVar 4)) (aCons (eXf okx_end 12 (eVar 4)) aNil))) aNil)))) (aCons (eTup (aCons (eK (.int 33)) (aCons (eVar 5) (aCons (eTup (aCons (eXf okx_what 0 (eVar 5)) (aCons (eXf okx_road 14 (eVar 5)) aNil))) aNil)))) aNil))))))) σ h := rfl
def m__law_kinds (call : CallT) : SemS := (sRt (eLv (aCons (eIsx (isxC xPar xS 1) (eVar 0)) (aCons (eIsx (isxC xPar xS 2) (eVar 0)) (aCons (eIsx (isxC xPar xS 3) (eVar 0)) (aCons (eIsx (isxC xPar xS 4) (eVar 0)) (aCons (eIsx (isxC xPar xS 5) (eVar 0)) (aCons (eIsx (isxC xPar xS 6) (eVar 0)) (aCons (eIsx (isxC xPar xS 7) (eVar 0)) (aCons (eIsx (isxC xPar xS 8) (eVar 0)) (aCons (eIsx (isxC xPar xS 9) (eVar 0)) (aCons (eIsx (isxC xPar xS 10) (eVar 0)) (aCons (eIsx (isxC xPar xS 11) (eVar 0)) (aCons (eIsx (isxC xPar xS 12) (eVar 0)) (aCons (eIsx (isxC xPar xS 13) (eVar 0)) (aCons (eIsx (isxC xPar xS 14) (eVar 0)) (aCons (eIsx (isxC xPar xS 15) (eVar 0)) (aCons (eIsx (isxC xPar xS 16) (eVar 0)) (aCons (eIsx (isxC xPar xS 17) (eVar 0)) (aCons (eIsx (isxC xPar xS 18) (eVar 0)) (aCons (eIsx (isxC xPar xS 19) (eVar 0)) (aCons (eIsx (isxC xPar xS 20) (eVar 0)) (aCons (eIsx (isxC xPar xS 21) (eVar 0)) (aCons (eIsx (isxC xPar xS 22) (eVar 0)) (aCons (eIsx (isxC xPar xS 23) (eVar 0)) (aCons (eIsx (isxC xPar xS 24) (eVar 0)) (aCons (eIsx (isxC xPar xS 25) (eVar 0)) (aCons (eIsx (isxC xPar xS 26) (eVar 0)) (aCons (eIsx (isxC xPar xS 27) (eVar 0)) (aCons (eIsx (isxC xPar xS 28) (eVar 0)) (aCons (eIsx (isxC xPar xS 29) (eVar 0)) (aCons (eIsx (isxC xPar xS 30) (eVar 0)) (aCons (eIsx (isxC xPar xS 31) (eVar 0)) (aCons (eIsx (isxC xPar xS 32) (eVar 0)) (aCons (eIsx (isxC xPar xS 33) (eVar 0)) (aCons (eIsx (isxC xPar xS 34) (eVar 0)) (aCons (eIsx (isxC xPar xS 35) (eVar 0)) (aCons (eIsx (isxC xPar xS 36) (eVar 0)) (aCons (eIsx (isxC xPar xS 37) (eVar 0)) (aCons (eIsx (isxC xPar xS 38) (eVar 0)) (aCons (eIsx (isxC xPar xS 39) (eVar 0)) (aCons (eIsx (isxC xPar xS 40) (eVar 0)) (aCons (eIsx (isxC xPar xS 41) (eVar 0)) (aCons (eIsx (isxC xPar xS 42) (eVar 0)) (aCons (eIsx (isxC xPar xS 43) (eVar 0)) (aCons (eIsx (isxC xPar xS 44) (eVar 0)) (aCons (eIsx (isxC xPar xS 45) (eVar 0)) (aCons (eIsx (isxC xPar xS 46) (eVar 0)) (aCons (eIsx (isxC xPar xS 47) (eVar 0)) aNil)))))))))))))))))))))))))))))))))))))))))))))))))
@[simp] theorem am__law_kinds (call : CallT) (σ : Lo) (h : Hs) : m__law_kinds call σ h = (sRt (eLv (aCons (eIsx (isxC xPar xS 1) (eVar 0)) (aCons (eIsx (isxC xPar xS 2) (eVar 0)) (aCons (eIsx (isxC xPar xS 3) (eVar 0)) (aCons (eIsx (isxC xPar xS 4) (eVar 0)) (aCons (eIsx (isxC xPar xS 5) (eVar 0)) (aCons (eIsx (isxC xPar xS 6) (eVar 0)) (aCons (eIsx (isxC xPar xS 7) (eVar 0)) (aCons (eIsx (isxC xPar xS 8) (eVar 0)) (aCons (eIsx (isxC xPar xS 9) (eVar 0)) (aCons (eIsx (isxC xPar xS 10) (eVar 0)) (aCons (eIsx (isxC xPar xS 11) (eVar 0)) (aCons (eIsx (isxC xPar xS 12) (eVar 0)) (aCons (eIsx (isxC xPar xS 13) (eVar 0)) (aCons (eIsx (isxC xPar xS 14) (eVar 0)) (aCons (eIsx (isxC xPar xS 15) (eVar 0)) (aCons (eIsx (isxC xPar xS 16) (eVar 0)) (aCons (eIsx (isxC xPar xS 17) (eVar 0)) (aCons (eIsx (isxC xPar xS 18) (eVar 0)) (aCons (eIsx (isxC xPar xS 19) (eVar 0)) (aCons (eIsx (isxC xPar xS 20) (eVar 0)) (aCons (eIsx (isxC xPar xS 21) (eVar 0)) (aCons (eIsx (isxC xPar xS 22) (eVar 0)) (aCons (eIsx (isxC xPar xS 23) (eVar 0)) (aCons (eIsx (isxC xPar xS 24) (eVar 0)) (aCons (eIsx (isxC xPar xS 25) (eVar 0)) (aCons (eIsx (isxC xPar xS 26) (eVar 0)) (aCons (eIsx (isxC xPar xS 27) (eVar 0)) (aCons (eIsx (isxC xPar xS 28) (eVar 0)) (aCons (eIsx (isxC xPar xS 29) (eVar 0)) (aCons (eIsx (isxC xPar xS 30) (eVar 0)) (aCons (eIsx (isxC xPar xS 31) (eVar 0)) (aCons (eIsx (isxC xPar xS 32) (eVar 0)) (aCons (eIsx (isxC xPar xS 33) (eVar 0)) (aCons (eIsx (isxC xPar xS 34) (eVar 0)) (aCons (eIsx (isxC xPar xS 35) (eVar 0)) (aCons (eIsx (isxC xPar xS 36) (eVar 0)) (aCons (eIsx (isxC xPar xS 37) (eVar 0)) (aCons (eIsx (isxC xPar xS 38) (eVar 0)) (aCons (eIsx (isxC xPar xS 39) (eVar 0)) (aCons (eIsx (isxC xPar xS 40) (eVar 0)) (aCons (eIsx (isxC xPar xS 41) (eVar 0)) (aCons (eIsx (isxC xPar xS 42) (eVar 0)) (aCons (eIsx (isxC xPar xS 43) (eVar 0)) (aCons (eIsx (isxC xPar xS 44) (eVar 0)) (aCons (eIsx (isxC xPar xS 45) (eVar 0)) (aCons (eIsx (isxC xPar xS 46) (eVar 0)) (aCons (eIsx (isxC xPar xS 47) (eVar 0)) aNil))))))))))))))))))))))))))))))))))))))))))))))))) σ h := rfl
def m__law_alone (call : CallT) : SemS := (sSq (sIf (tOr' (tNo (tTru (eIsx (isxC xPar xS 0) (eVar 1)))) (tNo (tTru (eIsx (isxB xS) (eVar 1)))))
      (sRt (eK (.bl false)))
      sNil)
      (sSq (sAs (eCl call 20 [] (aCons (eVar 1) aNil)) (gNm 2))
      (sRt (eBin oEq (eVar 2) (eLc false [3] (iA1 (aCons (eN nLen (aCons (eVar 2) aNil)) aNil)) (gNm 3) tYs (eBin oEq (eVar 3) (eVar 0)))))))
@[simp] theorem am__law_alone (call : CallT) (σ : Lo) (h : Hs) : m__law_alone call σ h = (sSq (sIf (tOr' (tNo (tTru (eIsx (isxC xPar xS 0) (eVar 1)))) (tNo (tTru (eIsx (isxB xS) (eVar 1)))))
      (sRt (eK (.bl false)))
      sNil)
      (sSq (sAs (eCl call 20 [] (aCons (eVar 1) aNil)) (gNm 2))
      (sRt (eBin oEq (eVar 2) (eLc false [3] (iA1 (aCons (eN nLen (aCons (eVar 2) aNil)) aNil)) (gNm 3) tYs (eBin oEq (eVar 3) (eVar 0))))))) σ h := rfl
def b_law_1 (call : CallT) : SemS := (sIf (tNo (tTru (eCl call 21 [] (aCons (eVar 2) (aCons (eVar 3) aNil)))))
      (sRt (eK (.bl false)))
      sNil)
@[simp] theorem ab_law_1 (call : CallT) (σ : Lo) (h : Hs) : b_law_1 call σ h = (sIf (tNo (tTru (eCl call 21 [] (aCons (eVar 2) (aCons (eVar 3) aNil)))))
      (sRt (eK (.bl false)))
      sNil) σ h := rfl
def b_law_2 (call : CallT) : SemS := (sIf (tOr' (tBl (eBin oNe (eVar 7) (eVar 5))) (tNo (tTru (eCl call 21 [] (aCons (eVar 2) (aCons (eVar 3) aNil))))))
      (sRt (eK (.bl false)))
      sNil)
@[simp] theorem ab_law_2 (call : CallT) (σ : Lo) (h : Hs) : b_law_2 call σ h = (sIf (tOr' (tBl (eBin oNe (eVar 7) (eVar 5))) (tNo (tTru (eCl call 21 [] (aCons (eVar 2) (aCons (eVar 3) aNil))))))
      (sRt (eK (.bl false)))
      sNil) σ h := rfl
def b_law_3 (call : CallT) : SemS := (sIf (tOr' (tBl (eBin oNe (eVar 7) (eTup (aCons (eVar 5) (aCons (eVar 8) aNil))))) (tNo (tTru (eCl call 21 [] (aCons (eVar 2) (aCons (eVar 3) aNil))))))
      (sRt (eK (.bl false)))
      sNil)
@[simp] theorem ab_law_3 (call : CallT) (σ : Lo) (h : Hs) : b_law_3 call σ h = (sIf (tOr' (tBl (eBin oNe (eVar 7) (eTup (aCons (eVar 5) (aCons (eVar 8) aNil))))) (tNo (tTru (eCl call 21 [] (aCons (eVar 2) (aCons (eVar 3) aNil))))))
      (sRt (eK (.bl false)))
      sNil) σ h := rfl
def b_law_4 (call : CallT) : SemS := (sSq (sAs (eCl call 4 [] (aCons (eVar 1) aNil)) (gNm 5))
      (sSq (sAs (eBin oAdd (eBin oAdd (eBin oAdd (eCl call 6 [] (aCons (eVar 5) aNil)) (eCl call 7 [] (aCons (eVar 5) aNil))) (eCl call 8 [] (aCons (eVar 5) aNil))) (eCl call 9 [] (aCons (eVar 5) aNil))) (gNm 6))
      (sSq (sAs (eBin oAdd (eBin oAdd (eBin oAdd (eBin oAdd (eVar 6) (eCl call 10 [] (aCons (eVar 5) aNil))) (eCl call 11 [] (aCons (eVar 5) aNil))) (eCl call 12 [] (aCons (eVar 5) aNil))) (eCl call 13 [] (aCons (eVar 5) aNil))) (gNm 6))
      (sSq (sAs (eBin oAdd (eBin oAdd (eBin oAdd (eBin oAdd (eVar 6) (eCl call 14 [] (aCons (eVar 5) aNil))) (eCl call 15 [] (aCons (eVar 5) aNil))) (eCl call 16 [] (aCons (eVar 5) aNil))) (eCl call 17 [] (aCons (eVar 5) aNil))) (gNm 6))
      (sSq (sAs (eBin oAdd (eVar 6) (eCl call 18 [] (aCons (eVar 5) aNil))) (gNm 6))
      (sSq (sFor (iSeq (eVar 6)) (gTp 3 (gCo (gNm 2) (gCo (gNm 3) (gCo (gNm 7) gNi))))
      (b_law_2 call))
      (sSq (sAs (eCl call 4 [] (aCons (eVar 1) aNil)) (gNm 8))
      (sFor (iSeq (eCl call 19 [] (aCons (eVar 5) (aCons (eVar 8) aNil)))) (gTp 3 (gCo (gNm 2) (gCo (gNm 3) (gCo (gNm 7) gNi))))
      (b_law_3 call)))))))))
@[simp] theorem ab_law_4 (call : CallT) (σ : Lo) (h : Hs) : b_law_4 call σ h = (sSq (sAs (eCl call 4 [] (aCons (eVar 1) aNil)) (gNm 5))
      (sSq (sAs (eBin oAdd (eBin oAdd (eBin oAdd (eCl call 6 [] (aCons (eVar 5) aNil)) (eCl call 7 [] (aCons (eVar 5) aNil))) (eCl call 8 [] (aCons (eVar 5) aNil))) (eCl call 9 [] (aCons (eVar 5) aNil))) (gNm 6))
      (sSq (sAs (eBin oAdd (eBin oAdd (eBin oAdd (eBin oAdd (eVar 6) (eCl call 10 [] (aCons (eVar 5) aNil))) (eCl call 11 [] (aCons (eVar 5) aNil))) (eCl call 12 [] (aCons (eVar 5) aNil))) (eCl call 13 [] (aCons (eVar 5) aNil))) (gNm 6))
      (sSq (sAs (eBin oAdd (eBin oAdd (eBin oAdd (eBin oAdd (eVar 6) (eCl call 14 [] (aCons (eVar 5) aNil))) (eCl call 15 [] (aCons (eVar 5) aNil))) (eCl call 16 [] (aCons (eVar 5) aNil))) (eCl call 17 [] (aCons (eVar 5) aNil))) (gNm 6))
      (sSq (sAs (eBin oAdd (eVar 6) (eCl call 18 [] (aCons (eVar 5) aNil))) (gNm 6))
      (sSq (sFor (iSeq (eVar 6)) (gTp 3 (gCo (gNm 2) (gCo (gNm 3) (gCo (gNm 7) gNi))))
      (b_law_2 call))
      (sSq (sAs (eCl call 4 [] (aCons (eVar 1) aNil)) (gNm 8))
      (sFor (iSeq (eCl call 19 [] (aCons (eVar 5) (aCons (eVar 8) aNil)))) (gTp 3 (gCo (gNm 2) (gCo (gNm 3) (gCo (gNm 7) gNi))))
      (b_law_3 call))))))))) σ h := rfl
def m_law (call : CallT) : SemS := (sSq (sAs (eCl call 0 [] (aCons (eVar 0) aNil)) (gNm 1))
      (sSq (sFor (iSeq (eCl call 5 [] aNil)) (gTp 2 (gCo (gNm 2) (gCo (gNm 3) gNi)))
      (b_law_1 call))
      (sSq (sFor (iA1 (aCons (eK (.int 3)) aNil)) (gNm 4)
      (b_law_4 call))
      (sRt (eK (.bl true))))))
@[simp] theorem am_law (call : CallT) (σ : Lo) (h : Hs) : m_law call σ h = (sSq (sAs (eCl call 0 [] (aCons (eVar 0) aNil)) (gNm 1))
      (sSq (sFor (iSeq (eCl call 5 [] aNil)) (gTp 2 (gCo (gNm 2) (gCo (gNm 3) gNi)))
      (b_law_1 call))
      (sSq (sFor (iA1 (aCons (eK (.int 3)) aNil)) (gNm 4)
      (b_law_4 call))
      (sRt (eK (.bl true)))))) σ h := rfl
def defs : List MDef := [⟨1, 1, true, m__law_source⟩, ⟨2, 5, false, m__law_take⟩, ⟨2, 2, false, m__law_pick⟩, ⟨1, 2, false, m__law_text⟩, ⟨1, 1, false, m__law_thing⟩, ⟨0, 0, false, m__law_bare⟩, ⟨1, 4, false, m__law_what_rows⟩, ⟨1, 4, false, m__law_how_rows⟩, ⟨1, 4, false, m__law_number_rows⟩, ⟨1, 4, false, m__law_waiting_rows⟩, ⟨1, 4, false, m__law_hand_rows⟩, ⟨1, 4, false, m__law_report_rows⟩, ⟨1, 4, false, m__law_at_rows⟩, ⟨1, 4, false, m__law_symbol_rows⟩, ⟨1, 4, false, m__law_length_rows⟩, ⟨1, 4, false, m__law_name_rows⟩, ⟨1, 4, false, m__law_used_rows⟩, ⟨1, 4, false, m__law_road_rows⟩, ⟨1, 4, false, m__law_turns_rows⟩, ⟨2, 6, false, m__law_couple_rows⟩, ⟨1, 1, false, m__law_kinds⟩, ⟨2, 4, false, m__law_alone⟩, ⟨1, 9, false, m_law⟩]
abbrev fns (K : PySem.W.Frag) (fd : Nat → FuncData) : List Fn := [⟨He.fAd K d__law_source.at_, fd 0, ["_law_script"]⟩, ⟨He.fAd K d__law_take.at_, fd 1, ["_law_source_here", "_law_many"]⟩, ⟨He.fAd K d__law_pick.at_, fd 2, ["_law_source_here", "_law_things"]⟩, ⟨He.fAd K d__law_text.at_, fd 3, ["_law_source_here"]⟩, ⟨He.fAd K d__law_thing.at_, fd 4, ["_law_source_here"]⟩, ⟨He.fAd K d__law_bare.at_, fd 5, []⟩, ⟨He.fAd K d__law_what_rows.at_, fd 6, ["_law_thing_here"]⟩, ⟨He.fAd K d__law_how_rows.at_, fd 7, ["_law_thing_here"]⟩, ⟨He.fAd K d__law_number_rows.at_, fd 8, ["_law_thing_here"]⟩, ⟨He.fAd K d__law_waiting_rows.at_, fd 9, ["_law_thing_here"]⟩, ⟨He.fAd K d__law_hand_rows.at_, fd 10, ["_law_thing_here"]⟩, ⟨He.fAd K d__law_report_rows.at_, fd 11, ["_law_thing_here"]⟩, ⟨He.fAd K d__law_at_rows.at_, fd 12, ["_law_thing_here"]⟩, ⟨He.fAd K d__law_symbol_rows.at_, fd 13, ["_law_thing_here"]⟩, ⟨He.fAd K d__law_length_rows.at_, fd 14, ["_law_thing_here"]⟩, ⟨He.fAd K d__law_name_rows.at_, fd 15, ["_law_thing_here"]⟩, ⟨He.fAd K d__law_used_rows.at_, fd 16, ["_law_thing_here"]⟩, ⟨He.fAd K d__law_road_rows.at_, fd 17, ["_law_thing_here"]⟩, ⟨He.fAd K d__law_turns_rows.at_, fd 18, ["_law_thing_here"]⟩, ⟨He.fAd K d__law_couple_rows.at_, fd 19, ["_law_first", "_law_second"]⟩, ⟨He.fAd K d__law_kinds.at_, fd 20, ["_law_raised"]⟩, ⟨He.fAd K d__law_alone.at_, fd 21, ["_law_at", "_law_raised"]⟩, ⟨He.fAd K d_law.at_, fd 22, ["_law_script"]⟩]
structure Fx (K : PySem.W.Frag) (mg : Str → Option Value) (fd : Nat → FuncData) : Prop where
  D__law_source : FunD K d__law_source.name d__law_source.qual d__law_source.params d__law_source.body d__law_source.scope (d__law_source.dvs K) (d__law_source.kws K) (He.fAd K d__law_source.at_) (fd 0)
  i__law_source : FnI K ⟨He.fAd K d__law_source.at_, fd 0, ["_law_script"]⟩
  D__law_take : FunD K d__law_take.name d__law_take.qual d__law_take.params d__law_take.body d__law_take.scope (d__law_take.dvs K) (d__law_take.kws K) (He.fAd K d__law_take.at_) (fd 1)
  i__law_take : FnI K ⟨He.fAd K d__law_take.at_, fd 1, ["_law_source_here", "_law_many"]⟩
  D__law_pick : FunD K d__law_pick.name d__law_pick.qual d__law_pick.params d__law_pick.body d__law_pick.scope (d__law_pick.dvs K) (d__law_pick.kws K) (He.fAd K d__law_pick.at_) (fd 2)
  i__law_pick : FnI K ⟨He.fAd K d__law_pick.at_, fd 2, ["_law_source_here", "_law_things"]⟩
  D__law_text : FunD K d__law_text.name d__law_text.qual d__law_text.params d__law_text.body d__law_text.scope (d__law_text.dvs K) (d__law_text.kws K) (He.fAd K d__law_text.at_) (fd 3)
  i__law_text : FnI K ⟨He.fAd K d__law_text.at_, fd 3, ["_law_source_here"]⟩
  D__law_thing : FunD K d__law_thing.name d__law_thing.qual d__law_thing.params d__law_thing.body d__law_thing.scope (d__law_thing.dvs K) (d__law_thing.kws K) (He.fAd K d__law_thing.at_) (fd 4)
  i__law_thing : FnI K ⟨He.fAd K d__law_thing.at_, fd 4, ["_law_source_here"]⟩
  D__law_bare : FunD K d__law_bare.name d__law_bare.qual d__law_bare.params d__law_bare.body d__law_bare.scope (d__law_bare.dvs K) (d__law_bare.kws K) (He.fAd K d__law_bare.at_) (fd 5)
  i__law_bare : FnI K ⟨He.fAd K d__law_bare.at_, fd 5, []⟩
  D__law_what_rows : FunD K d__law_what_rows.name d__law_what_rows.qual d__law_what_rows.params d__law_what_rows.body d__law_what_rows.scope (d__law_what_rows.dvs K) (d__law_what_rows.kws K) (He.fAd K d__law_what_rows.at_) (fd 6)
  i__law_what_rows : FnI K ⟨He.fAd K d__law_what_rows.at_, fd 6, ["_law_thing_here"]⟩
  D__law_how_rows : FunD K d__law_how_rows.name d__law_how_rows.qual d__law_how_rows.params d__law_how_rows.body d__law_how_rows.scope (d__law_how_rows.dvs K) (d__law_how_rows.kws K) (He.fAd K d__law_how_rows.at_) (fd 7)
  i__law_how_rows : FnI K ⟨He.fAd K d__law_how_rows.at_, fd 7, ["_law_thing_here"]⟩
  D__law_number_rows : FunD K d__law_number_rows.name d__law_number_rows.qual d__law_number_rows.params d__law_number_rows.body d__law_number_rows.scope (d__law_number_rows.dvs K) (d__law_number_rows.kws K) (He.fAd K d__law_number_rows.at_) (fd 8)
  i__law_number_rows : FnI K ⟨He.fAd K d__law_number_rows.at_, fd 8, ["_law_thing_here"]⟩
  D__law_waiting_rows : FunD K d__law_waiting_rows.name d__law_waiting_rows.qual d__law_waiting_rows.params d__law_waiting_rows.body d__law_waiting_rows.scope (d__law_waiting_rows.dvs K) (d__law_waiting_rows.kws K) (He.fAd K d__law_waiting_rows.at_) (fd 9)
  i__law_waiting_rows : FnI K ⟨He.fAd K d__law_waiting_rows.at_, fd 9, ["_law_thing_here"]⟩
  D__law_hand_rows : FunD K d__law_hand_rows.name d__law_hand_rows.qual d__law_hand_rows.params d__law_hand_rows.body d__law_hand_rows.scope (d__law_hand_rows.dvs K) (d__law_hand_rows.kws K) (He.fAd K d__law_hand_rows.at_) (fd 10)
  i__law_hand_rows : FnI K ⟨He.fAd K d__law_hand_rows.at_, fd 10, ["_law_thing_here"]⟩
  D__law_report_rows : FunD K d__law_report_rows.name d__law_report_rows.qual d__law_report_rows.params d__law_report_rows.body d__law_report_rows.scope (d__law_report_rows.dvs K) (d__law_report_rows.kws K) (He.fAd K d__law_report_rows.at_) (fd 11)
  i__law_report_rows : FnI K ⟨He.fAd K d__law_report_rows.at_, fd 11, ["_law_thing_here"]⟩
  D__law_at_rows : FunD K d__law_at_rows.name d__law_at_rows.qual d__law_at_rows.params d__law_at_rows.body d__law_at_rows.scope (d__law_at_rows.dvs K) (d__law_at_rows.kws K) (He.fAd K d__law_at_rows.at_) (fd 12)
  i__law_at_rows : FnI K ⟨He.fAd K d__law_at_rows.at_, fd 12, ["_law_thing_here"]⟩
  D__law_symbol_rows : FunD K d__law_symbol_rows.name d__law_symbol_rows.qual d__law_symbol_rows.params d__law_symbol_rows.body d__law_symbol_rows.scope (d__law_symbol_rows.dvs K) (d__law_symbol_rows.kws K) (He.fAd K d__law_symbol_rows.at_) (fd 13)
  i__law_symbol_rows : FnI K ⟨He.fAd K d__law_symbol_rows.at_, fd 13, ["_law_thing_here"]⟩
  D__law_length_rows : FunD K d__law_length_rows.name d__law_length_rows.qual d__law_length_rows.params d__law_length_rows.body d__law_length_rows.scope (d__law_length_rows.dvs K) (d__law_length_rows.kws K) (He.fAd K d__law_length_rows.at_) (fd 14)
  i__law_length_rows : FnI K ⟨He.fAd K d__law_length_rows.at_, fd 14, ["_law_thing_here"]⟩
  D__law_name_rows : FunD K d__law_name_rows.name d__law_name_rows.qual d__law_name_rows.params d__law_name_rows.body d__law_name_rows.scope (d__law_name_rows.dvs K) (d__law_name_rows.kws K) (He.fAd K d__law_name_rows.at_) (fd 15)
  i__law_name_rows : FnI K ⟨He.fAd K d__law_name_rows.at_, fd 15, ["_law_thing_here"]⟩
  D__law_used_rows : FunD K d__law_used_rows.name d__law_used_rows.qual d__law_used_rows.params d__law_used_rows.body d__law_used_rows.scope (d__law_used_rows.dvs K) (d__law_used_rows.kws K) (He.fAd K d__law_used_rows.at_) (fd 16)
  i__law_used_rows : FnI K ⟨He.fAd K d__law_used_rows.at_, fd 16, ["_law_thing_here"]⟩
  D__law_road_rows : FunD K d__law_road_rows.name d__law_road_rows.qual d__law_road_rows.params d__law_road_rows.body d__law_road_rows.scope (d__law_road_rows.dvs K) (d__law_road_rows.kws K) (He.fAd K d__law_road_rows.at_) (fd 17)
  i__law_road_rows : FnI K ⟨He.fAd K d__law_road_rows.at_, fd 17, ["_law_thing_here"]⟩
  D__law_turns_rows : FunD K d__law_turns_rows.name d__law_turns_rows.qual d__law_turns_rows.params d__law_turns_rows.body d__law_turns_rows.scope (d__law_turns_rows.dvs K) (d__law_turns_rows.kws K) (He.fAd K d__law_turns_rows.at_) (fd 18)
  i__law_turns_rows : FnI K ⟨He.fAd K d__law_turns_rows.at_, fd 18, ["_law_thing_here"]⟩
  D__law_couple_rows : FunD K d__law_couple_rows.name d__law_couple_rows.qual d__law_couple_rows.params d__law_couple_rows.body d__law_couple_rows.scope (d__law_couple_rows.dvs K) (d__law_couple_rows.kws K) (He.fAd K d__law_couple_rows.at_) (fd 19)
  i__law_couple_rows : FnI K ⟨He.fAd K d__law_couple_rows.at_, fd 19, ["_law_first", "_law_second"]⟩
  D__law_kinds : FunD K d__law_kinds.name d__law_kinds.qual d__law_kinds.params d__law_kinds.body d__law_kinds.scope (d__law_kinds.dvs K) (d__law_kinds.kws K) (He.fAd K d__law_kinds.at_) (fd 20)
  i__law_kinds : FnI K ⟨He.fAd K d__law_kinds.at_, fd 20, ["_law_raised"]⟩
  D__law_alone : FunD K d__law_alone.name d__law_alone.qual d__law_alone.params d__law_alone.body d__law_alone.scope (d__law_alone.dvs K) (d__law_alone.kws K) (He.fAd K d__law_alone.at_) (fd 21)
  i__law_alone : FnI K ⟨He.fAd K d__law_alone.at_, fd 21, ["_law_at", "_law_raised"]⟩
  D_law : FunD K d_law.name d_law.qual d_law.params d_law.body d_law.scope (d_law.dvs K) (d_law.kws K) (He.fAd K d_law.at_) (fd 22)
  i_law : FnI K ⟨He.fAd K d_law.at_, fd 22, ["_law_script"]⟩
  g_BadBook : mg "BadBook" = some (.ref (He.ga K "BadBook"))
  g_BadDeed : mg "BadDeed" = some (.ref (He.ga K "BadDeed"))
  g_BadEquation : mg "BadEquation" = some (.ref (He.ga K "BadEquation"))
  g_BadExpression : mg "BadExpression" = some (.ref (He.ga K "BadExpression"))
  g_BadFilling : mg "BadFilling" = some (.ref (He.ga K "BadFilling"))
  g_BadGrammar : mg "BadGrammar" = some (.ref (He.ga K "BadGrammar"))
  g_BadLetters : mg "BadLetters" = some (.ref (He.ga K "BadLetters"))
  g_BadMany : mg "BadMany" = some (.ref (He.ga K "BadMany"))
  g_BadOrder : mg "BadOrder" = some (.ref (He.ga K "BadOrder"))
  g_BadPaperText : mg "BadPaperText" = some (.ref (He.ga K "BadPaperText"))
  g_BadRoom : mg "BadRoom" = some (.ref (He.ga K "BadRoom"))
  g_BadSaying : mg "BadSaying" = some (.ref (He.ga K "BadSaying"))
  g_BadScript : mg "BadScript" = some (.ref (He.ga K "BadScript"))
  g_BadStep : mg "BadStep" = some (.ref (He.ga K "BadStep"))
  g_BadText : mg "BadText" = some (.ref (He.ga K "BadText"))
  g_Busy : mg "Busy" = some (.ref (He.ga K "Busy"))
  g_EmptyWord : mg "EmptyWord" = some (.ref (He.ga K "EmptyWord"))
  g_Ended : mg "Ended" = some (.ref (He.ga K "Ended"))
  g_FullDesk : mg "FullDesk" = some (.ref (He.ga K "FullDesk"))
  g_Idle : mg "Idle" = some (.ref (He.ga K "Idle"))
  g_IsCut : mg "IsCut" = some (.ref (He.ga K "IsCut"))
  g_NoBack : mg "NoBack" = some (.ref (He.ga K "NoBack"))
  g_NoBook : mg "NoBook" = some (.ref (He.ga K "NoBook"))
  g_NoCut : mg "NoCut" = some (.ref (He.ga K "NoCut"))
  g_NoEngine : mg "NoEngine" = some (.ref (He.ga K "NoEngine"))
  g_NoHand : mg "NoHand" = some (.ref (He.ga K "NoHand"))
  g_NoIf : mg "NoIf" = some (.ref (He.ga K "NoIf"))
  g_NoName : mg "NoName" = some (.ref (He.ga K "NoName"))
  g_NoPaper : mg "NoPaper" = some (.ref (He.ga K "NoPaper"))
  g_NoReport : mg "NoReport" = some (.ref (He.ga K "NoReport"))
  g_NoScript : mg "NoScript" = some (.ref (He.ga K "NoScript"))
  g_NoSign : mg "NoSign" = some (.ref (He.ga K "NoSign"))
  g_NoStatement : mg "NoStatement" = some (.ref (He.ga K "NoStatement"))
  g_NoSymbol : mg "NoSymbol" = some (.ref (He.ga K "NoSymbol"))
  g_NoWay : mg "NoWay" = some (.ref (He.ga K "NoWay"))
  g_NotCut : mg "NotCut" = some (.ref (He.ga K "NotCut"))
  g_NotFilled : mg "NotFilled" = some (.ref (He.ga K "NotFilled"))
  g_NotLooked : mg "NotLooked" = some (.ref (He.ga K "NotLooked"))
  g_NotOpen : mg "NotOpen" = some (.ref (He.ga K "NotOpen"))
  g_NotShut : mg "NotShut" = some (.ref (He.ga K "NotShut"))
  g_OtherDeeds : mg "OtherDeeds" = some (.ref (He.ga K "OtherDeeds"))
  g_PressError : mg "PressError" = some (.ref (He.ga K "PressError"))
  g_ShortInputs : mg "ShortInputs" = some (.ref (He.ga K "ShortInputs"))
  g_TooFull : mg "TooFull" = some (.ref (He.ga K "TooFull"))
  g_TooLong : mg "TooLong" = some (.ref (He.ga K "TooLong"))
  g_TooMany : mg "TooMany" = some (.ref (He.ga K "TooMany"))
  g_TooWide : mg "TooWide" = some (.ref (He.ga K "TooWide"))
  g_UnlikeScripts : mg "UnlikeScripts" = some (.ref (He.ga K "UnlikeScripts"))
  g__law_alone : mg "_law_alone" = some (.ref (He.ga K "_law_alone"))
  g__law_at_rows : mg "_law_at_rows" = some (.ref (He.ga K "_law_at_rows"))
  g__law_bare : mg "_law_bare" = some (.ref (He.ga K "_law_bare"))
  g__law_couple_rows : mg "_law_couple_rows" = some (.ref (He.ga K "_law_couple_rows"))
  g__law_hand_rows : mg "_law_hand_rows" = some (.ref (He.ga K "_law_hand_rows"))
  g__law_how_rows : mg "_law_how_rows" = some (.ref (He.ga K "_law_how_rows"))
  g__law_kinds : mg "_law_kinds" = some (.ref (He.ga K "_law_kinds"))
  g__law_length_rows : mg "_law_length_rows" = some (.ref (He.ga K "_law_length_rows"))
  g__law_name_rows : mg "_law_name_rows" = some (.ref (He.ga K "_law_name_rows"))
  g__law_number_rows : mg "_law_number_rows" = some (.ref (He.ga K "_law_number_rows"))
  g__law_pick : mg "_law_pick" = some (.ref (He.ga K "_law_pick"))
  g__law_report_rows : mg "_law_report_rows" = some (.ref (He.ga K "_law_report_rows"))
  g__law_road_rows : mg "_law_road_rows" = some (.ref (He.ga K "_law_road_rows"))
  g__law_source : mg "_law_source" = some (.ref (He.ga K "_law_source"))
  g__law_symbol_rows : mg "_law_symbol_rows" = some (.ref (He.ga K "_law_symbol_rows"))
  g__law_take : mg "_law_take" = some (.ref (He.ga K "_law_take"))
  g__law_text : mg "_law_text" = some (.ref (He.ga K "_law_text"))
  g__law_thing : mg "_law_thing" = some (.ref (He.ga K "_law_thing"))
  g__law_turns_rows : mg "_law_turns_rows" = some (.ref (He.ga K "_law_turns_rows"))
  g__law_used_rows : mg "_law_used_rows" = some (.ref (He.ga K "_law_used_rows"))
  g__law_waiting_rows : mg "_law_waiting_rows" = some (.ref (He.ga K "_law_waiting_rows"))
  g__law_what_rows : mg "_law_what_rows" = some (.ref (He.ga K "_law_what_rows"))
  g_law : mg "law" = some (.ref (He.ga K "law"))
  f_ValueError : mg "ValueError" = none
  f_int : mg "int" = none
  f_isinstance : mg "isinstance" = none
  f_len : mg "len" = none
  f_list : mg "list" = none
  f_range : mg "range" = none
  D_BadBook__init_ : FunD K d_BadBook__init_.name d_BadBook__init_.qual d_BadBook__init_.params d_BadBook__init_.body d_BadBook__init_.scope (d_BadBook__init_.dvs K) (d_BadBook__init_.kws K) (He.fAd K d_BadBook__init_.at_) (fd 23)
  B_BadBook : Binds K (fd 23) ["self", "what"] []
  I_BadBook : Meth K (He.ga K "BadBook") "__init__" (He.fAd K d_BadBook__init_.at_)
  D_BadSaying__init_ : FunD K d_BadSaying__init_.name d_BadSaying__init_.qual d_BadSaying__init_.params d_BadSaying__init_.body d_BadSaying__init_.scope (d_BadSaying__init_.dvs K) (d_BadSaying__init_.kws K) (He.fAd K d_BadSaying__init_.at_) (fd 24)
  B_BadSaying : Binds K (fd 24) ["self", "what"] []
  I_BadSaying : Meth K (He.ga K "BadSaying") "__init__" (He.fAd K d_BadSaying__init_.at_)
  D_BadText__init_ : FunD K d_BadText__init_.name d_BadText__init_.qual d_BadText__init_.params d_BadText__init_.body d_BadText__init_.scope (d_BadText__init_.dvs K) (d_BadText__init_.kws K) (He.fAd K d_BadText__init_.at_) (fd 25)
  B_BadText : Binds K (fd 25) ["self", "line", "place"] []
  I_BadText : Meth K (He.ga K "BadText") "__init__" (He.fAd K d_BadText__init_.at_)
  D_BadExpression__init_ : FunD K d_BadExpression__init_.name d_BadExpression__init_.qual d_BadExpression__init_.params d_BadExpression__init_.body d_BadExpression__init_.scope (d_BadExpression__init_.dvs K) (d_BadExpression__init_.kws K) (He.fAd K d_BadExpression__init_.at_) (fd 26)
  B_BadExpression : Binds K (fd 26) ["self", "what"] []
  I_BadExpression : Meth K (He.ga K "BadExpression") "__init__" (He.fAd K d_BadExpression__init_.at_)
  D_BadStep__init_ : FunD K d_BadStep__init_.name d_BadStep__init_.qual d_BadStep__init_.params d_BadStep__init_.body d_BadStep__init_.scope (d_BadStep__init_.dvs K) (d_BadStep__init_.kws K) (He.fAd K d_BadStep__init_.at_) (fd 27)
  B_BadStep : Binds K (fd 27) ["self"] []
  I_BadStep : Meth K (He.ga K "BadStep") "__init__" (He.fAd K d_BadStep__init_.at_)
  D_BadEquation__init_ : FunD K d_BadEquation__init_.name d_BadEquation__init_.qual d_BadEquation__init_.params d_BadEquation__init_.body d_BadEquation__init_.scope (d_BadEquation__init_.dvs K) (d_BadEquation__init_.kws K) (He.fAd K d_BadEquation__init_.at_) (fd 28)
  B_BadEquation : Binds K (fd 28) ["self", "at", "what"] []
  I_BadEquation : Meth K (He.ga K "BadEquation") "__init__" (He.fAd K d_BadEquation__init_.at_)
  D_Ended__init_ : FunD K d_Ended__init_.name d_Ended__init_.qual d_Ended__init_.params d_Ended__init_.body d_Ended__init_.scope (d_Ended__init_.dvs K) (d_Ended__init_.kws K) (He.fAd K d_Ended__init_.at_) (fd 29)
  B_Ended : Binds K (fd 29) ["self", "how"] []
  I_Ended : Meth K (He.ga K "Ended") "__init__" (He.fAd K d_Ended__init_.at_)
  D_NoBook__init_ : FunD K d_NoBook__init_.name d_NoBook__init_.qual d_NoBook__init_.params d_NoBook__init_.body d_NoBook__init_.scope (d_NoBook__init_.dvs K) (d_NoBook__init_.kws K) (He.fAd K d_NoBook__init_.at_) (fd 30)
  B_NoBook : Binds K (fd 30) ["self", "number"] []
  I_NoBook : Meth K (He.ga K "NoBook") "__init__" (He.fAd K d_NoBook__init_.at_)
  D_NotOpen__init_ : FunD K d_NotOpen__init_.name d_NotOpen__init_.qual d_NotOpen__init_.params d_NotOpen__init_.body d_NotOpen__init_.scope (d_NotOpen__init_.dvs K) (d_NotOpen__init_.kws K) (He.fAd K d_NotOpen__init_.at_) (fd 31)
  B_NotOpen : Binds K (fd 31) ["self", "number"] []
  I_NotOpen : Meth K (He.ga K "NotOpen") "__init__" (He.fAd K d_NotOpen__init_.at_)
  D_NotLooked__init_ : FunD K d_NotLooked__init_.name d_NotLooked__init_.qual d_NotLooked__init_.params d_NotLooked__init_.body d_NotLooked__init_.scope (d_NotLooked__init_.dvs K) (d_NotLooked__init_.kws K) (He.fAd K d_NotLooked__init_.at_) (fd 32)
  B_NotLooked : Binds K (fd 32) ["self", "number"] []
  I_NotLooked : Meth K (He.ga K "NotLooked") "__init__" (He.fAd K d_NotLooked__init_.at_)
  D_TooFull__init_ : FunD K d_TooFull__init_.name d_TooFull__init_.qual d_TooFull__init_.params d_TooFull__init_.body d_TooFull__init_.scope (d_TooFull__init_.dvs K) (d_TooFull__init_.kws K) (He.fAd K d_TooFull__init_.at_) (fd 33)
  B_TooFull : Binds K (fd 33) ["self", "waiting"] []
  I_TooFull : Meth K (He.ga K "TooFull") "__init__" (He.fAd K d_TooFull__init_.at_)
  D_NoHand__init_ : FunD K d_NoHand__init_.name d_NoHand__init_.qual d_NoHand__init_.params d_NoHand__init_.body d_NoHand__init_.scope (d_NoHand__init_.dvs K) (d_NoHand__init_.kws K) (He.fAd K d_NoHand__init_.at_) (fd 34)
  B_NoHand : Binds K (fd 34) ["self", "hand"] []
  I_NoHand : Meth K (He.ga K "NoHand") "__init__" (He.fAd K d_NoHand__init_.at_)
  D_Busy__init_ : FunD K d_Busy__init_.name d_Busy__init_.qual d_Busy__init_.params d_Busy__init_.body d_Busy__init_.scope (d_Busy__init_.dvs K) (d_Busy__init_.kws K) (He.fAd K d_Busy__init_.at_) (fd 35)
  B_Busy : Binds K (fd 35) ["self", "hand"] []
  I_Busy : Meth K (He.ga K "Busy") "__init__" (He.fAd K d_Busy__init_.at_)
  D_Idle__init_ : FunD K d_Idle__init_.name d_Idle__init_.qual d_Idle__init_.params d_Idle__init_.body d_Idle__init_.scope (d_Idle__init_.dvs K) (d_Idle__init_.kws K) (He.fAd K d_Idle__init_.at_) (fd 36)
  B_Idle : Binds K (fd 36) ["self", "hand"] []
  I_Idle : Meth K (He.ga K "Idle") "__init__" (He.fAd K d_Idle__init_.at_)
  D_NoReport__init_ : FunD K d_NoReport__init_.name d_NoReport__init_.qual d_NoReport__init_.params d_NoReport__init_.body d_NoReport__init_.scope (d_NoReport__init_.dvs K) (d_NoReport__init_.kws K) (He.fAd K d_NoReport__init_.at_) (fd 37)
  B_NoReport : Binds K (fd 37) ["self", "report"] []
  I_NoReport : Meth K (He.ga K "NoReport") "__init__" (He.fAd K d_NoReport__init_.at_)
  D_BadGrammar__init_ : FunD K d_BadGrammar__init_.name d_BadGrammar__init_.qual d_BadGrammar__init_.params d_BadGrammar__init_.body d_BadGrammar__init_.scope (d_BadGrammar__init_.dvs K) (d_BadGrammar__init_.kws K) (He.fAd K d_BadGrammar__init_.at_) (fd 38)
  B_BadGrammar : Binds K (fd 38) ["self", "at"] []
  I_BadGrammar : Meth K (He.ga K "BadGrammar") "__init__" (He.fAd K d_BadGrammar__init_.at_)
  D_NoSymbol__init_ : FunD K d_NoSymbol__init_.name d_NoSymbol__init_.qual d_NoSymbol__init_.params d_NoSymbol__init_.body d_NoSymbol__init_.scope (d_NoSymbol__init_.dvs K) (d_NoSymbol__init_.kws K) (He.fAd K d_NoSymbol__init_.at_) (fd 39)
  B_NoSymbol : Binds K (fd 39) ["self", "symbol"] []
  I_NoSymbol : Meth K (He.ga K "NoSymbol") "__init__" (He.fAd K d_NoSymbol__init_.at_)
  D_NoSign__init_ : FunD K d_NoSign__init_.name d_NoSign__init_.qual d_NoSign__init_.params d_NoSign__init_.body d_NoSign__init_.scope (d_NoSign__init_.dvs K) (d_NoSign__init_.kws K) (He.fAd K d_NoSign__init_.at_) (fd 40)
  B_NoSign : Binds K (fd 40) ["self", "at"] []
  I_NoSign : Meth K (He.ga K "NoSign") "__init__" (He.fAd K d_NoSign__init_.at_)
  D_TooLong__init_ : FunD K d_TooLong__init_.name d_TooLong__init_.qual d_TooLong__init_.params d_TooLong__init_.body d_TooLong__init_.scope (d_TooLong__init_.dvs K) (d_TooLong__init_.kws K) (He.fAd K d_TooLong__init_.at_) (fd 41)
  B_TooLong : Binds K (fd 41) ["self", "length"] []
  I_TooLong : Meth K (He.ga K "TooLong") "__init__" (He.fAd K d_TooLong__init_.at_)
  D_NoCut__init_ : FunD K d_NoCut__init_.name d_NoCut__init_.qual d_NoCut__init_.params d_NoCut__init_.body d_NoCut__init_.scope (d_NoCut__init_.dvs K) (d_NoCut__init_.kws K) (He.fAd K d_NoCut__init_.at_) (fd 42)
  B_NoCut : Binds K (fd 42) ["self", "begin", "end"] []
  I_NoCut : Meth K (He.ga K "NoCut") "__init__" (He.fAd K d_NoCut__init_.at_)
  D_BadFilling__init_ : FunD K d_BadFilling__init_.name d_BadFilling__init_.qual d_BadFilling__init_.params d_BadFilling__init_.body d_BadFilling__init_.scope (d_BadFilling__init_.dvs K) (d_BadFilling__init_.kws K) (He.fAd K d_BadFilling__init_.at_) (fd 43)
  B_BadFilling : Binds K (fd 43) ["self", "at"] []
  I_BadFilling : Meth K (He.ga K "BadFilling") "__init__" (He.fAd K d_BadFilling__init_.at_)
  D_NoName__init_ : FunD K d_NoName__init_.name d_NoName__init_.qual d_NoName__init_.params d_NoName__init_.body d_NoName__init_.scope (d_NoName__init_.dvs K) (d_NoName__init_.kws K) (He.fAd K d_NoName__init_.at_) (fd 44)
  B_NoName : Binds K (fd 44) ["self", "name"] []
  I_NoName : Meth K (He.ga K "NoName") "__init__" (He.fAd K d_NoName__init_.at_)
  D_NotShut__init_ : FunD K d_NotShut__init_.name d_NotShut__init_.qual d_NotShut__init_.params d_NotShut__init_.body d_NotShut__init_.scope (d_NotShut__init_.dvs K) (d_NotShut__init_.kws K) (He.fAd K d_NotShut__init_.at_) (fd 45)
  B_NotShut : Binds K (fd 45) ["self"] []
  I_NotShut : Meth K (He.ga K "NotShut") "__init__" (He.fAd K d_NotShut__init_.at_)
  D_OtherDeeds__init_ : FunD K d_OtherDeeds__init_.name d_OtherDeeds__init_.qual d_OtherDeeds__init_.params d_OtherDeeds__init_.body d_OtherDeeds__init_.scope (d_OtherDeeds__init_.dvs K) (d_OtherDeeds__init_.kws K) (He.fAd K d_OtherDeeds__init_.at_) (fd 46)
  B_OtherDeeds : Binds K (fd 46) ["self"] []
  I_OtherDeeds : Meth K (He.ga K "OtherDeeds") "__init__" (He.fAd K d_OtherDeeds__init_.at_)
  D_BadPaperText__init_ : FunD K d_BadPaperText__init_.name d_BadPaperText__init_.qual d_BadPaperText__init_.params d_BadPaperText__init_.body d_BadPaperText__init_.scope (d_BadPaperText__init_.dvs K) (d_BadPaperText__init_.kws K) (He.fAd K d_BadPaperText__init_.at_) (fd 47)
  B_BadPaperText : Binds K (fd 47) ["self"] []
  I_BadPaperText : Meth K (He.ga K "BadPaperText") "__init__" (He.fAd K d_BadPaperText__init_.at_)
  D_TooWide__init_ : FunD K d_TooWide__init_.name d_TooWide__init_.qual d_TooWide__init_.params d_TooWide__init_.body d_TooWide__init_.scope (d_TooWide__init_.dvs K) (d_TooWide__init_.kws K) (He.fAd K d_TooWide__init_.at_) (fd 48)
  B_TooWide : Binds K (fd 48) ["self", "what"] []
  I_TooWide : Meth K (He.ga K "TooWide") "__init__" (He.fAd K d_TooWide__init_.at_)
  D_BadScript__init_ : FunD K d_BadScript__init_.name d_BadScript__init_.qual d_BadScript__init_.params d_BadScript__init_.body d_BadScript__init_.scope (d_BadScript__init_.dvs K) (d_BadScript__init_.kws K) (He.fAd K d_BadScript__init_.at_) (fd 49)
  B_BadScript : Binds K (fd 49) ["self", "what", "road"] []
  I_BadScript : Meth K (He.ga K "BadScript") "__init__" (He.fAd K d_BadScript__init_.at_)
  D_ShortInputs__init_ : FunD K d_ShortInputs__init_.name d_ShortInputs__init_.qual d_ShortInputs__init_.params d_ShortInputs__init_.body d_ShortInputs__init_.scope (d_ShortInputs__init_.dvs K) (d_ShortInputs__init_.kws K) (He.fAd K d_ShortInputs__init_.at_) (fd 50)
  B_ShortInputs : Binds K (fd 50) ["self", "used"] []
  I_ShortInputs : Meth K (He.ga K "ShortInputs") "__init__" (He.fAd K d_ShortInputs__init_.at_)
  D_NoIf__init_ : FunD K d_NoIf__init_.name d_NoIf__init_.qual d_NoIf__init_.params d_NoIf__init_.body d_NoIf__init_.scope (d_NoIf__init_.dvs K) (d_NoIf__init_.kws K) (He.fAd K d_NoIf__init_.at_) (fd 51)
  B_NoIf : Binds K (fd 51) ["self", "road"] []
  I_NoIf : Meth K (He.ga K "NoIf") "__init__" (He.fAd K d_NoIf__init_.at_)
  D_NoWay__init_ : FunD K d_NoWay__init_.name d_NoWay__init_.qual d_NoWay__init_.params d_NoWay__init_.body d_NoWay__init_.scope (d_NoWay__init_.dvs K) (d_NoWay__init_.kws K) (He.fAd K d_NoWay__init_.at_) (fd 52)
  B_NoWay : Binds K (fd 52) ["self", "turns"] []
  I_NoWay : Meth K (He.ga K "NoWay") "__init__" (He.fAd K d_NoWay__init_.at_)
  D_BadDeed__init_ : FunD K d_BadDeed__init_.name d_BadDeed__init_.qual d_BadDeed__init_.params d_BadDeed__init_.body d_BadDeed__init_.scope (d_BadDeed__init_.dvs K) (d_BadDeed__init_.kws K) (He.fAd K d_BadDeed__init_.at_) (fd 53)
  B_BadDeed : Binds K (fd 53) ["self", "what"] []
  I_BadDeed : Meth K (He.ga K "BadDeed") "__init__" (He.fAd K d_BadDeed__init_.at_)
  D_NoPaper__init_ : FunD K d_NoPaper__init_.name d_NoPaper__init_.qual d_NoPaper__init_.params d_NoPaper__init_.body d_NoPaper__init_.scope (d_NoPaper__init_.dvs K) (d_NoPaper__init_.kws K) (He.fAd K d_NoPaper__init_.at_) (fd 54)
  B_NoPaper : Binds K (fd 54) ["self", "at"] []
  I_NoPaper : Meth K (He.ga K "NoPaper") "__init__" (He.fAd K d_NoPaper__init_.at_)
  D_NoStatement__init_ : FunD K d_NoStatement__init_.name d_NoStatement__init_.qual d_NoStatement__init_.params d_NoStatement__init_.body d_NoStatement__init_.scope (d_NoStatement__init_.dvs K) (d_NoStatement__init_.kws K) (He.fAd K d_NoStatement__init_.at_) (fd 55)
  B_NoStatement : Binds K (fd 55) ["self", "road"] []
  I_NoStatement : Meth K (He.ga K "NoStatement") "__init__" (He.fAd K d_NoStatement__init_.at_)
  n_BadBook_what : NoAttr K (He.ga K "BadBook") "what"
  n_BadDeed_what : NoAttr K (He.ga K "BadDeed") "what"
  n_BadEquation_at : NoAttr K (He.ga K "BadEquation") "at"
  n_BadEquation_what : NoAttr K (He.ga K "BadEquation") "what"
  n_BadExpression_what : NoAttr K (He.ga K "BadExpression") "what"
  n_BadFilling_at : NoAttr K (He.ga K "BadFilling") "at"
  n_BadGrammar_at : NoAttr K (He.ga K "BadGrammar") "at"
  n_BadSaying_what : NoAttr K (He.ga K "BadSaying") "what"
  n_BadScript_road : NoAttr K (He.ga K "BadScript") "road"
  n_BadScript_what : NoAttr K (He.ga K "BadScript") "what"
  n_BadText_line : NoAttr K (He.ga K "BadText") "line"
  n_BadText_place : NoAttr K (He.ga K "BadText") "place"
  n_Busy_hand : NoAttr K (He.ga K "Busy") "hand"
  n_Ended_how : NoAttr K (He.ga K "Ended") "how"
  n_Idle_hand : NoAttr K (He.ga K "Idle") "hand"
  n_NoBook_number : NoAttr K (He.ga K "NoBook") "number"
  n_NoCut_begin : NoAttr K (He.ga K "NoCut") "begin"
  n_NoCut_end : NoAttr K (He.ga K "NoCut") "end"
  n_NoHand_hand : NoAttr K (He.ga K "NoHand") "hand"
  n_NoIf_road : NoAttr K (He.ga K "NoIf") "road"
  n_NoName_name : NoAttr K (He.ga K "NoName") "name"
  n_NoPaper_at : NoAttr K (He.ga K "NoPaper") "at"
  n_NoReport_report : NoAttr K (He.ga K "NoReport") "report"
  n_NoSign_at : NoAttr K (He.ga K "NoSign") "at"
  n_NoStatement_road : NoAttr K (He.ga K "NoStatement") "road"
  n_NoSymbol_symbol : NoAttr K (He.ga K "NoSymbol") "symbol"
  n_NoWay_turns : NoAttr K (He.ga K "NoWay") "turns"
  n_NotLooked_number : NoAttr K (He.ga K "NotLooked") "number"
  n_NotOpen_number : NoAttr K (He.ga K "NotOpen") "number"
  n_ShortInputs_used : NoAttr K (He.ga K "ShortInputs") "used"
  n_TooFull_waiting : NoAttr K (He.ga K "TooFull") "waiting"
  n_TooLong_length : NoAttr K (He.ga K "TooLong") "length"
  n_TooWide_what : NoAttr K (He.ga K "TooWide") "what"
  w_isi : isiAllB K cn isOk = true
  w_kit : kitAllB K cn isOk isBt isCs = true
  w_nf : nfAllB K cn (eqTab.map (·.1)) = true
  w_x : xAllB K cn xS = true
  w_kx : kitXB K cn xPar xS xT = true
  w_ky : kitYB K cn xS xY = true
  w_b : bareAllB K cn xBare = true
  w_bi : binitB K (He.ga K "PressError") = true
section
variable {K : PySem.W.Frag} {mg : Str → Option Value} {fd : Nat → FuncData}
theorem fx_of {h : Heap} (X : K.In h) (G : h.Ns mainGlobals mg) (c : SaysM (fun K => (xf K).all id) fa fn K) (hd : ∀ i d, fn[i]? = some d → FunD K d.name d.qual d.params d.body d.scope (d.dvs K) (d.kws K) (He.fAd K d.at_) (fd i)) : Fx K mg fd where
  D__law_source := hd 0 _ rfl
  i__law_source := ⟨(hd 0 _ rfl).kp, (hd 0 _ rfl).bindsN fun _ _ _ _ _ _ us hl => match us, hl with | [_], _ => rfl⟩
  D__law_take := hd 1 _ rfl
  i__law_take := ⟨(hd 1 _ rfl).kp, (hd 1 _ rfl).bindsN fun _ _ _ _ _ _ us hl => match us, hl with | [_, _], _ => rfl⟩
  D__law_pick := hd 2 _ rfl
  i__law_pick := ⟨(hd 2 _ rfl).kp, (hd 2 _ rfl).bindsN fun _ _ _ _ _ _ us hl => match us, hl with | [_, _], _ => rfl⟩
  D__law_text := hd 3 _ rfl
  i__law_text := ⟨(hd 3 _ rfl).kp, (hd 3 _ rfl).bindsN fun _ _ _ _ _ _ us hl => match us, hl with | [_], _ => rfl⟩
  D__law_thing := hd 4 _ rfl
  i__law_thing := ⟨(hd 4 _ rfl).kp, (hd 4 _ rfl).bindsN fun _ _ _ _ _ _ us hl => match us, hl with | [_], _ => rfl⟩
  D__law_bare := hd 5 _ rfl
  i__law_bare := ⟨(hd 5 _ rfl).kp, (hd 5 _ rfl).bindsN fun _ _ _ _ _ _ us hl => match us, hl with | [], _ => rfl⟩
  D__law_what_rows := hd 6 _ rfl
  i__law_what_rows := ⟨(hd 6 _ rfl).kp, (hd 6 _ rfl).bindsN fun _ _ _ _ _ _ us hl => match us, hl with | [_], _ => rfl⟩
  D__law_how_rows := hd 7 _ rfl
  i__law_how_rows := ⟨(hd 7 _ rfl).kp, (hd 7 _ rfl).bindsN fun _ _ _ _ _ _ us hl => match us, hl with | [_], _ => rfl⟩
  D__law_number_rows := hd 8 _ rfl
  i__law_number_rows := ⟨(hd 8 _ rfl).kp, (hd 8 _ rfl).bindsN fun _ _ _ _ _ _ us hl => match us, hl with | [_], _ => rfl⟩
  D__law_waiting_rows := hd 9 _ rfl
  i__law_waiting_rows := ⟨(hd 9 _ rfl).kp, (hd 9 _ rfl).bindsN fun _ _ _ _ _ _ us hl => match us, hl with | [_], _ => rfl⟩
  D__law_hand_rows := hd 10 _ rfl
  i__law_hand_rows := ⟨(hd 10 _ rfl).kp, (hd 10 _ rfl).bindsN fun _ _ _ _ _ _ us hl => match us, hl with | [_], _ => rfl⟩
  D__law_report_rows := hd 11 _ rfl
  i__law_report_rows := ⟨(hd 11 _ rfl).kp, (hd 11 _ rfl).bindsN fun _ _ _ _ _ _ us hl => match us, hl with | [_], _ => rfl⟩
  D__law_at_rows := hd 12 _ rfl
  i__law_at_rows := ⟨(hd 12 _ rfl).kp, (hd 12 _ rfl).bindsN fun _ _ _ _ _ _ us hl => match us, hl with | [_], _ => rfl⟩
  D__law_symbol_rows := hd 13 _ rfl
  i__law_symbol_rows := ⟨(hd 13 _ rfl).kp, (hd 13 _ rfl).bindsN fun _ _ _ _ _ _ us hl => match us, hl with | [_], _ => rfl⟩
  D__law_length_rows := hd 14 _ rfl
  i__law_length_rows := ⟨(hd 14 _ rfl).kp, (hd 14 _ rfl).bindsN fun _ _ _ _ _ _ us hl => match us, hl with | [_], _ => rfl⟩
  D__law_name_rows := hd 15 _ rfl
  i__law_name_rows := ⟨(hd 15 _ rfl).kp, (hd 15 _ rfl).bindsN fun _ _ _ _ _ _ us hl => match us, hl with | [_], _ => rfl⟩
  D__law_used_rows := hd 16 _ rfl
  i__law_used_rows := ⟨(hd 16 _ rfl).kp, (hd 16 _ rfl).bindsN fun _ _ _ _ _ _ us hl => match us, hl with | [_], _ => rfl⟩
  D__law_road_rows := hd 17 _ rfl
  i__law_road_rows := ⟨(hd 17 _ rfl).kp, (hd 17 _ rfl).bindsN fun _ _ _ _ _ _ us hl => match us, hl with | [_], _ => rfl⟩
  D__law_turns_rows := hd 18 _ rfl
  i__law_turns_rows := ⟨(hd 18 _ rfl).kp, (hd 18 _ rfl).bindsN fun _ _ _ _ _ _ us hl => match us, hl with | [_], _ => rfl⟩
  D__law_couple_rows := hd 19 _ rfl
  i__law_couple_rows := ⟨(hd 19 _ rfl).kp, (hd 19 _ rfl).bindsN fun _ _ _ _ _ _ us hl => match us, hl with | [_, _], _ => rfl⟩
  D__law_kinds := hd 20 _ rfl
  i__law_kinds := ⟨(hd 20 _ rfl).kp, (hd 20 _ rfl).bindsN fun _ _ _ _ _ _ us hl => match us, hl with | [_], _ => rfl⟩
  D__law_alone := hd 21 _ rfl
  i__law_alone := ⟨(hd 21 _ rfl).kp, (hd 21 _ rfl).bindsN fun _ _ _ _ _ _ us hl => match us, hl with | [_, _], _ => rfl⟩
  D_law := hd 22 _ rfl
  i_law := ⟨(hd 22 _ rfl).kp, (hd 22 _ rfl).bindsN fun _ _ _ _ _ _ us hl => match us, hl with | [_], _ => rfl⟩
  g_BadBook := He.glo_ok X G (c.d.fact 0 rfl)
  g_BadDeed := He.glo_ok X G (c.d.fact 1 rfl)
  g_BadEquation := He.glo_ok X G (c.d.fact 2 rfl)
  g_BadExpression := He.glo_ok X G (c.d.fact 3 rfl)
  g_BadFilling := He.glo_ok X G (c.d.fact 4 rfl)
  g_BadGrammar := He.glo_ok X G (c.d.fact 5 rfl)
  g_BadLetters := He.glo_ok X G (c.d.fact 6 rfl)
  g_BadMany := He.glo_ok X G (c.d.fact 7 rfl)
  g_BadOrder := He.glo_ok X G (c.d.fact 8 rfl)
  g_BadPaperText := He.glo_ok X G (c.d.fact 9 rfl)
  g_BadRoom := He.glo_ok X G (c.d.fact 10 rfl)
  g_BadSaying := He.glo_ok X G (c.d.fact 11 rfl)
  g_BadScript := He.glo_ok X G (c.d.fact 12 rfl)
  g_BadStep := He.glo_ok X G (c.d.fact 13 rfl)
  g_BadText := He.glo_ok X G (c.d.fact 14 rfl)
  g_Busy := He.glo_ok X G (c.d.fact 15 rfl)
  g_EmptyWord := He.glo_ok X G (c.d.fact 16 rfl)
  g_Ended := He.glo_ok X G (c.d.fact 17 rfl)
  g_FullDesk := He.glo_ok X G (c.d.fact 18 rfl)
  g_Idle := He.glo_ok X G (c.d.fact 19 rfl)
  g_IsCut := He.glo_ok X G (c.d.fact 20 rfl)
  g_NoBack := He.glo_ok X G (c.d.fact 21 rfl)
  g_NoBook := He.glo_ok X G (c.d.fact 22 rfl)
  g_NoCut := He.glo_ok X G (c.d.fact 23 rfl)
  g_NoEngine := He.glo_ok X G (c.d.fact 24 rfl)
  g_NoHand := He.glo_ok X G (c.d.fact 25 rfl)
  g_NoIf := He.glo_ok X G (c.d.fact 26 rfl)
  g_NoName := He.glo_ok X G (c.d.fact 27 rfl)
  g_NoPaper := He.glo_ok X G (c.d.fact 28 rfl)
  g_NoReport := He.glo_ok X G (c.d.fact 29 rfl)
  g_NoScript := He.glo_ok X G (c.d.fact 30 rfl)
  g_NoSign := He.glo_ok X G (c.d.fact 31 rfl)
  g_NoStatement := He.glo_ok X G (c.d.fact 32 rfl)
  g_NoSymbol := He.glo_ok X G (c.d.fact 33 rfl)
  g_NoWay := He.glo_ok X G (c.d.fact 34 rfl)
  g_NotCut := He.glo_ok X G (c.d.fact 35 rfl)
  g_NotFilled := He.glo_ok X G (c.d.fact 36 rfl)
  g_NotLooked := He.glo_ok X G (c.d.fact 37 rfl)
  g_NotOpen := He.glo_ok X G (c.d.fact 38 rfl)
  g_NotShut := He.glo_ok X G (c.d.fact 39 rfl)
  g_OtherDeeds := He.glo_ok X G (c.d.fact 40 rfl)
  g_PressError := He.glo_ok X G (c.d.fact 41 rfl)
  g_ShortInputs := He.glo_ok X G (c.d.fact 42 rfl)
  g_TooFull := He.glo_ok X G (c.d.fact 43 rfl)
  g_TooLong := He.glo_ok X G (c.d.fact 44 rfl)
  g_TooMany := He.glo_ok X G (c.d.fact 45 rfl)
  g_TooWide := He.glo_ok X G (c.d.fact 46 rfl)
  g_UnlikeScripts := He.glo_ok X G (c.d.fact 47 rfl)
  g__law_alone := He.glo_ok X G (c.d.fact 48 rfl)
  g__law_at_rows := He.glo_ok X G (c.d.fact 49 rfl)
  g__law_bare := He.glo_ok X G (c.d.fact 50 rfl)
  g__law_couple_rows := He.glo_ok X G (c.d.fact 51 rfl)
  g__law_hand_rows := He.glo_ok X G (c.d.fact 52 rfl)
  g__law_how_rows := He.glo_ok X G (c.d.fact 53 rfl)
  g__law_kinds := He.glo_ok X G (c.d.fact 54 rfl)
  g__law_length_rows := He.glo_ok X G (c.d.fact 55 rfl)
  g__law_name_rows := He.glo_ok X G (c.d.fact 56 rfl)
  g__law_number_rows := He.glo_ok X G (c.d.fact 57 rfl)
  g__law_pick := He.glo_ok X G (c.d.fact 58 rfl)
  g__law_report_rows := He.glo_ok X G (c.d.fact 59 rfl)
  g__law_road_rows := He.glo_ok X G (c.d.fact 60 rfl)
  g__law_source := He.glo_ok X G (c.d.fact 61 rfl)
  g__law_symbol_rows := He.glo_ok X G (c.d.fact 62 rfl)
  g__law_take := He.glo_ok X G (c.d.fact 63 rfl)
  g__law_text := He.glo_ok X G (c.d.fact 64 rfl)
  g__law_thing := He.glo_ok X G (c.d.fact 65 rfl)
  g__law_turns_rows := He.glo_ok X G (c.d.fact 66 rfl)
  g__law_used_rows := He.glo_ok X G (c.d.fact 67 rfl)
  g__law_waiting_rows := He.glo_ok X G (c.d.fact 68 rfl)
  g__law_what_rows := He.glo_ok X G (c.d.fact 69 rfl)
  g_law := He.glo_ok X G (c.d.fact 70 rfl)
  f_ValueError := He.free_ok X G (c.d.fact 71 rfl)
  f_int := He.free_ok X G (c.d.fact 72 rfl)
  f_isinstance := He.free_ok X G (c.d.fact 73 rfl)
  f_len := He.free_ok X G (c.d.fact 74 rfl)
  f_list := He.free_ok X G (c.d.fact 75 rfl)
  f_range := He.free_ok X G (c.d.fact 76 rfl)
  n_BadBook_what := He.noat_ok (c.d.fact 77 rfl)
  n_BadDeed_what := He.noat_ok (c.d.fact 78 rfl)
  n_BadEquation_at := He.noat_ok (c.d.fact 79 rfl)
  n_BadEquation_what := He.noat_ok (c.d.fact 80 rfl)
  n_BadExpression_what := He.noat_ok (c.d.fact 81 rfl)
  n_BadFilling_at := He.noat_ok (c.d.fact 82 rfl)
  n_BadGrammar_at := He.noat_ok (c.d.fact 83 rfl)
  n_BadSaying_what := He.noat_ok (c.d.fact 84 rfl)
  n_BadScript_road := He.noat_ok (c.d.fact 85 rfl)
  n_BadScript_what := He.noat_ok (c.d.fact 86 rfl)
  n_BadText_line := He.noat_ok (c.d.fact 87 rfl)
  n_BadText_place := He.noat_ok (c.d.fact 88 rfl)
  n_Busy_hand := He.noat_ok (c.d.fact 89 rfl)
  n_Ended_how := He.noat_ok (c.d.fact 90 rfl)
  n_Idle_hand := He.noat_ok (c.d.fact 91 rfl)
  n_NoBook_number := He.noat_ok (c.d.fact 92 rfl)
  n_NoCut_begin := He.noat_ok (c.d.fact 93 rfl)
  n_NoCut_end := He.noat_ok (c.d.fact 94 rfl)
  n_NoHand_hand := He.noat_ok (c.d.fact 95 rfl)
  n_NoIf_road := He.noat_ok (c.d.fact 96 rfl)
  n_NoName_name := He.noat_ok (c.d.fact 97 rfl)
  n_NoPaper_at := He.noat_ok (c.d.fact 98 rfl)
  n_NoReport_report := He.noat_ok (c.d.fact 99 rfl)
  n_NoSign_at := He.noat_ok (c.d.fact 100 rfl)
  n_NoStatement_road := He.noat_ok (c.d.fact 101 rfl)
  n_NoSymbol_symbol := He.noat_ok (c.d.fact 102 rfl)
  n_NoWay_turns := He.noat_ok (c.d.fact 103 rfl)
  n_NotLooked_number := He.noat_ok (c.d.fact 104 rfl)
  n_NotOpen_number := He.noat_ok (c.d.fact 105 rfl)
  n_ShortInputs_used := He.noat_ok (c.d.fact 106 rfl)
  n_TooFull_waiting := He.noat_ok (c.d.fact 107 rfl)
  n_TooLong_length := He.noat_ok (c.d.fact 108 rfl)
  n_TooWide_what := He.noat_ok (c.d.fact 109 rfl)
  D_BadBook__init_ := hd 23 _ rfl
  B_BadBook := (hd 23 _ rfl).bindsN fun _ _ _ _ _ _ us hl => match us, hl with | [_, _], _ => rfl
  I_BadBook := He.meth_ok (c.d.fact 110 rfl)
  D_BadSaying__init_ := hd 24 _ rfl
  B_BadSaying := (hd 24 _ rfl).bindsN fun _ _ _ _ _ _ us hl => match us, hl with | [_, _], _ => rfl
  I_BadSaying := He.meth_ok (c.d.fact 111 rfl)
  D_BadText__init_ := hd 25 _ rfl
  B_BadText := (hd 25 _ rfl).bindsN fun _ _ _ _ _ _ us hl => match us, hl with | [_, _, _], _ => rfl
  I_BadText := He.meth_ok (c.d.fact 112 rfl)
  D_BadExpression__init_ := hd 26 _ rfl
  B_BadExpression := (hd 26 _ rfl).bindsN fun _ _ _ _ _ _ us hl => match us, hl with | [_, _], _ => rfl
  I_BadExpression := He.meth_ok (c.d.fact 113 rfl)
  D_BadStep__init_ := hd 27 _ rfl
  B_BadStep := (hd 27 _ rfl).bindsN fun _ _ _ _ _ _ us hl => match us, hl with | [_], _ => rfl
  I_BadStep := He.meth_ok (c.d.fact 114 rfl)
  D_BadEquation__init_ := hd 28 _ rfl
  B_BadEquation := (hd 28 _ rfl).bindsN fun _ _ _ _ _ _ us hl => match us, hl with | [_, _, _], _ => rfl
  I_BadEquation := He.meth_ok (c.d.fact 115 rfl)
  D_Ended__init_ := hd 29 _ rfl
  B_Ended := (hd 29 _ rfl).bindsN fun _ _ _ _ _ _ us hl => match us, hl with | [_, _], _ => rfl
  I_Ended := He.meth_ok (c.d.fact 116 rfl)
  D_NoBook__init_ := hd 30 _ rfl
  B_NoBook := (hd 30 _ rfl).bindsN fun _ _ _ _ _ _ us hl => match us, hl with | [_, _], _ => rfl
  I_NoBook := He.meth_ok (c.d.fact 117 rfl)
  D_NotOpen__init_ := hd 31 _ rfl
  B_NotOpen := (hd 31 _ rfl).bindsN fun _ _ _ _ _ _ us hl => match us, hl with | [_, _], _ => rfl
  I_NotOpen := He.meth_ok (c.d.fact 118 rfl)
  D_NotLooked__init_ := hd 32 _ rfl
  B_NotLooked := (hd 32 _ rfl).bindsN fun _ _ _ _ _ _ us hl => match us, hl with | [_, _], _ => rfl
  I_NotLooked := He.meth_ok (c.d.fact 119 rfl)
  D_TooFull__init_ := hd 33 _ rfl
  B_TooFull := (hd 33 _ rfl).bindsN fun _ _ _ _ _ _ us hl => match us, hl with | [_, _], _ => rfl
  I_TooFull := He.meth_ok (c.d.fact 120 rfl)
  D_NoHand__init_ := hd 34 _ rfl
  B_NoHand := (hd 34 _ rfl).bindsN fun _ _ _ _ _ _ us hl => match us, hl with | [_, _], _ => rfl
  I_NoHand := He.meth_ok (c.d.fact 121 rfl)
  D_Busy__init_ := hd 35 _ rfl
  B_Busy := (hd 35 _ rfl).bindsN fun _ _ _ _ _ _ us hl => match us, hl with | [_, _], _ => rfl
  I_Busy := He.meth_ok (c.d.fact 122 rfl)
  D_Idle__init_ := hd 36 _ rfl
  B_Idle := (hd 36 _ rfl).bindsN fun _ _ _ _ _ _ us hl => match us, hl with | [_, _], _ => rfl
  I_Idle := He.meth_ok (c.d.fact 123 rfl)
  D_NoReport__init_ := hd 37 _ rfl
  B_NoReport := (hd 37 _ rfl).bindsN fun _ _ _ _ _ _ us hl => match us, hl with | [_, _], _ => rfl
  I_NoReport := He.meth_ok (c.d.fact 124 rfl)
  D_BadGrammar__init_ := hd 38 _ rfl
  B_BadGrammar := (hd 38 _ rfl).bindsN fun _ _ _ _ _ _ us hl => match us, hl with | [_, _], _ => rfl
  I_BadGrammar := He.meth_ok (c.d.fact 125 rfl)
  D_NoSymbol__init_ := hd 39 _ rfl
  B_NoSymbol := (hd 39 _ rfl).bindsN fun _ _ _ _ _ _ us hl => match us, hl with | [_, _], _ => rfl
  I_NoSymbol := He.meth_ok (c.d.fact 126 rfl)
  D_NoSign__init_ := hd 40 _ rfl
  B_NoSign := (hd 40 _ rfl).bindsN fun _ _ _ _ _ _ us hl => match us, hl with | [_, _], _ => rfl
  I_NoSign := He.meth_ok (c.d.fact 127 rfl)
  D_TooLong__init_ := hd 41 _ rfl
  B_TooLong := (hd 41 _ rfl).bindsN fun _ _ _ _ _ _ us hl => match us, hl with | [_, _], _ => rfl
  I_TooLong := He.meth_ok (c.d.fact 128 rfl)
  D_NoCut__init_ := hd 42 _ rfl
  B_NoCut := (hd 42 _ rfl).bindsN fun _ _ _ _ _ _ us hl => match us, hl with | [_, _, _], _ => rfl
  I_NoCut := He.meth_ok (c.d.fact 129 rfl)
  D_BadFilling__init_ := hd 43 _ rfl
  B_BadFilling := (hd 43 _ rfl).bindsN fun _ _ _ _ _ _ us hl => match us, hl with | [_, _], _ => rfl
  I_BadFilling := He.meth_ok (c.d.fact 130 rfl)
  D_NoName__init_ := hd 44 _ rfl
  B_NoName := (hd 44 _ rfl).bindsN fun _ _ _ _ _ _ us hl => match us, hl with | [_, _], _ => rfl
  I_NoName := He.meth_ok (c.d.fact 131 rfl)
  D_NotShut__init_ := hd 45 _ rfl
  B_NotShut := (hd 45 _ rfl).bindsN fun _ _ _ _ _ _ us hl => match us, hl with | [_], _ => rfl
  I_NotShut := He.meth_ok (c.d.fact 132 rfl)
  D_OtherDeeds__init_ := hd 46 _ rfl
  B_OtherDeeds := (hd 46 _ rfl).bindsN fun _ _ _ _ _ _ us hl => match us, hl with | [_], _ => rfl
  I_OtherDeeds := He.meth_ok (c.d.fact 133 rfl)
  D_BadPaperText__init_ := hd 47 _ rfl
  B_BadPaperText := (hd 47 _ rfl).bindsN fun _ _ _ _ _ _ us hl => match us, hl with | [_], _ => rfl
  I_BadPaperText := He.meth_ok (c.d.fact 134 rfl)
  D_TooWide__init_ := hd 48 _ rfl
  B_TooWide := (hd 48 _ rfl).bindsN fun _ _ _ _ _ _ us hl => match us, hl with | [_, _], _ => rfl
  I_TooWide := He.meth_ok (c.d.fact 135 rfl)
  D_BadScript__init_ := hd 49 _ rfl
  B_BadScript := (hd 49 _ rfl).bindsN fun _ _ _ _ _ _ us hl => match us, hl with | [_, _, _], _ => rfl
  I_BadScript := He.meth_ok (c.d.fact 136 rfl)
  D_ShortInputs__init_ := hd 50 _ rfl
  B_ShortInputs := (hd 50 _ rfl).bindsN fun _ _ _ _ _ _ us hl => match us, hl with | [_, _], _ => rfl
  I_ShortInputs := He.meth_ok (c.d.fact 137 rfl)
  D_NoIf__init_ := hd 51 _ rfl
  B_NoIf := (hd 51 _ rfl).bindsN fun _ _ _ _ _ _ us hl => match us, hl with | [_, _], _ => rfl
  I_NoIf := He.meth_ok (c.d.fact 138 rfl)
  D_NoWay__init_ := hd 52 _ rfl
  B_NoWay := (hd 52 _ rfl).bindsN fun _ _ _ _ _ _ us hl => match us, hl with | [_, _], _ => rfl
  I_NoWay := He.meth_ok (c.d.fact 139 rfl)
  D_BadDeed__init_ := hd 53 _ rfl
  B_BadDeed := (hd 53 _ rfl).bindsN fun _ _ _ _ _ _ us hl => match us, hl with | [_, _], _ => rfl
  I_BadDeed := He.meth_ok (c.d.fact 140 rfl)
  D_NoPaper__init_ := hd 54 _ rfl
  B_NoPaper := (hd 54 _ rfl).bindsN fun _ _ _ _ _ _ us hl => match us, hl with | [_, _], _ => rfl
  I_NoPaper := He.meth_ok (c.d.fact 141 rfl)
  D_NoStatement__init_ := hd 55 _ rfl
  B_NoStatement := (hd 55 _ rfl).bindsN fun _ _ _ _ _ _ us hl => match us, hl with | [_, _], _ => rfl
  I_NoStatement := He.meth_ok (c.d.fact 142 rfl)
  w_isi := List.all_eq_true.mp c.x _ (List.mem_of_getElem? (i := 0) rfl)
  w_kit := List.all_eq_true.mp c.x _ (List.mem_of_getElem? (i := 1) rfl)
  w_nf := List.all_eq_true.mp c.x _ (List.mem_of_getElem? (i := 2) rfl)
  w_x := List.all_eq_true.mp c.x _ (List.mem_of_getElem? (i := 3) rfl)
  w_kx := List.all_eq_true.mp c.x _ (List.mem_of_getElem? (i := 4) rfl)
  w_ky := List.all_eq_true.mp c.x _ (List.mem_of_getElem? (i := 5) rfl)
  w_b := List.all_eq_true.mp c.x _ (List.mem_of_getElem? (i := 6) rfl)
  w_bi := List.all_eq_true.mp c.x _ (List.mem_of_getElem? (i := 7) rfl)
theorem hokx_at (fx : Fx K mg fd) (C : Nat) (h : okx_at C = true) : ExcK K ((ct K).ca C) ∧ PySem.W.findIn K (.ref ((ct K).ca C)) "at" = some none := by
  simp only [okx_at, Bool.or_eq_true, beq_iff_eq] at h
  rcases h with (((rfl | rfl) | rfl) | rfl) | rfl
  · exact ⟨xAll_ok (cn := cn) (fun _ => rfl) fx.w_x (by decide), fx.n_BadEquation_at⟩
  · exact ⟨xAll_ok (cn := cn) (fun _ => rfl) fx.w_x (by decide), fx.n_BadGrammar_at⟩
  · exact ⟨xAll_ok (cn := cn) (fun _ => rfl) fx.w_x (by decide), fx.n_NoSign_at⟩
  · exact ⟨xAll_ok (cn := cn) (fun _ => rfl) fx.w_x (by decide), fx.n_BadFilling_at⟩
  · exact ⟨xAll_ok (cn := cn) (fun _ => rfl) fx.w_x (by decide), fx.n_NoPaper_at⟩
theorem hokx_begin (fx : Fx K mg fd) (C : Nat) (h : okx_begin C = true) : ExcK K ((ct K).ca C) ∧ PySem.W.findIn K (.ref ((ct K).ca C)) "begin" = some none := by
  simp only [okx_begin, Bool.or_eq_true, beq_iff_eq] at h
  subst h; exact ⟨xAll_ok (cn := cn) (fun _ => rfl) fx.w_x (by decide), fx.n_NoCut_begin⟩
theorem hokx_end (fx : Fx K mg fd) (C : Nat) (h : okx_end C = true) : ExcK K ((ct K).ca C) ∧ PySem.W.findIn K (.ref ((ct K).ca C)) "end" = some none := by
  simp only [okx_end, Bool.or_eq_true, beq_iff_eq] at h
  subst h; exact ⟨xAll_ok (cn := cn) (fun _ => rfl) fx.w_x (by decide), fx.n_NoCut_end⟩
theorem hokx_hand (fx : Fx K mg fd) (C : Nat) (h : okx_hand C = true) : ExcK K ((ct K).ca C) ∧ PySem.W.findIn K (.ref ((ct K).ca C)) "hand" = some none := by
  simp only [okx_hand, Bool.or_eq_true, beq_iff_eq] at h
  rcases h with (rfl | rfl) | rfl
  · exact ⟨xAll_ok (cn := cn) (fun _ => rfl) fx.w_x (by decide), fx.n_NoHand_hand⟩
  · exact ⟨xAll_ok (cn := cn) (fun _ => rfl) fx.w_x (by decide), fx.n_Busy_hand⟩
  · exact ⟨xAll_ok (cn := cn) (fun _ => rfl) fx.w_x (by decide), fx.n_Idle_hand⟩
theorem hokx_how (fx : Fx K mg fd) (C : Nat) (h : okx_how C = true) : ExcK K ((ct K).ca C) ∧ PySem.W.findIn K (.ref ((ct K).ca C)) "how" = some none := by
  simp only [okx_how, Bool.or_eq_true, beq_iff_eq] at h
  subst h; exact ⟨xAll_ok (cn := cn) (fun _ => rfl) fx.w_x (by decide), fx.n_Ended_how⟩
theorem hokx_length (fx : Fx K mg fd) (C : Nat) (h : okx_length C = true) : ExcK K ((ct K).ca C) ∧ PySem.W.findIn K (.ref ((ct K).ca C)) "length" = some none := by
  simp only [okx_length, Bool.or_eq_true, beq_iff_eq] at h
  subst h; exact ⟨xAll_ok (cn := cn) (fun _ => rfl) fx.w_x (by decide), fx.n_TooLong_length⟩
theorem hokx_line (fx : Fx K mg fd) (C : Nat) (h : okx_line C = true) : ExcK K ((ct K).ca C) ∧ PySem.W.findIn K (.ref ((ct K).ca C)) "line" = some none := by
  simp only [okx_line, Bool.or_eq_true, beq_iff_eq] at h
  subst h; exact ⟨xAll_ok (cn := cn) (fun _ => rfl) fx.w_x (by decide), fx.n_BadText_line⟩
theorem hokx_name (fx : Fx K mg fd) (C : Nat) (h : okx_name C = true) : ExcK K ((ct K).ca C) ∧ PySem.W.findIn K (.ref ((ct K).ca C)) "name" = some none := by
  simp only [okx_name, Bool.or_eq_true, beq_iff_eq] at h
  subst h; exact ⟨xAll_ok (cn := cn) (fun _ => rfl) fx.w_x (by decide), fx.n_NoName_name⟩
theorem hokx_number (fx : Fx K mg fd) (C : Nat) (h : okx_number C = true) : ExcK K ((ct K).ca C) ∧ PySem.W.findIn K (.ref ((ct K).ca C)) "number" = some none := by
  simp only [okx_number, Bool.or_eq_true, beq_iff_eq] at h
  rcases h with (rfl | rfl) | rfl
  · exact ⟨xAll_ok (cn := cn) (fun _ => rfl) fx.w_x (by decide), fx.n_NoBook_number⟩
  · exact ⟨xAll_ok (cn := cn) (fun _ => rfl) fx.w_x (by decide), fx.n_NotOpen_number⟩
  · exact ⟨xAll_ok (cn := cn) (fun _ => rfl) fx.w_x (by decide), fx.n_NotLooked_number⟩
theorem hokx_place (fx : Fx K mg fd) (C : Nat) (h : okx_place C = true) : ExcK K ((ct K).ca C) ∧ PySem.W.findIn K (.ref ((ct K).ca C)) "place" = some none := by
  simp only [okx_place, Bool.or_eq_true, beq_iff_eq] at h
  subst h; exact ⟨xAll_ok (cn := cn) (fun _ => rfl) fx.w_x (by decide), fx.n_BadText_place⟩
theorem hokx_report (fx : Fx K mg fd) (C : Nat) (h : okx_report C = true) : ExcK K ((ct K).ca C) ∧ PySem.W.findIn K (.ref ((ct K).ca C)) "report" = some none := by
  simp only [okx_report, Bool.or_eq_true, beq_iff_eq] at h
  subst h; exact ⟨xAll_ok (cn := cn) (fun _ => rfl) fx.w_x (by decide), fx.n_NoReport_report⟩
theorem hokx_road (fx : Fx K mg fd) (C : Nat) (h : okx_road C = true) : ExcK K ((ct K).ca C) ∧ PySem.W.findIn K (.ref ((ct K).ca C)) "road" = some none := by
  simp only [okx_road, Bool.or_eq_true, beq_iff_eq] at h
  rcases h with (rfl | rfl) | rfl
  · exact ⟨xAll_ok (cn := cn) (fun _ => rfl) fx.w_x (by decide), fx.n_BadScript_road⟩
  · exact ⟨xAll_ok (cn := cn) (fun _ => rfl) fx.w_x (by decide), fx.n_NoIf_road⟩
  · exact ⟨xAll_ok (cn := cn) (fun _ => rfl) fx.w_x (by decide), fx.n_NoStatement_road⟩
theorem hokx_symbol (fx : Fx K mg fd) (C : Nat) (h : okx_symbol C = true) : ExcK K ((ct K).ca C) ∧ PySem.W.findIn K (.ref ((ct K).ca C)) "symbol" = some none := by
  simp only [okx_symbol, Bool.or_eq_true, beq_iff_eq] at h
  subst h; exact ⟨xAll_ok (cn := cn) (fun _ => rfl) fx.w_x (by decide), fx.n_NoSymbol_symbol⟩
theorem hokx_turns (fx : Fx K mg fd) (C : Nat) (h : okx_turns C = true) : ExcK K ((ct K).ca C) ∧ PySem.W.findIn K (.ref ((ct K).ca C)) "turns" = some none := by
  simp only [okx_turns, Bool.or_eq_true, beq_iff_eq] at h
  subst h; exact ⟨xAll_ok (cn := cn) (fun _ => rfl) fx.w_x (by decide), fx.n_NoWay_turns⟩
theorem hokx_used (fx : Fx K mg fd) (C : Nat) (h : okx_used C = true) : ExcK K ((ct K).ca C) ∧ PySem.W.findIn K (.ref ((ct K).ca C)) "used" = some none := by
  simp only [okx_used, Bool.or_eq_true, beq_iff_eq] at h
  subst h; exact ⟨xAll_ok (cn := cn) (fun _ => rfl) fx.w_x (by decide), fx.n_ShortInputs_used⟩
theorem hokx_waiting (fx : Fx K mg fd) (C : Nat) (h : okx_waiting C = true) : ExcK K ((ct K).ca C) ∧ PySem.W.findIn K (.ref ((ct K).ca C)) "waiting" = some none := by
  simp only [okx_waiting, Bool.or_eq_true, beq_iff_eq] at h
  subst h; exact ⟨xAll_ok (cn := cn) (fun _ => rfl) fx.w_x (by decide), fx.n_TooFull_waiting⟩
theorem hokx_what (fx : Fx K mg fd) (C : Nat) (h : okx_what C = true) : ExcK K ((ct K).ca C) ∧ PySem.W.findIn K (.ref ((ct K).ca C)) "what" = some none := by
  simp only [okx_what, Bool.or_eq_true, beq_iff_eq] at h
  rcases h with (((((rfl | rfl) | rfl) | rfl) | rfl) | rfl) | rfl
  · exact ⟨xAll_ok (cn := cn) (fun _ => rfl) fx.w_x (by decide), fx.n_BadBook_what⟩
  · exact ⟨xAll_ok (cn := cn) (fun _ => rfl) fx.w_x (by decide), fx.n_BadSaying_what⟩
  · exact ⟨xAll_ok (cn := cn) (fun _ => rfl) fx.w_x (by decide), fx.n_BadExpression_what⟩
  · exact ⟨xAll_ok (cn := cn) (fun _ => rfl) fx.w_x (by decide), fx.n_BadEquation_what⟩
  · exact ⟨xAll_ok (cn := cn) (fun _ => rfl) fx.w_x (by decide), fx.n_TooWide_what⟩
  · exact ⟨xAll_ok (cn := cn) (fun _ => rfl) fx.w_x (by decide), fx.n_BadScript_what⟩
  · exact ⟨xAll_ok (cn := cn) (fun _ => rfl) fx.w_x (by decide), fx.n_BadDeed_what⟩
end
section
variable {P : Program} {w : World} {K : PySem.W.Frag} {mg : Str → Option Value} {base : Heap} {fd : Nat → FuncData}
theorem sc_BadBook__init_ : FnScope ["self", "what"] ["self", "what"] (defScope s_BadBook__init_) := ⟨by kernel_rfl, by kernel_rfl, by kernel_rfl, by decide +kernel, rfl, by decide +kernel, by decide +kernel⟩
theorem xi_BadBook {X : Cx} (fx : Fx X.K mg fd) (hmg : X.mg = mg) : XInit X (ct X.K) 1 [0] := by
  subst hmg
  exact ⟨(xAll_ok (cn := cn) (ct := ct X.K) (C := 1) (fun _ => rfl) fx.w_x (by decide)).ox, _, _, ["self", "what"], fx.I_BadBook.at_, beq_iff_eq.mp fx.I_BadBook.fn, fx.B_BadBook, xi1_ok (k := 0) fx.D_BadBook__init_ sc_BadBook__init_ (by first | exact .inl rfl | exact .inr rfl) (by first | exact .inl rfl | exact .inr rfl) (xAll_ok (cn := cn) (ct := ct X.K) (C := 1) (fun _ => rfl) fx.w_x (by decide)).ox fx.n_BadBook_what⟩
theorem sc_BadSaying__init_ : FnScope ["self", "what"] ["self", "what"] (defScope s_BadSaying__init_) := ⟨by kernel_rfl, by kernel_rfl, by kernel_rfl, by decide +kernel, rfl, by decide +kernel, by decide +kernel⟩
theorem xi_BadSaying {X : Cx} (fx : Fx X.K mg fd) (hmg : X.mg = mg) : XInit X (ct X.K) 3 [0] := by
  subst hmg
  exact ⟨(xAll_ok (cn := cn) (ct := ct X.K) (C := 3) (fun _ => rfl) fx.w_x (by decide)).ox, _, _, ["self", "what"], fx.I_BadSaying.at_, beq_iff_eq.mp fx.I_BadSaying.fn, fx.B_BadSaying, xi1_ok (k := 0) fx.D_BadSaying__init_ sc_BadSaying__init_ (by first | exact .inl rfl | exact .inr rfl) (by first | exact .inl rfl | exact .inr rfl) (xAll_ok (cn := cn) (ct := ct X.K) (C := 3) (fun _ => rfl) fx.w_x (by decide)).ox fx.n_BadSaying_what⟩
theorem sc_BadText__init_ : FnScope ["self", "line", "place"] ["self", "line", "place"] (defScope s_BadText__init_) := ⟨by kernel_rfl, by kernel_rfl, by kernel_rfl, by decide +kernel, rfl, by decide +kernel, by decide +kernel⟩
theorem xi_BadText {X : Cx} (fx : Fx X.K mg fd) (hmg : X.mg = mg) : XInit X (ct X.K) 4 [1, 2] := by
  subst hmg
  exact ⟨(xAll_ok (cn := cn) (ct := ct X.K) (C := 4) (fun _ => rfl) fx.w_x (by decide)).ox, _, _, ["self", "line", "place"], fx.I_BadText.at_, beq_iff_eq.mp fx.I_BadText.fn, fx.B_BadText, xi2_ok (k := 0) fx.D_BadText__init_ sc_BadText__init_ (by first | exact .inl rfl | exact .inr rfl) (by first | exact .inl rfl | exact .inr rfl) (by first | exact .inl rfl | exact .inr rfl) (xAll_ok (cn := cn) (ct := ct X.K) (C := 4) (fun _ => rfl) fx.w_x (by decide)).ox fx.n_BadText_line fx.n_BadText_place⟩
theorem sc_BadExpression__init_ : FnScope ["self", "what"] ["self", "what"] (defScope s_BadExpression__init_) := ⟨by kernel_rfl, by kernel_rfl, by kernel_rfl, by decide +kernel, rfl, by decide +kernel, by decide +kernel⟩
theorem xi_BadExpression {X : Cx} (fx : Fx X.K mg fd) (hmg : X.mg = mg) : XInit X (ct X.K) 5 [0] := by
  subst hmg
  exact ⟨(xAll_ok (cn := cn) (ct := ct X.K) (C := 5) (fun _ => rfl) fx.w_x (by decide)).ox, _, _, ["self", "what"], fx.I_BadExpression.at_, beq_iff_eq.mp fx.I_BadExpression.fn, fx.B_BadExpression, xi1_ok (k := 0) fx.D_BadExpression__init_ sc_BadExpression__init_ (by first | exact .inl rfl | exact .inr rfl) (by first | exact .inl rfl | exact .inr rfl) (xAll_ok (cn := cn) (ct := ct X.K) (C := 5) (fun _ => rfl) fx.w_x (by decide)).ox fx.n_BadExpression_what⟩
theorem sc_BadStep__init_ : FnScope ["self"] ["self"] (defScope s_BadStep__init_) := ⟨by kernel_rfl, by kernel_rfl, by kernel_rfl, by decide +kernel, rfl, by decide +kernel, by decide +kernel⟩
theorem xi_BadStep {X : Cx} (fx : Fx X.K mg fd) (hmg : X.mg = mg) : XInit X (ct X.K) 7 [] := by
  subst hmg
  obtain ⟨b1, b2, b3⟩ := binit_ok fx.w_bi
  refine ⟨(xAll_ok (cn := cn) (ct := ct X.K) (C := 7) (fun _ => rfl) fx.w_x (by decide)).ox, _, _, ["self"], fx.I_BadStep.at_, beq_iff_eq.mp fx.I_BadStep.fn, fx.B_BadStep, xi0_ok (k := 0) (t := tVeI X.K (tCons (tVar 0) (tCons (tC (.str "bad step")) tNil))) fx.D_BadStep__init_ sc_BadStep__init_ (fun _ => rfl) (fun cdv A outer s H E => ?_) ?_⟩
  · exact pe_binit (B := He.ga X.K "PressError") rfl fx.g_PressError b1 b2 b3 (pa_cons (pe_var (i := 0) rfl (by first | exact .inl rfl | exact .inr rfl)) (pa_cons pe_str pa_nil))
  · exact fun a H Q e3 e4 => ⟨.ref a, rfl, a, (ct X.K).ca 7, [.str _], rfl, by decide, (xAll_ok (cn := cn) (ct := ct X.K) (C := 7) (fun _ => rfl) fx.w_x (by decide)).ox, e3, e4⟩
theorem sc_BadEquation__init_ : FnScope ["self", "at", "what"] ["self", "at", "what"] (defScope s_BadEquation__init_) := ⟨by kernel_rfl, by kernel_rfl, by kernel_rfl, by decide +kernel, rfl, by decide +kernel, by decide +kernel⟩
theorem xi_BadEquation {X : Cx} (fx : Fx X.K mg fd) (hmg : X.mg = mg) : XInit X (ct X.K) 8 [3, 0] := by
  subst hmg
  exact ⟨(xAll_ok (cn := cn) (ct := ct X.K) (C := 8) (fun _ => rfl) fx.w_x (by decide)).ox, _, _, ["self", "at", "what"], fx.I_BadEquation.at_, beq_iff_eq.mp fx.I_BadEquation.fn, fx.B_BadEquation, xi2_ok (k := 0) fx.D_BadEquation__init_ sc_BadEquation__init_ (by first | exact .inl rfl | exact .inr rfl) (by first | exact .inl rfl | exact .inr rfl) (by first | exact .inl rfl | exact .inr rfl) (xAll_ok (cn := cn) (ct := ct X.K) (C := 8) (fun _ => rfl) fx.w_x (by decide)).ox fx.n_BadEquation_at fx.n_BadEquation_what⟩
theorem sc_Ended__init_ : FnScope ["self", "how"] ["self", "how"] (defScope s_Ended__init_) := ⟨by kernel_rfl, by kernel_rfl, by kernel_rfl, by decide +kernel, rfl, by decide +kernel, by decide +kernel⟩
theorem xi_Ended {X : Cx} (fx : Fx X.K mg fd) (hmg : X.mg = mg) : XInit X (ct X.K) 12 [4] := by
  subst hmg
  exact ⟨(xAll_ok (cn := cn) (ct := ct X.K) (C := 12) (fun _ => rfl) fx.w_x (by decide)).ox, _, _, ["self", "how"], fx.I_Ended.at_, beq_iff_eq.mp fx.I_Ended.fn, fx.B_Ended, xi1_ok (k := 0) fx.D_Ended__init_ sc_Ended__init_ (by first | exact .inl rfl | exact .inr rfl) (by first | exact .inl rfl | exact .inr rfl) (xAll_ok (cn := cn) (ct := ct X.K) (C := 12) (fun _ => rfl) fx.w_x (by decide)).ox fx.n_Ended_how⟩
theorem sc_NoBook__init_ : FnScope ["self", "number"] ["self", "number"] (defScope s_NoBook__init_) := ⟨by kernel_rfl, by kernel_rfl, by kernel_rfl, by decide +kernel, rfl, by decide +kernel, by decide +kernel⟩
theorem xi_NoBook {X : Cx} (fx : Fx X.K mg fd) (hmg : X.mg = mg) : XInit X (ct X.K) 13 [5] := by
  subst hmg
  exact ⟨(xAll_ok (cn := cn) (ct := ct X.K) (C := 13) (fun _ => rfl) fx.w_x (by decide)).ox, _, _, ["self", "number"], fx.I_NoBook.at_, beq_iff_eq.mp fx.I_NoBook.fn, fx.B_NoBook, xi1_ok (k := 0) fx.D_NoBook__init_ sc_NoBook__init_ (by first | exact .inl rfl | exact .inr rfl) (by first | exact .inl rfl | exact .inr rfl) (xAll_ok (cn := cn) (ct := ct X.K) (C := 13) (fun _ => rfl) fx.w_x (by decide)).ox fx.n_NoBook_number⟩
theorem sc_NotOpen__init_ : FnScope ["self", "number"] ["self", "number"] (defScope s_NotOpen__init_) := ⟨by kernel_rfl, by kernel_rfl, by kernel_rfl, by decide +kernel, rfl, by decide +kernel, by decide +kernel⟩
theorem xi_NotOpen {X : Cx} (fx : Fx X.K mg fd) (hmg : X.mg = mg) : XInit X (ct X.K) 14 [5] := by
  subst hmg
  exact ⟨(xAll_ok (cn := cn) (ct := ct X.K) (C := 14) (fun _ => rfl) fx.w_x (by decide)).ox, _, _, ["self", "number"], fx.I_NotOpen.at_, beq_iff_eq.mp fx.I_NotOpen.fn, fx.B_NotOpen, xi1_ok (k := 0) fx.D_NotOpen__init_ sc_NotOpen__init_ (by first | exact .inl rfl | exact .inr rfl) (by first | exact .inl rfl | exact .inr rfl) (xAll_ok (cn := cn) (ct := ct X.K) (C := 14) (fun _ => rfl) fx.w_x (by decide)).ox fx.n_NotOpen_number⟩
theorem sc_NotLooked__init_ : FnScope ["self", "number"] ["self", "number"] (defScope s_NotLooked__init_) := ⟨by kernel_rfl, by kernel_rfl, by kernel_rfl, by decide +kernel, rfl, by decide +kernel, by decide +kernel⟩
theorem xi_NotLooked {X : Cx} (fx : Fx X.K mg fd) (hmg : X.mg = mg) : XInit X (ct X.K) 15 [5] := by
  subst hmg
  exact ⟨(xAll_ok (cn := cn) (ct := ct X.K) (C := 15) (fun _ => rfl) fx.w_x (by decide)).ox, _, _, ["self", "number"], fx.I_NotLooked.at_, beq_iff_eq.mp fx.I_NotLooked.fn, fx.B_NotLooked, xi1_ok (k := 0) fx.D_NotLooked__init_ sc_NotLooked__init_ (by first | exact .inl rfl | exact .inr rfl) (by first | exact .inl rfl | exact .inr rfl) (xAll_ok (cn := cn) (ct := ct X.K) (C := 15) (fun _ => rfl) fx.w_x (by decide)).ox fx.n_NotLooked_number⟩
theorem sc_TooFull__init_ : FnScope ["self", "waiting"] ["self", "waiting"] (defScope s_TooFull__init_) := ⟨by kernel_rfl, by kernel_rfl, by kernel_rfl, by decide +kernel, rfl, by decide +kernel, by decide +kernel⟩
theorem xi_TooFull {X : Cx} (fx : Fx X.K mg fd) (hmg : X.mg = mg) : XInit X (ct X.K) 16 [6] := by
  subst hmg
  exact ⟨(xAll_ok (cn := cn) (ct := ct X.K) (C := 16) (fun _ => rfl) fx.w_x (by decide)).ox, _, _, ["self", "waiting"], fx.I_TooFull.at_, beq_iff_eq.mp fx.I_TooFull.fn, fx.B_TooFull, xi1_ok (k := 0) fx.D_TooFull__init_ sc_TooFull__init_ (by first | exact .inl rfl | exact .inr rfl) (by first | exact .inl rfl | exact .inr rfl) (xAll_ok (cn := cn) (ct := ct X.K) (C := 16) (fun _ => rfl) fx.w_x (by decide)).ox fx.n_TooFull_waiting⟩
theorem sc_NoHand__init_ : FnScope ["self", "hand"] ["self", "hand"] (defScope s_NoHand__init_) := ⟨by kernel_rfl, by kernel_rfl, by kernel_rfl, by decide +kernel, rfl, by decide +kernel, by decide +kernel⟩
theorem xi_NoHand {X : Cx} (fx : Fx X.K mg fd) (hmg : X.mg = mg) : XInit X (ct X.K) 18 [7] := by
  subst hmg
  exact ⟨(xAll_ok (cn := cn) (ct := ct X.K) (C := 18) (fun _ => rfl) fx.w_x (by decide)).ox, _, _, ["self", "hand"], fx.I_NoHand.at_, beq_iff_eq.mp fx.I_NoHand.fn, fx.B_NoHand, xi1_ok (k := 0) fx.D_NoHand__init_ sc_NoHand__init_ (by first | exact .inl rfl | exact .inr rfl) (by first | exact .inl rfl | exact .inr rfl) (xAll_ok (cn := cn) (ct := ct X.K) (C := 18) (fun _ => rfl) fx.w_x (by decide)).ox fx.n_NoHand_hand⟩
theorem sc_Busy__init_ : FnScope ["self", "hand"] ["self", "hand"] (defScope s_Busy__init_) := ⟨by kernel_rfl, by kernel_rfl, by kernel_rfl, by decide +kernel, rfl, by decide +kernel, by decide +kernel⟩
theorem xi_Busy {X : Cx} (fx : Fx X.K mg fd) (hmg : X.mg = mg) : XInit X (ct X.K) 19 [7] := by
  subst hmg
  exact ⟨(xAll_ok (cn := cn) (ct := ct X.K) (C := 19) (fun _ => rfl) fx.w_x (by decide)).ox, _, _, ["self", "hand"], fx.I_Busy.at_, beq_iff_eq.mp fx.I_Busy.fn, fx.B_Busy, xi1_ok (k := 0) fx.D_Busy__init_ sc_Busy__init_ (by first | exact .inl rfl | exact .inr rfl) (by first | exact .inl rfl | exact .inr rfl) (xAll_ok (cn := cn) (ct := ct X.K) (C := 19) (fun _ => rfl) fx.w_x (by decide)).ox fx.n_Busy_hand⟩
theorem sc_Idle__init_ : FnScope ["self", "hand"] ["self", "hand"] (defScope s_Idle__init_) := ⟨by kernel_rfl, by kernel_rfl, by kernel_rfl, by decide +kernel, rfl, by decide +kernel, by decide +kernel⟩
theorem xi_Idle {X : Cx} (fx : Fx X.K mg fd) (hmg : X.mg = mg) : XInit X (ct X.K) 20 [7] := by
  subst hmg
  exact ⟨(xAll_ok (cn := cn) (ct := ct X.K) (C := 20) (fun _ => rfl) fx.w_x (by decide)).ox, _, _, ["self", "hand"], fx.I_Idle.at_, beq_iff_eq.mp fx.I_Idle.fn, fx.B_Idle, xi1_ok (k := 0) fx.D_Idle__init_ sc_Idle__init_ (by first | exact .inl rfl | exact .inr rfl) (by first | exact .inl rfl | exact .inr rfl) (xAll_ok (cn := cn) (ct := ct X.K) (C := 20) (fun _ => rfl) fx.w_x (by decide)).ox fx.n_Idle_hand⟩
theorem sc_NoReport__init_ : FnScope ["self", "report"] ["self", "report"] (defScope s_NoReport__init_) := ⟨by kernel_rfl, by kernel_rfl, by kernel_rfl, by decide +kernel, rfl, by decide +kernel, by decide +kernel⟩
theorem xi_NoReport {X : Cx} (fx : Fx X.K mg fd) (hmg : X.mg = mg) : XInit X (ct X.K) 21 [8] := by
  subst hmg
  exact ⟨(xAll_ok (cn := cn) (ct := ct X.K) (C := 21) (fun _ => rfl) fx.w_x (by decide)).ox, _, _, ["self", "report"], fx.I_NoReport.at_, beq_iff_eq.mp fx.I_NoReport.fn, fx.B_NoReport, xi1_ok (k := 0) fx.D_NoReport__init_ sc_NoReport__init_ (by first | exact .inl rfl | exact .inr rfl) (by first | exact .inl rfl | exact .inr rfl) (xAll_ok (cn := cn) (ct := ct X.K) (C := 21) (fun _ => rfl) fx.w_x (by decide)).ox fx.n_NoReport_report⟩
theorem sc_BadGrammar__init_ : FnScope ["self", "at"] ["self", "at"] (defScope s_BadGrammar__init_) := ⟨by kernel_rfl, by kernel_rfl, by kernel_rfl, by decide +kernel, rfl, by decide +kernel, by decide +kernel⟩
theorem xi_BadGrammar {X : Cx} (fx : Fx X.K mg fd) (hmg : X.mg = mg) : XInit X (ct X.K) 22 [3] := by
  subst hmg
  exact ⟨(xAll_ok (cn := cn) (ct := ct X.K) (C := 22) (fun _ => rfl) fx.w_x (by decide)).ox, _, _, ["self", "at"], fx.I_BadGrammar.at_, beq_iff_eq.mp fx.I_BadGrammar.fn, fx.B_BadGrammar, xi1_ok (k := 0) fx.D_BadGrammar__init_ sc_BadGrammar__init_ (by first | exact .inl rfl | exact .inr rfl) (by first | exact .inl rfl | exact .inr rfl) (xAll_ok (cn := cn) (ct := ct X.K) (C := 22) (fun _ => rfl) fx.w_x (by decide)).ox fx.n_BadGrammar_at⟩
theorem sc_NoSymbol__init_ : FnScope ["self", "symbol"] ["self", "symbol"] (defScope s_NoSymbol__init_) := ⟨by kernel_rfl, by kernel_rfl, by kernel_rfl, by decide +kernel, rfl, by decide +kernel, by decide +kernel⟩
theorem xi_NoSymbol {X : Cx} (fx : Fx X.K mg fd) (hmg : X.mg = mg) : XInit X (ct X.K) 23 [9] := by
  subst hmg
  exact ⟨(xAll_ok (cn := cn) (ct := ct X.K) (C := 23) (fun _ => rfl) fx.w_x (by decide)).ox, _, _, ["self", "symbol"], fx.I_NoSymbol.at_, beq_iff_eq.mp fx.I_NoSymbol.fn, fx.B_NoSymbol, xi1_ok (k := 0) fx.D_NoSymbol__init_ sc_NoSymbol__init_ (by first | exact .inl rfl | exact .inr rfl) (by first | exact .inl rfl | exact .inr rfl) (xAll_ok (cn := cn) (ct := ct X.K) (C := 23) (fun _ => rfl) fx.w_x (by decide)).ox fx.n_NoSymbol_symbol⟩
theorem sc_NoSign__init_ : FnScope ["self", "at"] ["self", "at"] (defScope s_NoSign__init_) := ⟨by kernel_rfl, by kernel_rfl, by kernel_rfl, by decide +kernel, rfl, by decide +kernel, by decide +kernel⟩
theorem xi_NoSign {X : Cx} (fx : Fx X.K mg fd) (hmg : X.mg = mg) : XInit X (ct X.K) 24 [3] := by
  subst hmg
  exact ⟨(xAll_ok (cn := cn) (ct := ct X.K) (C := 24) (fun _ => rfl) fx.w_x (by decide)).ox, _, _, ["self", "at"], fx.I_NoSign.at_, beq_iff_eq.mp fx.I_NoSign.fn, fx.B_NoSign, xi1_ok (k := 0) fx.D_NoSign__init_ sc_NoSign__init_ (by first | exact .inl rfl | exact .inr rfl) (by first | exact .inl rfl | exact .inr rfl) (xAll_ok (cn := cn) (ct := ct X.K) (C := 24) (fun _ => rfl) fx.w_x (by decide)).ox fx.n_NoSign_at⟩
theorem sc_TooLong__init_ : FnScope ["self", "length"] ["self", "length"] (defScope s_TooLong__init_) := ⟨by kernel_rfl, by kernel_rfl, by kernel_rfl, by decide +kernel, rfl, by decide +kernel, by decide +kernel⟩
theorem xi_TooLong {X : Cx} (fx : Fx X.K mg fd) (hmg : X.mg = mg) : XInit X (ct X.K) 25 [10] := by
  subst hmg
  exact ⟨(xAll_ok (cn := cn) (ct := ct X.K) (C := 25) (fun _ => rfl) fx.w_x (by decide)).ox, _, _, ["self", "length"], fx.I_TooLong.at_, beq_iff_eq.mp fx.I_TooLong.fn, fx.B_TooLong, xi1_ok (k := 0) fx.D_TooLong__init_ sc_TooLong__init_ (by first | exact .inl rfl | exact .inr rfl) (by first | exact .inl rfl | exact .inr rfl) (xAll_ok (cn := cn) (ct := ct X.K) (C := 25) (fun _ => rfl) fx.w_x (by decide)).ox fx.n_TooLong_length⟩
theorem sc_NoCut__init_ : FnScope ["self", "begin", "end"] ["self", "begin", "end"] (defScope s_NoCut__init_) := ⟨by kernel_rfl, by kernel_rfl, by kernel_rfl, by decide +kernel, rfl, by decide +kernel, by decide +kernel⟩
theorem xi_NoCut {X : Cx} (fx : Fx X.K mg fd) (hmg : X.mg = mg) : XInit X (ct X.K) 27 [11, 12] := by
  subst hmg
  exact ⟨(xAll_ok (cn := cn) (ct := ct X.K) (C := 27) (fun _ => rfl) fx.w_x (by decide)).ox, _, _, ["self", "begin", "end"], fx.I_NoCut.at_, beq_iff_eq.mp fx.I_NoCut.fn, fx.B_NoCut, xi2_ok (k := 0) fx.D_NoCut__init_ sc_NoCut__init_ (by first | exact .inl rfl | exact .inr rfl) (by first | exact .inl rfl | exact .inr rfl) (by first | exact .inl rfl | exact .inr rfl) (xAll_ok (cn := cn) (ct := ct X.K) (C := 27) (fun _ => rfl) fx.w_x (by decide)).ox fx.n_NoCut_begin fx.n_NoCut_end⟩
theorem sc_BadFilling__init_ : FnScope ["self", "at"] ["self", "at"] (defScope s_BadFilling__init_) := ⟨by kernel_rfl, by kernel_rfl, by kernel_rfl, by decide +kernel, rfl, by decide +kernel, by decide +kernel⟩
theorem xi_BadFilling {X : Cx} (fx : Fx X.K mg fd) (hmg : X.mg = mg) : XInit X (ct X.K) 28 [3] := by
  subst hmg
  exact ⟨(xAll_ok (cn := cn) (ct := ct X.K) (C := 28) (fun _ => rfl) fx.w_x (by decide)).ox, _, _, ["self", "at"], fx.I_BadFilling.at_, beq_iff_eq.mp fx.I_BadFilling.fn, fx.B_BadFilling, xi1_ok (k := 0) fx.D_BadFilling__init_ sc_BadFilling__init_ (by first | exact .inl rfl | exact .inr rfl) (by first | exact .inl rfl | exact .inr rfl) (xAll_ok (cn := cn) (ct := ct X.K) (C := 28) (fun _ => rfl) fx.w_x (by decide)).ox fx.n_BadFilling_at⟩
theorem sc_NoName__init_ : FnScope ["self", "name"] ["self", "name"] (defScope s_NoName__init_) := ⟨by kernel_rfl, by kernel_rfl, by kernel_rfl, by decide +kernel, rfl, by decide +kernel, by decide +kernel⟩
theorem xi_NoName {X : Cx} (fx : Fx X.K mg fd) (hmg : X.mg = mg) : XInit X (ct X.K) 29 [13] := by
  subst hmg
  exact ⟨(xAll_ok (cn := cn) (ct := ct X.K) (C := 29) (fun _ => rfl) fx.w_x (by decide)).ox, _, _, ["self", "name"], fx.I_NoName.at_, beq_iff_eq.mp fx.I_NoName.fn, fx.B_NoName, xi1_ok (k := 0) fx.D_NoName__init_ sc_NoName__init_ (by first | exact .inl rfl | exact .inr rfl) (by first | exact .inl rfl | exact .inr rfl) (xAll_ok (cn := cn) (ct := ct X.K) (C := 29) (fun _ => rfl) fx.w_x (by decide)).ox fx.n_NoName_name⟩
theorem sc_NotShut__init_ : FnScope ["self"] ["self"] (defScope s_NotShut__init_) := ⟨by kernel_rfl, by kernel_rfl, by kernel_rfl, by decide +kernel, rfl, by decide +kernel, by decide +kernel⟩
theorem xi_NotShut {X : Cx} (fx : Fx X.K mg fd) (hmg : X.mg = mg) : XInit X (ct X.K) 30 [] := by
  subst hmg
  obtain ⟨b1, b2, b3⟩ := binit_ok fx.w_bi
  refine ⟨(xAll_ok (cn := cn) (ct := ct X.K) (C := 30) (fun _ => rfl) fx.w_x (by decide)).ox, _, _, ["self"], fx.I_NotShut.at_, beq_iff_eq.mp fx.I_NotShut.fn, fx.B_NotShut, xi0_ok (k := 0) (t := tVeI X.K (tCons (tVar 0) (tCons (tC (.str "the net is not shut")) tNil))) fx.D_NotShut__init_ sc_NotShut__init_ (fun _ => rfl) (fun cdv A outer s H E => ?_) ?_⟩
  · exact pe_binit (B := He.ga X.K "PressError") rfl fx.g_PressError b1 b2 b3 (pa_cons (pe_var (i := 0) rfl (by first | exact .inl rfl | exact .inr rfl)) (pa_cons pe_str pa_nil))
  · exact fun a H Q e3 e4 => ⟨.ref a, rfl, a, (ct X.K).ca 30, [.str _], rfl, by decide, (xAll_ok (cn := cn) (ct := ct X.K) (C := 30) (fun _ => rfl) fx.w_x (by decide)).ox, e3, e4⟩
theorem sc_OtherDeeds__init_ : FnScope ["self"] ["self"] (defScope s_OtherDeeds__init_) := ⟨by kernel_rfl, by kernel_rfl, by kernel_rfl, by decide +kernel, rfl, by decide +kernel, by decide +kernel⟩
theorem xi_OtherDeeds {X : Cx} (fx : Fx X.K mg fd) (hmg : X.mg = mg) : XInit X (ct X.K) 31 [] := by
  subst hmg
  obtain ⟨b1, b2, b3⟩ := binit_ok fx.w_bi
  refine ⟨(xAll_ok (cn := cn) (ct := ct X.K) (C := 31) (fun _ => rfl) fx.w_x (by decide)).ox, _, _, ["self"], fx.I_OtherDeeds.at_, beq_iff_eq.mp fx.I_OtherDeeds.fn, fx.B_OtherDeeds, xi0_ok (k := 0) (t := tVeI X.K (tCons (tVar 0) (tCons (tC (.str "the papers have different deeds")) tNil))) fx.D_OtherDeeds__init_ sc_OtherDeeds__init_ (fun _ => rfl) (fun cdv A outer s H E => ?_) ?_⟩
  · exact pe_binit (B := He.ga X.K "PressError") rfl fx.g_PressError b1 b2 b3 (pa_cons (pe_var (i := 0) rfl (by first | exact .inl rfl | exact .inr rfl)) (pa_cons pe_str pa_nil))
  · exact fun a H Q e3 e4 => ⟨.ref a, rfl, a, (ct X.K).ca 31, [.str _], rfl, by decide, (xAll_ok (cn := cn) (ct := ct X.K) (C := 31) (fun _ => rfl) fx.w_x (by decide)).ox, e3, e4⟩
theorem sc_BadPaperText__init_ : FnScope ["self"] ["self"] (defScope s_BadPaperText__init_) := ⟨by kernel_rfl, by kernel_rfl, by kernel_rfl, by decide +kernel, rfl, by decide +kernel, by decide +kernel⟩
theorem xi_BadPaperText {X : Cx} (fx : Fx X.K mg fd) (hmg : X.mg = mg) : XInit X (ct X.K) 32 [] := by
  subst hmg
  obtain ⟨b1, b2, b3⟩ := binit_ok fx.w_bi
  refine ⟨(xAll_ok (cn := cn) (ct := ct X.K) (C := 32) (fun _ => rfl) fx.w_x (by decide)).ox, _, _, ["self"], fx.I_BadPaperText.at_, beq_iff_eq.mp fx.I_BadPaperText.fn, fx.B_BadPaperText, xi0_ok (k := 0) (t := tVeI X.K (tCons (tVar 0) (tCons (tC (.str "no paper has this text")) tNil))) fx.D_BadPaperText__init_ sc_BadPaperText__init_ (fun _ => rfl) (fun cdv A outer s H E => ?_) ?_⟩
  · exact pe_binit (B := He.ga X.K "PressError") rfl fx.g_PressError b1 b2 b3 (pa_cons (pe_var (i := 0) rfl (by first | exact .inl rfl | exact .inr rfl)) (pa_cons pe_str pa_nil))
  · exact fun a H Q e3 e4 => ⟨.ref a, rfl, a, (ct X.K).ca 32, [.str _], rfl, by decide, (xAll_ok (cn := cn) (ct := ct X.K) (C := 32) (fun _ => rfl) fx.w_x (by decide)).ox, e3, e4⟩
theorem sc_TooWide__init_ : FnScope ["self", "what"] ["self", "what"] (defScope s_TooWide__init_) := ⟨by kernel_rfl, by kernel_rfl, by kernel_rfl, by decide +kernel, rfl, by decide +kernel, by decide +kernel⟩
theorem xi_TooWide {X : Cx} (fx : Fx X.K mg fd) (hmg : X.mg = mg) : XInit X (ct X.K) 33 [0] := by
  subst hmg
  exact ⟨(xAll_ok (cn := cn) (ct := ct X.K) (C := 33) (fun _ => rfl) fx.w_x (by decide)).ox, _, _, ["self", "what"], fx.I_TooWide.at_, beq_iff_eq.mp fx.I_TooWide.fn, fx.B_TooWide, xi1_ok (k := 0) fx.D_TooWide__init_ sc_TooWide__init_ (by first | exact .inl rfl | exact .inr rfl) (by first | exact .inl rfl | exact .inr rfl) (xAll_ok (cn := cn) (ct := ct X.K) (C := 33) (fun _ => rfl) fx.w_x (by decide)).ox fx.n_TooWide_what⟩
theorem sc_BadScript__init_ : FnScope ["self", "what", "road"] ["self", "what", "road"] (defScope s_BadScript__init_) := ⟨by kernel_rfl, by kernel_rfl, by kernel_rfl, by decide +kernel, rfl, by decide +kernel, by decide +kernel⟩
theorem xi_BadScript {X : Cx} (fx : Fx X.K mg fd) (hmg : X.mg = mg) : XInit X (ct X.K) 34 [0, 14] := by
  subst hmg
  exact ⟨(xAll_ok (cn := cn) (ct := ct X.K) (C := 34) (fun _ => rfl) fx.w_x (by decide)).ox, _, _, ["self", "what", "road"], fx.I_BadScript.at_, beq_iff_eq.mp fx.I_BadScript.fn, fx.B_BadScript, xi2_ok (k := 0) fx.D_BadScript__init_ sc_BadScript__init_ (by first | exact .inl rfl | exact .inr rfl) (by first | exact .inl rfl | exact .inr rfl) (by first | exact .inl rfl | exact .inr rfl) (xAll_ok (cn := cn) (ct := ct X.K) (C := 34) (fun _ => rfl) fx.w_x (by decide)).ox fx.n_BadScript_what fx.n_BadScript_road⟩
theorem sc_ShortInputs__init_ : FnScope ["self", "used"] ["self", "used"] (defScope s_ShortInputs__init_) := ⟨by kernel_rfl, by kernel_rfl, by kernel_rfl, by decide +kernel, rfl, by decide +kernel, by decide +kernel⟩
theorem xi_ShortInputs {X : Cx} (fx : Fx X.K mg fd) (hmg : X.mg = mg) : XInit X (ct X.K) 35 [15] := by
  subst hmg
  exact ⟨(xAll_ok (cn := cn) (ct := ct X.K) (C := 35) (fun _ => rfl) fx.w_x (by decide)).ox, _, _, ["self", "used"], fx.I_ShortInputs.at_, beq_iff_eq.mp fx.I_ShortInputs.fn, fx.B_ShortInputs, xi1_ok (k := 0) fx.D_ShortInputs__init_ sc_ShortInputs__init_ (by first | exact .inl rfl | exact .inr rfl) (by first | exact .inl rfl | exact .inr rfl) (xAll_ok (cn := cn) (ct := ct X.K) (C := 35) (fun _ => rfl) fx.w_x (by decide)).ox fx.n_ShortInputs_used⟩
theorem sc_NoIf__init_ : FnScope ["self", "road"] ["self", "road"] (defScope s_NoIf__init_) := ⟨by kernel_rfl, by kernel_rfl, by kernel_rfl, by decide +kernel, rfl, by decide +kernel, by decide +kernel⟩
theorem xi_NoIf {X : Cx} (fx : Fx X.K mg fd) (hmg : X.mg = mg) : XInit X (ct X.K) 36 [14] := by
  subst hmg
  exact ⟨(xAll_ok (cn := cn) (ct := ct X.K) (C := 36) (fun _ => rfl) fx.w_x (by decide)).ox, _, _, ["self", "road"], fx.I_NoIf.at_, beq_iff_eq.mp fx.I_NoIf.fn, fx.B_NoIf, xi1_ok (k := 0) fx.D_NoIf__init_ sc_NoIf__init_ (by first | exact .inl rfl | exact .inr rfl) (by first | exact .inl rfl | exact .inr rfl) (xAll_ok (cn := cn) (ct := ct X.K) (C := 36) (fun _ => rfl) fx.w_x (by decide)).ox fx.n_NoIf_road⟩
theorem sc_NoWay__init_ : FnScope ["self", "turns"] ["self", "turns"] (defScope s_NoWay__init_) := ⟨by kernel_rfl, by kernel_rfl, by kernel_rfl, by decide +kernel, rfl, by decide +kernel, by decide +kernel⟩
theorem xi_NoWay {X : Cx} (fx : Fx X.K mg fd) (hmg : X.mg = mg) : XInit X (ct X.K) 37 [16] := by
  subst hmg
  exact ⟨(xAll_ok (cn := cn) (ct := ct X.K) (C := 37) (fun _ => rfl) fx.w_x (by decide)).ox, _, _, ["self", "turns"], fx.I_NoWay.at_, beq_iff_eq.mp fx.I_NoWay.fn, fx.B_NoWay, xi1_ok (k := 0) fx.D_NoWay__init_ sc_NoWay__init_ (by first | exact .inl rfl | exact .inr rfl) (by first | exact .inl rfl | exact .inr rfl) (xAll_ok (cn := cn) (ct := ct X.K) (C := 37) (fun _ => rfl) fx.w_x (by decide)).ox fx.n_NoWay_turns⟩
theorem sc_BadDeed__init_ : FnScope ["self", "what"] ["self", "what"] (defScope s_BadDeed__init_) := ⟨by kernel_rfl, by kernel_rfl, by kernel_rfl, by decide +kernel, rfl, by decide +kernel, by decide +kernel⟩
theorem xi_BadDeed {X : Cx} (fx : Fx X.K mg fd) (hmg : X.mg = mg) : XInit X (ct X.K) 39 [0] := by
  subst hmg
  exact ⟨(xAll_ok (cn := cn) (ct := ct X.K) (C := 39) (fun _ => rfl) fx.w_x (by decide)).ox, _, _, ["self", "what"], fx.I_BadDeed.at_, beq_iff_eq.mp fx.I_BadDeed.fn, fx.B_BadDeed, xi1_ok (k := 0) fx.D_BadDeed__init_ sc_BadDeed__init_ (by first | exact .inl rfl | exact .inr rfl) (by first | exact .inl rfl | exact .inr rfl) (xAll_ok (cn := cn) (ct := ct X.K) (C := 39) (fun _ => rfl) fx.w_x (by decide)).ox fx.n_BadDeed_what⟩
theorem sc_NoPaper__init_ : FnScope ["self", "at"] ["self", "at"] (defScope s_NoPaper__init_) := ⟨by kernel_rfl, by kernel_rfl, by kernel_rfl, by decide +kernel, rfl, by decide +kernel, by decide +kernel⟩
theorem xi_NoPaper {X : Cx} (fx : Fx X.K mg fd) (hmg : X.mg = mg) : XInit X (ct X.K) 45 [3] := by
  subst hmg
  exact ⟨(xAll_ok (cn := cn) (ct := ct X.K) (C := 45) (fun _ => rfl) fx.w_x (by decide)).ox, _, _, ["self", "at"], fx.I_NoPaper.at_, beq_iff_eq.mp fx.I_NoPaper.fn, fx.B_NoPaper, xi1_ok (k := 0) fx.D_NoPaper__init_ sc_NoPaper__init_ (by first | exact .inl rfl | exact .inr rfl) (by first | exact .inl rfl | exact .inr rfl) (xAll_ok (cn := cn) (ct := ct X.K) (C := 45) (fun _ => rfl) fx.w_x (by decide)).ox fx.n_NoPaper_at⟩
theorem sc_NoStatement__init_ : FnScope ["self", "road"] ["self", "road"] (defScope s_NoStatement__init_) := ⟨by kernel_rfl, by kernel_rfl, by kernel_rfl, by decide +kernel, rfl, by decide +kernel, by decide +kernel⟩
theorem xi_NoStatement {X : Cx} (fx : Fx X.K mg fd) (hmg : X.mg = mg) : XInit X (ct X.K) 47 [14] := by
  subst hmg
  exact ⟨(xAll_ok (cn := cn) (ct := ct X.K) (C := 47) (fun _ => rfl) fx.w_x (by decide)).ox, _, _, ["self", "road"], fx.I_NoStatement.at_, beq_iff_eq.mp fx.I_NoStatement.fn, fx.B_NoStatement, xi1_ok (k := 0) fx.D_NoStatement__init_ sc_NoStatement__init_ (by first | exact .inl rfl | exact .inr rfl) (by first | exact .inl rfl | exact .inr rfl) (xAll_ok (cn := cn) (ct := ct X.K) (C := 47) (fun _ => rfl) fx.w_x (by decide)).ox fx.n_NoStatement_road⟩
abbrev N__law_source : List Str := ["_law_script"]
theorem sc__law_source : FnScope N__law_source ["_law_script"] (defScope s__law_source) := ⟨by kernel_rfl, by kernel_rfl, by kernel_rfl, by decide +kernel, rfl, by decide +kernel, by decide +kernel⟩
theorem t__law_source (fx : Fx K mg fd) (call : CallT) (n : Nat) (cdv : Value) (A : Around) (outer : List Env) (s : Shared) (H : Hp) (E : XK) (c : Cq (cxOf (L2.CX P w) P w K mg base N__law_source "_law_source" (defScope s__law_source) (He.fAd K d__law_source.at_) cdv A outer s H E) (ct K) (fns K fd) call n) :
    SSs (cxOf (L2.CX P w) P w K mg base N__law_source "_law_source" (defScope s__law_source) (He.fAd K d__law_source.at_) cdv A outer s H E) (ct K) (fun c d _ H' => E c d H') (defBody s__law_source) (m__law_source call) := by
  have tk : Takes (cxOf (L2.CX P w) P w K mg base N__law_source "_law_source" (defScope s__law_source) (He.fAd K d__law_source.at_) cdv A outer s H E) (fun cls d _ H' => E cls d H') := takes_of rfl rfl rfl rfl
  have nd := sc__law_source.nd
  have po : PassesOwn (model P w) (cxOf (L2.CX P w) P w K mg base N__law_source "_law_source" (defScope s__law_source) (He.fAd K d__law_source.at_) cdv A outer s H E).A (cxOf (L2.CX P w) P w K mg base N__law_source "_law_source" (defScope s__law_source) (He.fAd K d__law_source.at_) cdv A outer s H E).env (cxOf (L2.CX P w) P w K mg base N__law_source "_law_source" (defScope s__law_source) (He.fAd K d__law_source.at_) cdv A outer s H E).xe := passes_of rfl
  exact (sss_one (ss_ret' (se_lst (sa_cons (se_callTy listV_sound rfl fx.f_list (by decide +kernel) (sa_cons (se_var 0) sa_nil)) (sa_cons se_int (sa_cons se_int (sa_cons se_int sa_nil)))))))
theorem b__law_source (fx : Fx K mg fd) : BodyOk P w K mg base (ct K) (fns K fd) ⟨He.fAd K d__law_source.at_, fd 0, ["_law_script"]⟩ ⟨1, 1, true, m__law_source⟩ :=
  ⟨_, "_law_source", _, _, _, _, _, N__law_source, fx.D__law_source, sc__law_source, rfl, rfl, by decide, fun call n co cdv A outer s H E hr => t__law_source fx call n cdv A outer s H E ⟨co, hr⟩⟩
abbrev N__law_take : List Str := ["_law_source_here", "_law_many", "_law_cell", "_law_mixed", "_law_told"]
theorem sc__law_take : FnScope N__law_take ["_law_source_here", "_law_many"] (defScope s__law_take) := ⟨by kernel_rfl, by kernel_rfl, by kernel_rfl, by decide +kernel, rfl, by decide +kernel, by decide +kernel⟩
theorem t__law_take (fx : Fx K mg fd) (call : CallT) (n : Nat) (cdv : Value) (A : Around) (outer : List Env) (s : Shared) (H : Hp) (E : XK) (c : Cq (cxOf (L2.CX P w) P w K mg base N__law_take "_law_take" (defScope s__law_take) (He.fAd K d__law_take.at_) cdv A outer s H E) (ct K) (fns K fd) call n) :
    SSs (cxOf (L2.CX P w) P w K mg base N__law_take "_law_take" (defScope s__law_take) (He.fAd K d__law_take.at_) cdv A outer s H E) (ct K) (fun c d _ H' => E c d H') (defBody s__law_take) (m__law_take call) := by
  have tk : Takes (cxOf (L2.CX P w) P w K mg base N__law_take "_law_take" (defScope s__law_take) (He.fAd K d__law_take.at_) cdv A outer s H E) (fun cls d _ H' => E cls d H') := takes_of rfl rfl rfl rfl
  have nd := sc__law_take.nd
  have po : PassesOwn (model P w) (cxOf (L2.CX P w) P w K mg base N__law_take "_law_take" (defScope s__law_take) (He.fAd K d__law_take.at_) cdv A outer s H E).A (cxOf (L2.CX P w) P w K mg base N__law_take "_law_take" (defScope s__law_take) (He.fAd K d__law_take.at_) cdv A outer s H E).env (cxOf (L2.CX P w) P w K mg base N__law_take "_law_take" (defScope s__law_take) (He.fAd K d__law_take.at_) cdv A outer s H E).xe := passes_of rfl
  exact (sss_cons (ss_if (st_cmp eqF_sound (se_ix ix_sound (se_var 0) se_int) se_int)
      (sss_cons (ss_set nd (i := 2) rfl (by first | exact .inl rfl | exact .inr rfl) se_int)
      (sss_cons (ss_if (st_cmp lt_sound (se_ix ix_sound (se_var 0) se_int) (se_callB len_sound rfl fx.f_len (by decide +kernel) (sa_cons (se_ix ix_sound (se_var 0) se_int) sa_nil)))
      (sss_one (ss_set nd (i := 2) rfl (by first | exact .inl rfl | exact .inr rfl) (se_ix ix_sound (se_ix ix_sound (se_var 0) se_int) (se_ix ix_sound (se_var 0) se_int))))
      sss_nil)
      (sss_cons (ss_asg (se_bin add_sound (se_ix ix_sound (se_var 0) se_int) se_int) (sg_store (se_var 0) se_int))
      (sss_one (ss_if (st_cmp ge_sound (se_var 2) (se_bin pow_sound se_int se_int))
      (sss_one (ss_asg (se_var 2) (sg_store (se_var 0) se_int)))
      (sss_cons (ss_set nd (i := 3) rfl (by first | exact .inl rfl | exact .inr rfl) (se_bin mod_sound (se_callTy int_sound rfl fx.f_int (by decide +kernel) (sa_cons (se_bin add_sound (se_bin add_sound (se_bin add_sound (se_bin mulI_sound (se_ix ix_sound (se_var 0) se_int) se_int) (se_bin mulI_sound (se_bin mod_sound (se_callTy int_sound rfl fx.f_int (by decide +kernel) (sa_cons (se_var 2) sa_nil)) se_int) se_int)) (se_bin mulI_sound (se_ix ix_sound (se_var 0) se_int) se_int)) se_int) sa_nil)) se_int))
      (sss_cons (ss_set nd (i := 3) rfl (by first | exact .inl rfl | exact .inr rfl) (se_bin mod_sound (se_callTy int_sound rfl fx.f_int (by decide +kernel) (sa_cons (se_bin add_sound (se_bin add_sound (se_bin mulI_sound (se_var 3) (se_var 3)) (se_bin mulI_sound (se_ix ix_sound (se_var 0) se_int) se_int)) se_int) sa_nil)) se_int))
      (sss_cons (ss_asg (se_var 3) (sg_store (se_var 0) se_int))
      (sss_one (ss_ret' (se_bin mod_sound (se_bin div_sound (se_var 3) se_int) (se_var 1))))))))))))
      sss_nil)
      (sss_cons (ss_set nd (i := 4) rfl (by first | exact .inl rfl | exact .inr rfl) (se_bin mod_sound (se_callTy int_sound rfl fx.f_int (by decide +kernel) (sa_cons (se_ix ix_sound (se_var 0) se_int) sa_nil)) (se_var 1)))
      (sss_cons (ss_asg (se_bin div_sound (se_ix ix_sound (se_var 0) se_int) (se_var 1)) (sg_store (se_var 0) se_int))
      (sss_one (ss_ret' (se_var 4))))))
theorem b__law_take (fx : Fx K mg fd) : BodyOk P w K mg base (ct K) (fns K fd) ⟨He.fAd K d__law_take.at_, fd 1, ["_law_source_here", "_law_many"]⟩ ⟨2, 5, false, m__law_take⟩ :=
  ⟨_, "_law_take", _, _, _, _, _, N__law_take, fx.D__law_take, sc__law_take, rfl, rfl, by decide, fun call n co cdv A outer s H E hr => t__law_take fx call n cdv A outer s H E ⟨co, hr⟩⟩
abbrev N__law_pick : List Str := ["_law_source_here", "_law_things"]
theorem sc__law_pick : FnScope N__law_pick ["_law_source_here", "_law_things"] (defScope s__law_pick) := ⟨by kernel_rfl, by kernel_rfl, by kernel_rfl, by decide +kernel, rfl, by decide +kernel, by decide +kernel⟩
theorem t__law_pick (fx : Fx K mg fd) (call : CallT) (n : Nat) (cdv : Value) (A : Around) (outer : List Env) (s : Shared) (H : Hp) (E : XK) (c : Cq (cxOf (L2.CX P w) P w K mg base N__law_pick "_law_pick" (defScope s__law_pick) (He.fAd K d__law_pick.at_) cdv A outer s H E) (ct K) (fns K fd) call n) :
    SSs (cxOf (L2.CX P w) P w K mg base N__law_pick "_law_pick" (defScope s__law_pick) (He.fAd K d__law_pick.at_) cdv A outer s H E) (ct K) (fun c d _ H' => E c d H') (defBody s__law_pick) (m__law_pick call) := by
  have tk : Takes (cxOf (L2.CX P w) P w K mg base N__law_pick "_law_pick" (defScope s__law_pick) (He.fAd K d__law_pick.at_) cdv A outer s H E) (fun cls d _ H' => E cls d H') := takes_of rfl rfl rfl rfl
  have nd := sc__law_pick.nd
  have po : PassesOwn (model P w) (cxOf (L2.CX P w) P w K mg base N__law_pick "_law_pick" (defScope s__law_pick) (He.fAd K d__law_pick.at_) cdv A outer s H E).A (cxOf (L2.CX P w) P w K mg base N__law_pick "_law_pick" (defScope s__law_pick) (He.fAd K d__law_pick.at_) cdv A outer s H E).env (cxOf (L2.CX P w) P w K mg base N__law_pick "_law_pick" (defScope s__law_pick) (He.fAd K d__law_pick.at_) cdv A outer s H E).xe := passes_of rfl
  exact (sss_one (ss_ret' (se_ix ix_sound (se_var 1) (sc_call ⟨c.co, c.ro⟩ tk fx.i__law_take fx.g__law_take rfl rfl (sa_cons (se_var 0) (sa_cons (se_callB len_sound rfl fx.f_len (by decide +kernel) (sa_cons (se_var 1) sa_nil)) sa_nil))))))
theorem b__law_pick (fx : Fx K mg fd) : BodyOk P w K mg base (ct K) (fns K fd) ⟨He.fAd K d__law_pick.at_, fd 2, ["_law_source_here", "_law_things"]⟩ ⟨2, 2, false, m__law_pick⟩ :=
  ⟨_, "_law_pick", _, _, _, _, _, N__law_pick, fx.D__law_pick, sc__law_pick, rfl, rfl, by decide, fun call n co cdv A outer s H E hr => t__law_pick fx call n cdv A outer s H E ⟨co, hr⟩⟩
abbrev N__law_text : List Str := ["_law_source_here", "_law_k"]
theorem sc__law_text : FnScope N__law_text ["_law_source_here"] (defScope s__law_text) := ⟨by kernel_rfl, by kernel_rfl, by kernel_rfl, by decide +kernel, rfl, by decide +kernel, by decide +kernel⟩
theorem t__law_text (fx : Fx K mg fd) (call : CallT) (n : Nat) (cdv : Value) (A : Around) (outer : List Env) (s : Shared) (H : Hp) (E : XK) (c : Cq (cxOf (L2.CX P w) P w K mg base N__law_text "_law_text" (defScope s__law_text) (He.fAd K d__law_text.at_) cdv A outer s H E) (ct K) (fns K fd) call n) :
    SSs (cxOf (L2.CX P w) P w K mg base N__law_text "_law_text" (defScope s__law_text) (He.fAd K d__law_text.at_) cdv A outer s H E) (ct K) (fun c d _ H' => E c d H') (defBody s__law_text) (m__law_text call) := by
  have tk : Takes (cxOf (L2.CX P w) P w K mg base N__law_text "_law_text" (defScope s__law_text) (He.fAd K d__law_text.at_) cdv A outer s H E) (fun cls d _ H' => E cls d H') := takes_of rfl rfl rfl rfl
  have nd := sc__law_text.nd
  have po : PassesOwn (model P w) (cxOf (L2.CX P w) P w K mg base N__law_text "_law_text" (defScope s__law_text) (He.fAd K d__law_text.at_) cdv A outer s H E).A (cxOf (L2.CX P w) P w K mg base N__law_text "_law_text" (defScope s__law_text) (He.fAd K d__law_text.at_) cdv A outer s H E).env (cxOf (L2.CX P w) P w K mg base N__law_text "_law_text" (defScope s__law_text) (He.fAd K d__law_text.at_) cdv A outer s H E).xe := passes_of rfl
  exact (sss_one (ss_ret' (se_join se_str (se_lc false rfl nd (si_rng1 rfl fx.f_range (sa_cons (sc_call ⟨c.co, c.ro⟩ tk fx.i__law_take fx.g__law_take rfl rfl (sa_cons (se_var 0) (sa_cons se_int sa_nil))) sa_nil)) (own := [("_law_k", 1)]) (blkOk_by (by first | decide +kernel | kernel_rfl)) rfl (fun _ _ _ _ _ => (sgc_name nd (i := 1) rfl (by first | exact .inl rfl | exact .inr rfl) (by decide))) (fun _ _ _ _ _ => spt_nil) (fun _ _ _ _ _ => (se_ix ix_sound se_str (sc_call ⟨c.co, c.ro⟩ takesW fx.i__law_take fx.g__law_take rfl rfl (sa_cons (se_var 0) (sa_cons se_int sa_nil)))))))))
theorem b__law_text (fx : Fx K mg fd) : BodyOk P w K mg base (ct K) (fns K fd) ⟨He.fAd K d__law_text.at_, fd 3, ["_law_source_here"]⟩ ⟨1, 2, false, m__law_text⟩ :=
  ⟨_, "_law_text", _, _, _, _, _, N__law_text, fx.D__law_text, sc__law_text, rfl, rfl, by decide, fun call n co cdv A outer s H E hr => t__law_text fx call n cdv A outer s H E ⟨co, hr⟩⟩
abbrev N__law_thing : List Str := ["_law_source_here"]
theorem sc__law_thing : FnScope N__law_thing ["_law_source_here"] (defScope s__law_thing) := ⟨by kernel_rfl, by kernel_rfl, by kernel_rfl, by decide +kernel, rfl, by decide +kernel, by decide +kernel⟩
theorem t__law_thing (fx : Fx K mg fd) (call : CallT) (n : Nat) (cdv : Value) (A : Around) (outer : List Env) (s : Shared) (H : Hp) (E : XK) (c : Cq (cxOf (L2.CX P w) P w K mg base N__law_thing "_law_thing" (defScope s__law_thing) (He.fAd K d__law_thing.at_) cdv A outer s H E) (ct K) (fns K fd) call n) :
    SSs (cxOf (L2.CX P w) P w K mg base N__law_thing "_law_thing" (defScope s__law_thing) (He.fAd K d__law_thing.at_) cdv A outer s H E) (ct K) (fun c d _ H' => E c d H') (defBody s__law_thing) (m__law_thing call) := by
  have tk : Takes (cxOf (L2.CX P w) P w K mg base N__law_thing "_law_thing" (defScope s__law_thing) (He.fAd K d__law_thing.at_) cdv A outer s H E) (fun cls d _ H' => E cls d H') := takes_of rfl rfl rfl rfl
  have nd := sc__law_thing.nd
  have po : PassesOwn (model P w) (cxOf (L2.CX P w) P w K mg base N__law_thing "_law_thing" (defScope s__law_thing) (He.fAd K d__law_thing.at_) cdv A outer s H E).A (cxOf (L2.CX P w) P w K mg base N__law_thing "_law_thing" (defScope s__law_thing) (He.fAd K d__law_thing.at_) cdv A outer s H E).env (cxOf (L2.CX P w) P w K mg base N__law_thing "_law_thing" (defScope s__law_thing) (He.fAd K d__law_thing.at_) cdv A outer s H E).xe := passes_of rfl
  exact (sss_one (ss_ret' (sc_call ⟨c.co, c.ro⟩ tk fx.i__law_pick fx.g__law_pick rfl rfl (sa_cons (se_var 0) (sa_cons (se_lv (sa_cons (se_bin sub_sound (sc_call ⟨c.co, c.ro⟩ tk fx.i__law_take fx.g__law_take rfl rfl (sa_cons (se_var 0) (sa_cons (se_bin pow_sound se_int se_int) sa_nil))) (se_bin pow_sound se_int se_int)) (sa_cons (sc_call ⟨c.co, c.ro⟩ tk fx.i__law_text fx.g__law_text rfl rfl (sa_cons (se_var 0) sa_nil)) (sa_cons se_non (sa_cons (se_tup (sa_cons (sc_call ⟨c.co, c.ro⟩ tk fx.i__law_take fx.g__law_take rfl rfl (sa_cons (se_var 0) (sa_cons se_int sa_nil))) (sa_cons se_int sa_nil))) (sa_cons (se_tup sa_nil) sa_nil)))))) sa_nil)))))
theorem b__law_thing (fx : Fx K mg fd) : BodyOk P w K mg base (ct K) (fns K fd) ⟨He.fAd K d__law_thing.at_, fd 4, ["_law_source_here"]⟩ ⟨1, 1, false, m__law_thing⟩ :=
  ⟨_, "_law_thing", _, _, _, _, _, N__law_thing, fx.D__law_thing, sc__law_thing, rfl, rfl, by decide, fun call n co cdv A outer s H E hr => t__law_thing fx call n cdv A outer s H E ⟨co, hr⟩⟩
abbrev N__law_bare : List Str := []
theorem sc__law_bare : FnScope N__law_bare [] (defScope s__law_bare) := ⟨by kernel_rfl, by kernel_rfl, by kernel_rfl, by decide +kernel, rfl, by decide +kernel, by decide +kernel⟩
theorem t__law_bare (fx : Fx K mg fd) (call : CallT) (n : Nat) (cdv : Value) (A : Around) (outer : List Env) (s : Shared) (H : Hp) (E : XK) (c : Cq (cxOf (L2.CX P w) P w K mg base N__law_bare "_law_bare" (defScope s__law_bare) (He.fAd K d__law_bare.at_) cdv A outer s H E) (ct K) (fns K fd) call n) :
    SSs (cxOf (L2.CX P w) P w K mg base N__law_bare "_law_bare" (defScope s__law_bare) (He.fAd K d__law_bare.at_) cdv A outer s H E) (ct K) (fun c d _ H' => E c d H') (defBody s__law_bare) (m__law_bare call) := by
  have tk : Takes (cxOf (L2.CX P w) P w K mg base N__law_bare "_law_bare" (defScope s__law_bare) (He.fAd K d__law_bare.at_) cdv A outer s H E) (fun cls d _ H' => E cls d H') := takes_of rfl rfl rfl rfl
  have nd := sc__law_bare.nd
  have po : PassesOwn (model P w) (cxOf (L2.CX P w) P w K mg base N__law_bare "_law_bare" (defScope s__law_bare) (He.fAd K d__law_bare.at_) cdv A outer s H E).A (cxOf (L2.CX P w) P w K mg base N__law_bare "_law_bare" (defScope s__law_bare) (He.fAd K d__law_bare.at_) cdv A outer s H E).env (cxOf (L2.CX P w) P w K mg base N__law_bare "_law_bare" (defScope s__law_bare) (He.fAd K d__law_bare.at_) cdv A outer s H E).xe := passes_of rfl
  exact (sss_one (ss_ret' (se_lv (sa_cons (se_tup (sa_cons se_int (sa_cons (se_exb (bare_ok (fun _ => rfl) fx.w_b (C := 2) (by decide)).1 (bare_ok (fun _ => rfl) fx.w_b (C := 2) (by decide)).2 fx.g_BadLetters rfl) sa_nil))) (sa_cons (se_tup (sa_cons se_int (sa_cons (se_exb (bare_ok (fun _ => rfl) fx.w_b (C := 6) (by decide)).1 (bare_ok (fun _ => rfl) fx.w_b (C := 6) (by decide)).2 fx.g_TooMany rfl) sa_nil))) (sa_cons (se_tup (sa_cons se_int (sa_cons (se_exi0 (xi_BadStep fx rfl) (ro2 c.ro) rfl fx.g_BadStep) sa_nil))) (sa_cons (se_tup (sa_cons se_int (sa_cons (se_exb (bare_ok (fun _ => rfl) fx.w_b (C := 9) (by decide)).1 (bare_ok (fun _ => rfl) fx.w_b (C := 9) (by decide)).2 fx.g_BadOrder rfl) sa_nil))) (sa_cons (se_tup (sa_cons se_int (sa_cons (se_exb (bare_ok (fun _ => rfl) fx.w_b (C := 10) (by decide)).1 (bare_ok (fun _ => rfl) fx.w_b (C := 10) (by decide)).2 fx.g_BadRoom rfl) sa_nil))) (sa_cons (se_tup (sa_cons se_int (sa_cons (se_exb (bare_ok (fun _ => rfl) fx.w_b (C := 11) (by decide)).1 (bare_ok (fun _ => rfl) fx.w_b (C := 11) (by decide)).2 fx.g_NotFilled rfl) sa_nil))) (sa_cons (se_tup (sa_cons se_int (sa_cons (se_exb (bare_ok (fun _ => rfl) fx.w_b (C := 17) (by decide)).1 (bare_ok (fun _ => rfl) fx.w_b (C := 17) (by decide)).2 fx.g_BadMany rfl) sa_nil))) (sa_cons (se_tup (sa_cons se_int (sa_cons (se_exb (bare_ok (fun _ => rfl) fx.w_b (C := 26) (by decide)).1 (bare_ok (fun _ => rfl) fx.w_b (C := 26) (by decide)).2 fx.g_EmptyWord rfl) sa_nil))) (sa_cons (se_tup (sa_cons se_int (sa_cons (se_exi0 (xi_NotShut fx rfl) (ro2 c.ro) rfl fx.g_NotShut) sa_nil))) (sa_cons (se_tup (sa_cons se_int (sa_cons (se_exi0 (xi_OtherDeeds fx rfl) (ro2 c.ro) rfl fx.g_OtherDeeds) sa_nil))) (sa_cons (se_tup (sa_cons se_int (sa_cons (se_exi0 (xi_BadPaperText fx rfl) (ro2 c.ro) rfl fx.g_BadPaperText) sa_nil))) (sa_cons (se_tup (sa_cons se_int (sa_cons (se_exb (bare_ok (fun _ => rfl) fx.w_b (C := 38) (by decide)).1 (bare_ok (fun _ => rfl) fx.w_b (C := 38) (by decide)).2 fx.g_UnlikeScripts rfl) sa_nil))) (sa_cons (se_tup (sa_cons se_int (sa_cons (se_exb (bare_ok (fun _ => rfl) fx.w_b (C := 40) (by decide)).1 (bare_ok (fun _ => rfl) fx.w_b (C := 40) (by decide)).2 fx.g_FullDesk rfl) sa_nil))) (sa_cons (se_tup (sa_cons se_int (sa_cons (se_exb (bare_ok (fun _ => rfl) fx.w_b (C := 41) (by decide)).1 (bare_ok (fun _ => rfl) fx.w_b (C := 41) (by decide)).2 fx.g_NoBack rfl) sa_nil))) (sa_cons (se_tup (sa_cons se_int (sa_cons (se_exb (bare_ok (fun _ => rfl) fx.w_b (C := 42) (by decide)).1 (bare_ok (fun _ => rfl) fx.w_b (C := 42) (by decide)).2 fx.g_IsCut rfl) sa_nil))) (sa_cons (se_tup (sa_cons se_int (sa_cons (se_exb (bare_ok (fun _ => rfl) fx.w_b (C := 43) (by decide)).1 (bare_ok (fun _ => rfl) fx.w_b (C := 43) (by decide)).2 fx.g_NotCut rfl) sa_nil))) (sa_cons (se_tup (sa_cons se_int (sa_cons (se_exb (bare_ok (fun _ => rfl) fx.w_b (C := 44) (by decide)).1 (bare_ok (fun _ => rfl) fx.w_b (C := 44) (by decide)).2 fx.g_NoEngine rfl) sa_nil))) (sa_cons (se_tup (sa_cons se_int (sa_cons (se_exb (bare_ok (fun _ => rfl) fx.w_b (C := 46) (by decide)).1 (bare_ok (fun _ => rfl) fx.w_b (C := 46) (by decide)).2 fx.g_NoScript rfl) sa_nil))) sa_nil)))))))))))))))))))))
theorem b__law_bare (fx : Fx K mg fd) : BodyOk P w K mg base (ct K) (fns K fd) ⟨He.fAd K d__law_bare.at_, fd 5, []⟩ ⟨0, 0, false, m__law_bare⟩ :=
  ⟨_, "_law_bare", _, _, _, _, _, N__law_bare, fx.D__law_bare, sc__law_bare, rfl, rfl, by decide, fun call n co cdv A outer s H E hr => t__law_bare fx call n cdv A outer s H E ⟨co, hr⟩⟩
abbrev N__law_what_rows : List Str := ["_law_thing_here", "_law_told", "_law_at", "_law_raised"]
theorem sc__law_what_rows : FnScope N__law_what_rows ["_law_thing_here"] (defScope s__law_what_rows) := ⟨by kernel_rfl, by kernel_rfl, by kernel_rfl, by decide +kernel, rfl, by decide +kernel, by decide +kernel⟩
theorem t__law_what_rows (fx : Fx K mg fd) (call : CallT) (n : Nat) (cdv : Value) (A : Around) (outer : List Env) (s : Shared) (H : Hp) (E : XK) (c : Cq (cxOf (L2.CX P w) P w K mg base N__law_what_rows "_law_what_rows" (defScope s__law_what_rows) (He.fAd K d__law_what_rows.at_) cdv A outer s H E) (ct K) (fns K fd) call n) :
    SSs (cxOf (L2.CX P w) P w K mg base N__law_what_rows "_law_what_rows" (defScope s__law_what_rows) (He.fAd K d__law_what_rows.at_) cdv A outer s H E) (ct K) (fun c d _ H' => E c d H') (defBody s__law_what_rows) (m__law_what_rows call) := by
  have tk : Takes (cxOf (L2.CX P w) P w K mg base N__law_what_rows "_law_what_rows" (defScope s__law_what_rows) (He.fAd K d__law_what_rows.at_) cdv A outer s H E) (fun cls d _ H' => E cls d H') := takes_of rfl rfl rfl rfl
  have nd := sc__law_what_rows.nd
  have po : PassesOwn (model P w) (cxOf (L2.CX P w) P w K mg base N__law_what_rows "_law_what_rows" (defScope s__law_what_rows) (He.fAd K d__law_what_rows.at_) cdv A outer s H E).A (cxOf (L2.CX P w) P w K mg base N__law_what_rows "_law_what_rows" (defScope s__law_what_rows) (He.fAd K d__law_what_rows.at_) cdv A outer s H E).env (cxOf (L2.CX P w) P w K mg base N__law_what_rows "_law_what_rows" (defScope s__law_what_rows) (He.fAd K d__law_what_rows.at_) cdv A outer s H E).xe := passes_of rfl
  exact (sss_cons (ss_set nd (i := 1) rfl (by first | exact .inl rfl | exact .inr rfl) (se_lst sa_nil))
      (sss_cons (ss_for po rfl (si_seq (se_tup (sa_cons (se_tup (sa_cons se_int (sa_cons (se_exi (xi_BadBook fx rfl) (ro2 c.ro) (by decide) rfl fx.g_BadBook (sa_cons (se_var 0) sa_nil)) sa_nil))) (sa_cons (se_tup (sa_cons se_int (sa_cons (se_exi (xi_BadSaying fx rfl) (ro2 c.ro) (by decide) rfl fx.g_BadSaying (sa_cons (se_var 0) sa_nil)) sa_nil))) (sa_cons (se_tup (sa_cons se_int (sa_cons (se_exi (xi_BadExpression fx rfl) (ro2 c.ro) (by decide) rfl fx.g_BadExpression (sa_cons (se_var 0) sa_nil)) sa_nil))) (sa_cons (se_tup (sa_cons se_int (sa_cons (se_exi (xi_TooWide fx rfl) (ro2 c.ro) (by decide) rfl fx.g_TooWide (sa_cons (se_var 0) sa_nil)) sa_nil))) (sa_cons (se_tup (sa_cons se_int (sa_cons (se_exi (xi_BadDeed fx rfl) (ro2 c.ro) (by decide) rfl fx.g_BadDeed (sa_cons (se_var 0) sa_nil)) sa_nil))) sa_nil))))))) (sg_tup rfl (sgs_cons (sg_name nd (i := 2) rfl (by first | exact .inl rfl | exact .inr rfl)) (sgs_cons (sg_name nd (i := 3) rfl (by first | exact .inl rfl | exact .inr rfl)) sgs_nil)))
      (sss_one (ss_expr (se_append (se_var 1) (sa_cons (se_tup (sa_cons (se_var 2) (sa_cons (se_var 3) (sa_cons (se_xf (ok := okx_what) (k := 0) (Caught.none rfl) (se_var 3) rfl (hokx_what fx)) sa_nil)))) sa_nil)))))
      (sss_one (ss_ret' (se_var 1)))))
theorem b__law_what_rows (fx : Fx K mg fd) : BodyOk P w K mg base (ct K) (fns K fd) ⟨He.fAd K d__law_what_rows.at_, fd 6, ["_law_thing_here"]⟩ ⟨1, 4, false, m__law_what_rows⟩ :=
  ⟨_, "_law_what_rows", _, _, _, _, _, N__law_what_rows, fx.D__law_what_rows, sc__law_what_rows, rfl, rfl, by decide, fun call n co cdv A outer s H E hr => t__law_what_rows fx call n cdv A outer s H E ⟨co, hr⟩⟩
abbrev N__law_how_rows : List Str := ["_law_thing_here", "_law_told", "_law_at", "_law_raised"]
theorem sc__law_how_rows : FnScope N__law_how_rows ["_law_thing_here"] (defScope s__law_how_rows) := ⟨by kernel_rfl, by kernel_rfl, by kernel_rfl, by decide +kernel, rfl, by decide +kernel, by decide +kernel⟩
theorem t__law_how_rows (fx : Fx K mg fd) (call : CallT) (n : Nat) (cdv : Value) (A : Around) (outer : List Env) (s : Shared) (H : Hp) (E : XK) (c : Cq (cxOf (L2.CX P w) P w K mg base N__law_how_rows "_law_how_rows" (defScope s__law_how_rows) (He.fAd K d__law_how_rows.at_) cdv A outer s H E) (ct K) (fns K fd) call n) :
    SSs (cxOf (L2.CX P w) P w K mg base N__law_how_rows "_law_how_rows" (defScope s__law_how_rows) (He.fAd K d__law_how_rows.at_) cdv A outer s H E) (ct K) (fun c d _ H' => E c d H') (defBody s__law_how_rows) (m__law_how_rows call) := by
  have tk : Takes (cxOf (L2.CX P w) P w K mg base N__law_how_rows "_law_how_rows" (defScope s__law_how_rows) (He.fAd K d__law_how_rows.at_) cdv A outer s H E) (fun cls d _ H' => E cls d H') := takes_of rfl rfl rfl rfl
  have nd := sc__law_how_rows.nd
  have po : PassesOwn (model P w) (cxOf (L2.CX P w) P w K mg base N__law_how_rows "_law_how_rows" (defScope s__law_how_rows) (He.fAd K d__law_how_rows.at_) cdv A outer s H E).A (cxOf (L2.CX P w) P w K mg base N__law_how_rows "_law_how_rows" (defScope s__law_how_rows) (He.fAd K d__law_how_rows.at_) cdv A outer s H E).env (cxOf (L2.CX P w) P w K mg base N__law_how_rows "_law_how_rows" (defScope s__law_how_rows) (He.fAd K d__law_how_rows.at_) cdv A outer s H E).xe := passes_of rfl
  exact (sss_cons (ss_set nd (i := 1) rfl (by first | exact .inl rfl | exact .inr rfl) (se_lst sa_nil))
      (sss_cons (ss_for po rfl (si_seq (se_tup (sa_cons (se_tup (sa_cons se_int (sa_cons (se_exi (xi_Ended fx rfl) (ro2 c.ro) (by decide) rfl fx.g_Ended (sa_cons (se_var 0) sa_nil)) sa_nil))) sa_nil))) (sg_tup rfl (sgs_cons (sg_name nd (i := 2) rfl (by first | exact .inl rfl | exact .inr rfl)) (sgs_cons (sg_name nd (i := 3) rfl (by first | exact .inl rfl | exact .inr rfl)) sgs_nil)))
      (sss_one (ss_expr (se_append (se_var 1) (sa_cons (se_tup (sa_cons (se_var 2) (sa_cons (se_var 3) (sa_cons (se_xf (ok := okx_how) (k := 4) (Caught.none rfl) (se_var 3) rfl (hokx_how fx)) sa_nil)))) sa_nil)))))
      (sss_one (ss_ret' (se_var 1)))))
theorem b__law_how_rows (fx : Fx K mg fd) : BodyOk P w K mg base (ct K) (fns K fd) ⟨He.fAd K d__law_how_rows.at_, fd 7, ["_law_thing_here"]⟩ ⟨1, 4, false, m__law_how_rows⟩ :=
  ⟨_, "_law_how_rows", _, _, _, _, _, N__law_how_rows, fx.D__law_how_rows, sc__law_how_rows, rfl, rfl, by decide, fun call n co cdv A outer s H E hr => t__law_how_rows fx call n cdv A outer s H E ⟨co, hr⟩⟩
abbrev N__law_number_rows : List Str := ["_law_thing_here", "_law_told", "_law_at", "_law_raised"]
theorem sc__law_number_rows : FnScope N__law_number_rows ["_law_thing_here"] (defScope s__law_number_rows) := ⟨by kernel_rfl, by kernel_rfl, by kernel_rfl, by decide +kernel, rfl, by decide +kernel, by decide +kernel⟩
theorem t__law_number_rows (fx : Fx K mg fd) (call : CallT) (n : Nat) (cdv : Value) (A : Around) (outer : List Env) (s : Shared) (H : Hp) (E : XK) (c : Cq (cxOf (L2.CX P w) P w K mg base N__law_number_rows "_law_number_rows" (defScope s__law_number_rows) (He.fAd K d__law_number_rows.at_) cdv A outer s H E) (ct K) (fns K fd) call n) :
    SSs (cxOf (L2.CX P w) P w K mg base N__law_number_rows "_law_number_rows" (defScope s__law_number_rows) (He.fAd K d__law_number_rows.at_) cdv A outer s H E) (ct K) (fun c d _ H' => E c d H') (defBody s__law_number_rows) (m__law_number_rows call) := by
  have tk : Takes (cxOf (L2.CX P w) P w K mg base N__law_number_rows "_law_number_rows" (defScope s__law_number_rows) (He.fAd K d__law_number_rows.at_) cdv A outer s H E) (fun cls d _ H' => E cls d H') := takes_of rfl rfl rfl rfl
  have nd := sc__law_number_rows.nd
  have po : PassesOwn (model P w) (cxOf (L2.CX P w) P w K mg base N__law_number_rows "_law_number_rows" (defScope s__law_number_rows) (He.fAd K d__law_number_rows.at_) cdv A outer s H E).A (cxOf (L2.CX P w) P w K mg base N__law_number_rows "_law_number_rows" (defScope s__law_number_rows) (He.fAd K d__law_number_rows.at_) cdv A outer s H E).env (cxOf (L2.CX P w) P w K mg base N__law_number_rows "_law_number_rows" (defScope s__law_number_rows) (He.fAd K d__law_number_rows.at_) cdv A outer s H E).xe := passes_of rfl
  exact (sss_cons (ss_set nd (i := 1) rfl (by first | exact .inl rfl | exact .inr rfl) (se_lst sa_nil))
      (sss_cons (ss_for po rfl (si_seq (se_tup (sa_cons (se_tup (sa_cons se_int (sa_cons (se_exi (xi_NoBook fx rfl) (ro2 c.ro) (by decide) rfl fx.g_NoBook (sa_cons (se_var 0) sa_nil)) sa_nil))) (sa_cons (se_tup (sa_cons se_int (sa_cons (se_exi (xi_NotOpen fx rfl) (ro2 c.ro) (by decide) rfl fx.g_NotOpen (sa_cons (se_var 0) sa_nil)) sa_nil))) (sa_cons (se_tup (sa_cons se_int (sa_cons (se_exi (xi_NotLooked fx rfl) (ro2 c.ro) (by decide) rfl fx.g_NotLooked (sa_cons (se_var 0) sa_nil)) sa_nil))) sa_nil))))) (sg_tup rfl (sgs_cons (sg_name nd (i := 2) rfl (by first | exact .inl rfl | exact .inr rfl)) (sgs_cons (sg_name nd (i := 3) rfl (by first | exact .inl rfl | exact .inr rfl)) sgs_nil)))
      (sss_one (ss_expr (se_append (se_var 1) (sa_cons (se_tup (sa_cons (se_var 2) (sa_cons (se_var 3) (sa_cons (se_xf (ok := okx_number) (k := 5) (Caught.none rfl) (se_var 3) rfl (hokx_number fx)) sa_nil)))) sa_nil)))))
      (sss_one (ss_ret' (se_var 1)))))
theorem b__law_number_rows (fx : Fx K mg fd) : BodyOk P w K mg base (ct K) (fns K fd) ⟨He.fAd K d__law_number_rows.at_, fd 8, ["_law_thing_here"]⟩ ⟨1, 4, false, m__law_number_rows⟩ :=
  ⟨_, "_law_number_rows", _, _, _, _, _, N__law_number_rows, fx.D__law_number_rows, sc__law_number_rows, rfl, rfl, by decide, fun call n co cdv A outer s H E hr => t__law_number_rows fx call n cdv A outer s H E ⟨co, hr⟩⟩
abbrev N__law_waiting_rows : List Str := ["_law_thing_here", "_law_told", "_law_at", "_law_raised"]
theorem sc__law_waiting_rows : FnScope N__law_waiting_rows ["_law_thing_here"] (defScope s__law_waiting_rows) := ⟨by kernel_rfl, by kernel_rfl, by kernel_rfl, by decide +kernel, rfl, by decide +kernel, by decide +kernel⟩
theorem t__law_waiting_rows (fx : Fx K mg fd) (call : CallT) (n : Nat) (cdv : Value) (A : Around) (outer : List Env) (s : Shared) (H : Hp) (E : XK) (c : Cq (cxOf (L2.CX P w) P w K mg base N__law_waiting_rows "_law_waiting_rows" (defScope s__law_waiting_rows) (He.fAd K d__law_waiting_rows.at_) cdv A outer s H E) (ct K) (fns K fd) call n) :
    SSs (cxOf (L2.CX P w) P w K mg base N__law_waiting_rows "_law_waiting_rows" (defScope s__law_waiting_rows) (He.fAd K d__law_waiting_rows.at_) cdv A outer s H E) (ct K) (fun c d _ H' => E c d H') (defBody s__law_waiting_rows) (m__law_waiting_rows call) := by
  have tk : Takes (cxOf (L2.CX P w) P w K mg base N__law_waiting_rows "_law_waiting_rows" (defScope s__law_waiting_rows) (He.fAd K d__law_waiting_rows.at_) cdv A outer s H E) (fun cls d _ H' => E cls d H') := takes_of rfl rfl rfl rfl
  have nd := sc__law_waiting_rows.nd
  have po : PassesOwn (model P w) (cxOf (L2.CX P w) P w K mg base N__law_waiting_rows "_law_waiting_rows" (defScope s__law_waiting_rows) (He.fAd K d__law_waiting_rows.at_) cdv A outer s H E).A (cxOf (L2.CX P w) P w K mg base N__law_waiting_rows "_law_waiting_rows" (defScope s__law_waiting_rows) (He.fAd K d__law_waiting_rows.at_) cdv A outer s H E).env (cxOf (L2.CX P w) P w K mg base N__law_waiting_rows "_law_waiting_rows" (defScope s__law_waiting_rows) (He.fAd K d__law_waiting_rows.at_) cdv A outer s H E).xe := passes_of rfl
  exact (sss_cons (ss_set nd (i := 1) rfl (by first | exact .inl rfl | exact .inr rfl) (se_lst sa_nil))
      (sss_cons (ss_for po rfl (si_seq (se_tup (sa_cons (se_tup (sa_cons se_int (sa_cons (se_exi (xi_TooFull fx rfl) (ro2 c.ro) (by decide) rfl fx.g_TooFull (sa_cons (se_var 0) sa_nil)) sa_nil))) sa_nil))) (sg_tup rfl (sgs_cons (sg_name nd (i := 2) rfl (by first | exact .inl rfl | exact .inr rfl)) (sgs_cons (sg_name nd (i := 3) rfl (by first | exact .inl rfl | exact .inr rfl)) sgs_nil)))
      (sss_one (ss_expr (se_append (se_var 1) (sa_cons (se_tup (sa_cons (se_var 2) (sa_cons (se_var 3) (sa_cons (se_xf (ok := okx_waiting) (k := 6) (Caught.none rfl) (se_var 3) rfl (hokx_waiting fx)) sa_nil)))) sa_nil)))))
      (sss_one (ss_ret' (se_var 1)))))
theorem b__law_waiting_rows (fx : Fx K mg fd) : BodyOk P w K mg base (ct K) (fns K fd) ⟨He.fAd K d__law_waiting_rows.at_, fd 9, ["_law_thing_here"]⟩ ⟨1, 4, false, m__law_waiting_rows⟩ :=
  ⟨_, "_law_waiting_rows", _, _, _, _, _, N__law_waiting_rows, fx.D__law_waiting_rows, sc__law_waiting_rows, rfl, rfl, by decide, fun call n co cdv A outer s H E hr => t__law_waiting_rows fx call n cdv A outer s H E ⟨co, hr⟩⟩
abbrev N__law_hand_rows : List Str := ["_law_thing_here", "_law_told", "_law_at", "_law_raised"]
theorem sc__law_hand_rows : FnScope N__law_hand_rows ["_law_thing_here"] (defScope s__law_hand_rows) := ⟨by kernel_rfl, by kernel_rfl, by kernel_rfl, by decide +kernel, rfl, by decide +kernel, by decide +kernel⟩
theorem t__law_hand_rows (fx : Fx K mg fd) (call : CallT) (n : Nat) (cdv : Value) (A : Around) (outer : List Env) (s : Shared) (H : Hp) (E : XK) (c : Cq (cxOf (L2.CX P w) P w K mg base N__law_hand_rows "_law_hand_rows" (defScope s__law_hand_rows) (He.fAd K d__law_hand_rows.at_) cdv A outer s H E) (ct K) (fns K fd) call n) :
    SSs (cxOf (L2.CX P w) P w K mg base N__law_hand_rows "_law_hand_rows" (defScope s__law_hand_rows) (He.fAd K d__law_hand_rows.at_) cdv A outer s H E) (ct K) (fun c d _ H' => E c d H') (defBody s__law_hand_rows) (m__law_hand_rows call) := by
  have tk : Takes (cxOf (L2.CX P w) P w K mg base N__law_hand_rows "_law_hand_rows" (defScope s__law_hand_rows) (He.fAd K d__law_hand_rows.at_) cdv A outer s H E) (fun cls d _ H' => E cls d H') := takes_of rfl rfl rfl rfl
  have nd := sc__law_hand_rows.nd
  have po : PassesOwn (model P w) (cxOf (L2.CX P w) P w K mg base N__law_hand_rows "_law_hand_rows" (defScope s__law_hand_rows) (He.fAd K d__law_hand_rows.at_) cdv A outer s H E).A (cxOf (L2.CX P w) P w K mg base N__law_hand_rows "_law_hand_rows" (defScope s__law_hand_rows) (He.fAd K d__law_hand_rows.at_) cdv A outer s H E).env (cxOf (L2.CX P w) P w K mg base N__law_hand_rows "_law_hand_rows" (defScope s__law_hand_rows) (He.fAd K d__law_hand_rows.at_) cdv A outer s H E).xe := passes_of rfl
  exact (sss_cons (ss_set nd (i := 1) rfl (by first | exact .inl rfl | exact .inr rfl) (se_lst sa_nil))
      (sss_cons (ss_for po rfl (si_seq (se_tup (sa_cons (se_tup (sa_cons se_int (sa_cons (se_exi (xi_NoHand fx rfl) (ro2 c.ro) (by decide) rfl fx.g_NoHand (sa_cons (se_var 0) sa_nil)) sa_nil))) (sa_cons (se_tup (sa_cons se_int (sa_cons (se_exi (xi_Busy fx rfl) (ro2 c.ro) (by decide) rfl fx.g_Busy (sa_cons (se_var 0) sa_nil)) sa_nil))) (sa_cons (se_tup (sa_cons se_int (sa_cons (se_exi (xi_Idle fx rfl) (ro2 c.ro) (by decide) rfl fx.g_Idle (sa_cons (se_var 0) sa_nil)) sa_nil))) sa_nil))))) (sg_tup rfl (sgs_cons (sg_name nd (i := 2) rfl (by first | exact .inl rfl | exact .inr rfl)) (sgs_cons (sg_name nd (i := 3) rfl (by first | exact .inl rfl | exact .inr rfl)) sgs_nil)))
      (sss_one (ss_expr (se_append (se_var 1) (sa_cons (se_tup (sa_cons (se_var 2) (sa_cons (se_var 3) (sa_cons (se_xf (ok := okx_hand) (k := 7) (Caught.none rfl) (se_var 3) rfl (hokx_hand fx)) sa_nil)))) sa_nil)))))
      (sss_one (ss_ret' (se_var 1)))))
theorem b__law_hand_rows (fx : Fx K mg fd) : BodyOk P w K mg base (ct K) (fns K fd) ⟨He.fAd K d__law_hand_rows.at_, fd 10, ["_law_thing_here"]⟩ ⟨1, 4, false, m__law_hand_rows⟩ :=
  ⟨_, "_law_hand_rows", _, _, _, _, _, N__law_hand_rows, fx.D__law_hand_rows, sc__law_hand_rows, rfl, rfl, by decide, fun call n co cdv A outer s H E hr => t__law_hand_rows fx call n cdv A outer s H E ⟨co, hr⟩⟩
abbrev N__law_report_rows : List Str := ["_law_thing_here", "_law_told", "_law_at", "_law_raised"]
theorem sc__law_report_rows : FnScope N__law_report_rows ["_law_thing_here"] (defScope s__law_report_rows) := ⟨by kernel_rfl, by kernel_rfl, by kernel_rfl, by decide +kernel, rfl, by decide +kernel, by decide +kernel⟩
theorem t__law_report_rows (fx : Fx K mg fd) (call : CallT) (n : Nat) (cdv : Value) (A : Around) (outer : List Env) (s : Shared) (H : Hp) (E : XK) (c : Cq (cxOf (L2.CX P w) P w K mg base N__law_report_rows "_law_report_rows" (defScope s__law_report_rows) (He.fAd K d__law_report_rows.at_) cdv A outer s H E) (ct K) (fns K fd) call n) :
    SSs (cxOf (L2.CX P w) P w K mg base N__law_report_rows "_law_report_rows" (defScope s__law_report_rows) (He.fAd K d__law_report_rows.at_) cdv A outer s H E) (ct K) (fun c d _ H' => E c d H') (defBody s__law_report_rows) (m__law_report_rows call) := by
  have tk : Takes (cxOf (L2.CX P w) P w K mg base N__law_report_rows "_law_report_rows" (defScope s__law_report_rows) (He.fAd K d__law_report_rows.at_) cdv A outer s H E) (fun cls d _ H' => E cls d H') := takes_of rfl rfl rfl rfl
  have nd := sc__law_report_rows.nd
  have po : PassesOwn (model P w) (cxOf (L2.CX P w) P w K mg base N__law_report_rows "_law_report_rows" (defScope s__law_report_rows) (He.fAd K d__law_report_rows.at_) cdv A outer s H E).A (cxOf (L2.CX P w) P w K mg base N__law_report_rows "_law_report_rows" (defScope s__law_report_rows) (He.fAd K d__law_report_rows.at_) cdv A outer s H E).env (cxOf (L2.CX P w) P w K mg base N__law_report_rows "_law_report_rows" (defScope s__law_report_rows) (He.fAd K d__law_report_rows.at_) cdv A outer s H E).xe := passes_of rfl
  exact (sss_cons (ss_set nd (i := 1) rfl (by first | exact .inl rfl | exact .inr rfl) (se_lst sa_nil))
      (sss_cons (ss_for po rfl (si_seq (se_tup (sa_cons (se_tup (sa_cons se_int (sa_cons (se_exi (xi_NoReport fx rfl) (ro2 c.ro) (by decide) rfl fx.g_NoReport (sa_cons (se_var 0) sa_nil)) sa_nil))) sa_nil))) (sg_tup rfl (sgs_cons (sg_name nd (i := 2) rfl (by first | exact .inl rfl | exact .inr rfl)) (sgs_cons (sg_name nd (i := 3) rfl (by first | exact .inl rfl | exact .inr rfl)) sgs_nil)))
      (sss_one (ss_expr (se_append (se_var 1) (sa_cons (se_tup (sa_cons (se_var 2) (sa_cons (se_var 3) (sa_cons (se_xf (ok := okx_report) (k := 8) (Caught.none rfl) (se_var 3) rfl (hokx_report fx)) sa_nil)))) sa_nil)))))
      (sss_one (ss_ret' (se_var 1)))))
theorem b__law_report_rows (fx : Fx K mg fd) : BodyOk P w K mg base (ct K) (fns K fd) ⟨He.fAd K d__law_report_rows.at_, fd 11, ["_law_thing_here"]⟩ ⟨1, 4, false, m__law_report_rows⟩ :=
  ⟨_, "_law_report_rows", _, _, _, _, _, N__law_report_rows, fx.D__law_report_rows, sc__law_report_rows, rfl, rfl, by decide, fun call n co cdv A outer s H E hr => t__law_report_rows fx call n cdv A outer s H E ⟨co, hr⟩⟩
abbrev N__law_at_rows : List Str := ["_law_thing_here", "_law_told", "_law_at", "_law_raised"]
theorem sc__law_at_rows : FnScope N__law_at_rows ["_law_thing_here"] (defScope s__law_at_rows) := ⟨by kernel_rfl, by kernel_rfl, by kernel_rfl, by decide +kernel, rfl, by decide +kernel, by decide +kernel⟩
theorem t__law_at_rows (fx : Fx K mg fd) (call : CallT) (n : Nat) (cdv : Value) (A : Around) (outer : List Env) (s : Shared) (H : Hp) (E : XK) (c : Cq (cxOf (L2.CX P w) P w K mg base N__law_at_rows "_law_at_rows" (defScope s__law_at_rows) (He.fAd K d__law_at_rows.at_) cdv A outer s H E) (ct K) (fns K fd) call n) :
    SSs (cxOf (L2.CX P w) P w K mg base N__law_at_rows "_law_at_rows" (defScope s__law_at_rows) (He.fAd K d__law_at_rows.at_) cdv A outer s H E) (ct K) (fun c d _ H' => E c d H') (defBody s__law_at_rows) (m__law_at_rows call) := by
  have tk : Takes (cxOf (L2.CX P w) P w K mg base N__law_at_rows "_law_at_rows" (defScope s__law_at_rows) (He.fAd K d__law_at_rows.at_) cdv A outer s H E) (fun cls d _ H' => E cls d H') := takes_of rfl rfl rfl rfl
  have nd := sc__law_at_rows.nd
  have po : PassesOwn (model P w) (cxOf (L2.CX P w) P w K mg base N__law_at_rows "_law_at_rows" (defScope s__law_at_rows) (He.fAd K d__law_at_rows.at_) cdv A outer s H E).A (cxOf (L2.CX P w) P w K mg base N__law_at_rows "_law_at_rows" (defScope s__law_at_rows) (He.fAd K d__law_at_rows.at_) cdv A outer s H E).env (cxOf (L2.CX P w) P w K mg base N__law_at_rows "_law_at_rows" (defScope s__law_at_rows) (He.fAd K d__law_at_rows.at_) cdv A outer s H E).xe := passes_of rfl
  exact (sss_cons (ss_set nd (i := 1) rfl (by first | exact .inl rfl | exact .inr rfl) (se_lst sa_nil))
      (sss_cons (ss_for po rfl (si_seq (se_tup (sa_cons (se_tup (sa_cons se_int (sa_cons (se_exi (xi_BadGrammar fx rfl) (ro2 c.ro) (by decide) rfl fx.g_BadGrammar (sa_cons (se_var 0) sa_nil)) sa_nil))) (sa_cons (se_tup (sa_cons se_int (sa_cons (se_exi (xi_NoSign fx rfl) (ro2 c.ro) (by decide) rfl fx.g_NoSign (sa_cons (se_var 0) sa_nil)) sa_nil))) (sa_cons (se_tup (sa_cons se_int (sa_cons (se_exi (xi_BadFilling fx rfl) (ro2 c.ro) (by decide) rfl fx.g_BadFilling (sa_cons (se_var 0) sa_nil)) sa_nil))) (sa_cons (se_tup (sa_cons se_int (sa_cons (se_exi (xi_NoPaper fx rfl) (ro2 c.ro) (by decide) rfl fx.g_NoPaper (sa_cons (se_var 0) sa_nil)) sa_nil))) sa_nil)))))) (sg_tup rfl (sgs_cons (sg_name nd (i := 2) rfl (by first | exact .inl rfl | exact .inr rfl)) (sgs_cons (sg_name nd (i := 3) rfl (by first | exact .inl rfl | exact .inr rfl)) sgs_nil)))
      (sss_one (ss_expr (se_append (se_var 1) (sa_cons (se_tup (sa_cons (se_var 2) (sa_cons (se_var 3) (sa_cons (se_xf (ok := okx_at) (k := 3) (Caught.none rfl) (se_var 3) rfl (hokx_at fx)) sa_nil)))) sa_nil)))))
      (sss_one (ss_ret' (se_var 1)))))
theorem b__law_at_rows (fx : Fx K mg fd) : BodyOk P w K mg base (ct K) (fns K fd) ⟨He.fAd K d__law_at_rows.at_, fd 12, ["_law_thing_here"]⟩ ⟨1, 4, false, m__law_at_rows⟩ :=
  ⟨_, "_law_at_rows", _, _, _, _, _, N__law_at_rows, fx.D__law_at_rows, sc__law_at_rows, rfl, rfl, by decide, fun call n co cdv A outer s H E hr => t__law_at_rows fx call n cdv A outer s H E ⟨co, hr⟩⟩
abbrev N__law_symbol_rows : List Str := ["_law_thing_here", "_law_told", "_law_at", "_law_raised"]
theorem sc__law_symbol_rows : FnScope N__law_symbol_rows ["_law_thing_here"] (defScope s__law_symbol_rows) := ⟨by kernel_rfl, by kernel_rfl, by kernel_rfl, by decide +kernel, rfl, by decide +kernel, by decide +kernel⟩
theorem t__law_symbol_rows (fx : Fx K mg fd) (call : CallT) (n : Nat) (cdv : Value) (A : Around) (outer : List Env) (s : Shared) (H : Hp) (E : XK) (c : Cq (cxOf (L2.CX P w) P w K mg base N__law_symbol_rows "_law_symbol_rows" (defScope s__law_symbol_rows) (He.fAd K d__law_symbol_rows.at_) cdv A outer s H E) (ct K) (fns K fd) call n) :
    SSs (cxOf (L2.CX P w) P w K mg base N__law_symbol_rows "_law_symbol_rows" (defScope s__law_symbol_rows) (He.fAd K d__law_symbol_rows.at_) cdv A outer s H E) (ct K) (fun c d _ H' => E c d H') (defBody s__law_symbol_rows) (m__law_symbol_rows call) := by
  have tk : Takes (cxOf (L2.CX P w) P w K mg base N__law_symbol_rows "_law_symbol_rows" (defScope s__law_symbol_rows) (He.fAd K d__law_symbol_rows.at_) cdv A outer s H E) (fun cls d _ H' => E cls d H') := takes_of rfl rfl rfl rfl
  have nd := sc__law_symbol_rows.nd
  have po : PassesOwn (model P w) (cxOf (L2.CX P w) P w K mg base N__law_symbol_rows "_law_symbol_rows" (defScope s__law_symbol_rows) (He.fAd K d__law_symbol_rows.at_) cdv A outer s H E).A (cxOf (L2.CX P w) P w K mg base N__law_symbol_rows "_law_symbol_rows" (defScope s__law_symbol_rows) (He.fAd K d__law_symbol_rows.at_) cdv A outer s H E).env (cxOf (L2.CX P w) P w K mg base N__law_symbol_rows "_law_symbol_rows" (defScope s__law_symbol_rows) (He.fAd K d__law_symbol_rows.at_) cdv A outer s H E).xe := passes_of rfl
  exact (sss_cons (ss_set nd (i := 1) rfl (by first | exact .inl rfl | exact .inr rfl) (se_lst sa_nil))
      (sss_cons (ss_for po rfl (si_seq (se_tup (sa_cons (se_tup (sa_cons se_int (sa_cons (se_exi (xi_NoSymbol fx rfl) (ro2 c.ro) (by decide) rfl fx.g_NoSymbol (sa_cons (se_var 0) sa_nil)) sa_nil))) sa_nil))) (sg_tup rfl (sgs_cons (sg_name nd (i := 2) rfl (by first | exact .inl rfl | exact .inr rfl)) (sgs_cons (sg_name nd (i := 3) rfl (by first | exact .inl rfl | exact .inr rfl)) sgs_nil)))
      (sss_one (ss_expr (se_append (se_var 1) (sa_cons (se_tup (sa_cons (se_var 2) (sa_cons (se_var 3) (sa_cons (se_xf (ok := okx_symbol) (k := 9) (Caught.none rfl) (se_var 3) rfl (hokx_symbol fx)) sa_nil)))) sa_nil)))))
      (sss_one (ss_ret' (se_var 1)))))
theorem b__law_symbol_rows (fx : Fx K mg fd) : BodyOk P w K mg base (ct K) (fns K fd) ⟨He.fAd K d__law_symbol_rows.at_, fd 13, ["_law_thing_here"]⟩ ⟨1, 4, false, m__law_symbol_rows⟩ :=
  ⟨_, "_law_symbol_rows", _, _, _, _, _, N__law_symbol_rows, fx.D__law_symbol_rows, sc__law_symbol_rows, rfl, rfl, by decide, fun call n co cdv A outer s H E hr => t__law_symbol_rows fx call n cdv A outer s H E ⟨co, hr⟩⟩
abbrev N__law_length_rows : List Str := ["_law_thing_here", "_law_told", "_law_at", "_law_raised"]
theorem sc__law_length_rows : FnScope N__law_length_rows ["_law_thing_here"] (defScope s__law_length_rows) := ⟨by kernel_rfl, by kernel_rfl, by kernel_rfl, by decide +kernel, rfl, by decide +kernel, by decide +kernel⟩
theorem t__law_length_rows (fx : Fx K mg fd) (call : CallT) (n : Nat) (cdv : Value) (A : Around) (outer : List Env) (s : Shared) (H : Hp) (E : XK) (c : Cq (cxOf (L2.CX P w) P w K mg base N__law_length_rows "_law_length_rows" (defScope s__law_length_rows) (He.fAd K d__law_length_rows.at_) cdv A outer s H E) (ct K) (fns K fd) call n) :
    SSs (cxOf (L2.CX P w) P w K mg base N__law_length_rows "_law_length_rows" (defScope s__law_length_rows) (He.fAd K d__law_length_rows.at_) cdv A outer s H E) (ct K) (fun c d _ H' => E c d H') (defBody s__law_length_rows) (m__law_length_rows call) := by
  have tk : Takes (cxOf (L2.CX P w) P w K mg base N__law_length_rows "_law_length_rows" (defScope s__law_length_rows) (He.fAd K d__law_length_rows.at_) cdv A outer s H E) (fun cls d _ H' => E cls d H') := takes_of rfl rfl rfl rfl
  have nd := sc__law_length_rows.nd
  have po : PassesOwn (model P w) (cxOf (L2.CX P w) P w K mg base N__law_length_rows "_law_length_rows" (defScope s__law_length_rows) (He.fAd K d__law_length_rows.at_) cdv A outer s H E).A (cxOf (L2.CX P w) P w K mg base N__law_length_rows "_law_length_rows" (defScope s__law_length_rows) (He.fAd K d__law_length_rows.at_) cdv A outer s H E).env (cxOf (L2.CX P w) P w K mg base N__law_length_rows "_law_length_rows" (defScope s__law_length_rows) (He.fAd K d__law_length_rows.at_) cdv A outer s H E).xe := passes_of rfl
  exact (sss_cons (ss_set nd (i := 1) rfl (by first | exact .inl rfl | exact .inr rfl) (se_lst sa_nil))
      (sss_cons (ss_for po rfl (si_seq (se_tup (sa_cons (se_tup (sa_cons se_int (sa_cons (se_exi (xi_TooLong fx rfl) (ro2 c.ro) (by decide) rfl fx.g_TooLong (sa_cons (se_var 0) sa_nil)) sa_nil))) sa_nil))) (sg_tup rfl (sgs_cons (sg_name nd (i := 2) rfl (by first | exact .inl rfl | exact .inr rfl)) (sgs_cons (sg_name nd (i := 3) rfl (by first | exact .inl rfl | exact .inr rfl)) sgs_nil)))
      (sss_one (ss_expr (se_append (se_var 1) (sa_cons (se_tup (sa_cons (se_var 2) (sa_cons (se_var 3) (sa_cons (se_xf (ok := okx_length) (k := 10) (Caught.none rfl) (se_var 3) rfl (hokx_length fx)) sa_nil)))) sa_nil)))))
      (sss_one (ss_ret' (se_var 1)))))
theorem b__law_length_rows (fx : Fx K mg fd) : BodyOk P w K mg base (ct K) (fns K fd) ⟨He.fAd K d__law_length_rows.at_, fd 14, ["_law_thing_here"]⟩ ⟨1, 4, false, m__law_length_rows⟩ :=
  ⟨_, "_law_length_rows", _, _, _, _, _, N__law_length_rows, fx.D__law_length_rows, sc__law_length_rows, rfl, rfl, by decide, fun call n co cdv A outer s H E hr => t__law_length_rows fx call n cdv A outer s H E ⟨co, hr⟩⟩
abbrev N__law_name_rows : List Str := ["_law_thing_here", "_law_told", "_law_at", "_law_raised"]
theorem sc__law_name_rows : FnScope N__law_name_rows ["_law_thing_here"] (defScope s__law_name_rows) := ⟨by kernel_rfl, by kernel_rfl, by kernel_rfl, by decide +kernel, rfl, by decide +kernel, by decide +kernel⟩
theorem t__law_name_rows (fx : Fx K mg fd) (call : CallT) (n : Nat) (cdv : Value) (A : Around) (outer : List Env) (s : Shared) (H : Hp) (E : XK) (c : Cq (cxOf (L2.CX P w) P w K mg base N__law_name_rows "_law_name_rows" (defScope s__law_name_rows) (He.fAd K d__law_name_rows.at_) cdv A outer s H E) (ct K) (fns K fd) call n) :
    SSs (cxOf (L2.CX P w) P w K mg base N__law_name_rows "_law_name_rows" (defScope s__law_name_rows) (He.fAd K d__law_name_rows.at_) cdv A outer s H E) (ct K) (fun c d _ H' => E c d H') (defBody s__law_name_rows) (m__law_name_rows call) := by
  have tk : Takes (cxOf (L2.CX P w) P w K mg base N__law_name_rows "_law_name_rows" (defScope s__law_name_rows) (He.fAd K d__law_name_rows.at_) cdv A outer s H E) (fun cls d _ H' => E cls d H') := takes_of rfl rfl rfl rfl
  have nd := sc__law_name_rows.nd
  have po : PassesOwn (model P w) (cxOf (L2.CX P w) P w K mg base N__law_name_rows "_law_name_rows" (defScope s__law_name_rows) (He.fAd K d__law_name_rows.at_) cdv A outer s H E).A (cxOf (L2.CX P w) P w K mg base N__law_name_rows "_law_name_rows" (defScope s__law_name_rows) (He.fAd K d__law_name_rows.at_) cdv A outer s H E).env (cxOf (L2.CX P w) P w K mg base N__law_name_rows "_law_name_rows" (defScope s__law_name_rows) (He.fAd K d__law_name_rows.at_) cdv A outer s H E).xe := passes_of rfl
  exact (sss_cons (ss_set nd (i := 1) rfl (by first | exact .inl rfl | exact .inr rfl) (se_lst sa_nil))
      (sss_cons (ss_for po rfl (si_seq (se_tup (sa_cons (se_tup (sa_cons se_int (sa_cons (se_exi (xi_NoName fx rfl) (ro2 c.ro) (by decide) rfl fx.g_NoName (sa_cons (se_var 0) sa_nil)) sa_nil))) sa_nil))) (sg_tup rfl (sgs_cons (sg_name nd (i := 2) rfl (by first | exact .inl rfl | exact .inr rfl)) (sgs_cons (sg_name nd (i := 3) rfl (by first | exact .inl rfl | exact .inr rfl)) sgs_nil)))
      (sss_one (ss_expr (se_append (se_var 1) (sa_cons (se_tup (sa_cons (se_var 2) (sa_cons (se_var 3) (sa_cons (se_xf (ok := okx_name) (k := 13) (Caught.none rfl) (se_var 3) rfl (hokx_name fx)) sa_nil)))) sa_nil)))))
      (sss_one (ss_ret' (se_var 1)))))
theorem b__law_name_rows (fx : Fx K mg fd) : BodyOk P w K mg base (ct K) (fns K fd) ⟨He.fAd K d__law_name_rows.at_, fd 15, ["_law_thing_here"]⟩ ⟨1, 4, false, m__law_name_rows⟩ :=
  ⟨_, "_law_name_rows", _, _, _, _, _, N__law_name_rows, fx.D__law_name_rows, sc__law_name_rows, rfl, rfl, by decide, fun call n co cdv A outer s H E hr => t__law_name_rows fx call n cdv A outer s H E ⟨co, hr⟩⟩
abbrev N__law_used_rows : List Str := ["_law_thing_here", "_law_told", "_law_at", "_law_raised"]
theorem sc__law_used_rows : FnScope N__law_used_rows ["_law_thing_here"] (defScope s__law_used_rows) := ⟨by kernel_rfl, by kernel_rfl, by kernel_rfl, by decide +kernel, rfl, by decide +kernel, by decide +kernel⟩
theorem t__law_used_rows (fx : Fx K mg fd) (call : CallT) (n : Nat) (cdv : Value) (A : Around) (outer : List Env) (s : Shared) (H : Hp) (E : XK) (c : Cq (cxOf (L2.CX P w) P w K mg base N__law_used_rows "_law_used_rows" (defScope s__law_used_rows) (He.fAd K d__law_used_rows.at_) cdv A outer s H E) (ct K) (fns K fd) call n) :
    SSs (cxOf (L2.CX P w) P w K mg base N__law_used_rows "_law_used_rows" (defScope s__law_used_rows) (He.fAd K d__law_used_rows.at_) cdv A outer s H E) (ct K) (fun c d _ H' => E c d H') (defBody s__law_used_rows) (m__law_used_rows call) := by
  have tk : Takes (cxOf (L2.CX P w) P w K mg base N__law_used_rows "_law_used_rows" (defScope s__law_used_rows) (He.fAd K d__law_used_rows.at_) cdv A outer s H E) (fun cls d _ H' => E cls d H') := takes_of rfl rfl rfl rfl
  have nd := sc__law_used_rows.nd
  have po : PassesOwn (model P w) (cxOf (L2.CX P w) P w K mg base N__law_used_rows "_law_used_rows" (defScope s__law_used_rows) (He.fAd K d__law_used_rows.at_) cdv A outer s H E).A (cxOf (L2.CX P w) P w K mg base N__law_used_rows "_law_used_rows" (defScope s__law_used_rows) (He.fAd K d__law_used_rows.at_) cdv A outer s H E).env (cxOf (L2.CX P w) P w K mg base N__law_used_rows "_law_used_rows" (defScope s__law_used_rows) (He.fAd K d__law_used_rows.at_) cdv A outer s H E).xe := passes_of rfl
  exact (sss_cons (ss_set nd (i := 1) rfl (by first | exact .inl rfl | exact .inr rfl) (se_lst sa_nil))
      (sss_cons (ss_for po rfl (si_seq (se_tup (sa_cons (se_tup (sa_cons se_int (sa_cons (se_exi (xi_ShortInputs fx rfl) (ro2 c.ro) (by decide) rfl fx.g_ShortInputs (sa_cons (se_var 0) sa_nil)) sa_nil))) sa_nil))) (sg_tup rfl (sgs_cons (sg_name nd (i := 2) rfl (by first | exact .inl rfl | exact .inr rfl)) (sgs_cons (sg_name nd (i := 3) rfl (by first | exact .inl rfl | exact .inr rfl)) sgs_nil)))
      (sss_one (ss_expr (se_append (se_var 1) (sa_cons (se_tup (sa_cons (se_var 2) (sa_cons (se_var 3) (sa_cons (se_xf (ok := okx_used) (k := 15) (Caught.none rfl) (se_var 3) rfl (hokx_used fx)) sa_nil)))) sa_nil)))))
      (sss_one (ss_ret' (se_var 1)))))
theorem b__law_used_rows (fx : Fx K mg fd) : BodyOk P w K mg base (ct K) (fns K fd) ⟨He.fAd K d__law_used_rows.at_, fd 16, ["_law_thing_here"]⟩ ⟨1, 4, false, m__law_used_rows⟩ :=
  ⟨_, "_law_used_rows", _, _, _, _, _, N__law_used_rows, fx.D__law_used_rows, sc__law_used_rows, rfl, rfl, by decide, fun call n co cdv A outer s H E hr => t__law_used_rows fx call n cdv A outer s H E ⟨co, hr⟩⟩
abbrev N__law_road_rows : List Str := ["_law_thing_here", "_law_told", "_law_at", "_law_raised"]
theorem sc__law_road_rows : FnScope N__law_road_rows ["_law_thing_here"] (defScope s__law_road_rows) := ⟨by kernel_rfl, by kernel_rfl, by kernel_rfl, by decide +kernel, rfl, by decide +kernel, by decide +kernel⟩
theorem t__law_road_rows (fx : Fx K mg fd) (call : CallT) (n : Nat) (cdv : Value) (A : Around) (outer : List Env) (s : Shared) (H : Hp) (E : XK) (c : Cq (cxOf (L2.CX P w) P w K mg base N__law_road_rows "_law_road_rows" (defScope s__law_road_rows) (He.fAd K d__law_road_rows.at_) cdv A outer s H E) (ct K) (fns K fd) call n) :
    SSs (cxOf (L2.CX P w) P w K mg base N__law_road_rows "_law_road_rows" (defScope s__law_road_rows) (He.fAd K d__law_road_rows.at_) cdv A outer s H E) (ct K) (fun c d _ H' => E c d H') (defBody s__law_road_rows) (m__law_road_rows call) := by
  have tk : Takes (cxOf (L2.CX P w) P w K mg base N__law_road_rows "_law_road_rows" (defScope s__law_road_rows) (He.fAd K d__law_road_rows.at_) cdv A outer s H E) (fun cls d _ H' => E cls d H') := takes_of rfl rfl rfl rfl
  have nd := sc__law_road_rows.nd
  have po : PassesOwn (model P w) (cxOf (L2.CX P w) P w K mg base N__law_road_rows "_law_road_rows" (defScope s__law_road_rows) (He.fAd K d__law_road_rows.at_) cdv A outer s H E).A (cxOf (L2.CX P w) P w K mg base N__law_road_rows "_law_road_rows" (defScope s__law_road_rows) (He.fAd K d__law_road_rows.at_) cdv A outer s H E).env (cxOf (L2.CX P w) P w K mg base N__law_road_rows "_law_road_rows" (defScope s__law_road_rows) (He.fAd K d__law_road_rows.at_) cdv A outer s H E).xe := passes_of rfl
  exact (sss_cons (ss_set nd (i := 1) rfl (by first | exact .inl rfl | exact .inr rfl) (se_lst sa_nil))
      (sss_cons (ss_for po rfl (si_seq (se_tup (sa_cons (se_tup (sa_cons se_int (sa_cons (se_exi (xi_NoIf fx rfl) (ro2 c.ro) (by decide) rfl fx.g_NoIf (sa_cons (se_var 0) sa_nil)) sa_nil))) (sa_cons (se_tup (sa_cons se_int (sa_cons (se_exi (xi_NoStatement fx rfl) (ro2 c.ro) (by decide) rfl fx.g_NoStatement (sa_cons (se_var 0) sa_nil)) sa_nil))) sa_nil)))) (sg_tup rfl (sgs_cons (sg_name nd (i := 2) rfl (by first | exact .inl rfl | exact .inr rfl)) (sgs_cons (sg_name nd (i := 3) rfl (by first | exact .inl rfl | exact .inr rfl)) sgs_nil)))
      (sss_one (ss_expr (se_append (se_var 1) (sa_cons (se_tup (sa_cons (se_var 2) (sa_cons (se_var 3) (sa_cons (se_xf (ok := okx_road) (k := 14) (Caught.none rfl) (se_var 3) rfl (hokx_road fx)) sa_nil)))) sa_nil)))))
      (sss_one (ss_ret' (se_var 1)))))
theorem b__law_road_rows (fx : Fx K mg fd) : BodyOk P w K mg base (ct K) (fns K fd) ⟨He.fAd K d__law_road_rows.at_, fd 17, ["_law_thing_here"]⟩ ⟨1, 4, false, m__law_road_rows⟩ :=
  ⟨_, "_law_road_rows", _, _, _, _, _, N__law_road_rows, fx.D__law_road_rows, sc__law_road_rows, rfl, rfl, by decide, fun call n co cdv A outer s H E hr => t__law_road_rows fx call n cdv A outer s H E ⟨co, hr⟩⟩
abbrev N__law_turns_rows : List Str := ["_law_thing_here", "_law_told", "_law_at", "_law_raised"]
theorem sc__law_turns_rows : FnScope N__law_turns_rows ["_law_thing_here"] (defScope s__law_turns_rows) := ⟨by kernel_rfl, by kernel_rfl, by kernel_rfl, by decide +kernel, rfl, by decide +kernel, by decide +kernel⟩
theorem t__law_turns_rows (fx : Fx K mg fd) (call : CallT) (n : Nat) (cdv : Value) (A : Around) (outer : List Env) (s : Shared) (H : Hp) (E : XK) (c : Cq (cxOf (L2.CX P w) P w K mg base N__law_turns_rows "_law_turns_rows" (defScope s__law_turns_rows) (He.fAd K d__law_turns_rows.at_) cdv A outer s H E) (ct K) (fns K fd) call n) :
    SSs (cxOf (L2.CX P w) P w K mg base N__law_turns_rows "_law_turns_rows" (defScope s__law_turns_rows) (He.fAd K d__law_turns_rows.at_) cdv A outer s H E) (ct K) (fun c d _ H' => E c d H') (defBody s__law_turns_rows) (m__law_turns_rows call) := by
  have tk : Takes (cxOf (L2.CX P w) P w K mg base N__law_turns_rows "_law_turns_rows" (defScope s__law_turns_rows) (He.fAd K d__law_turns_rows.at_) cdv A outer s H E) (fun cls d _ H' => E cls d H') := takes_of rfl rfl rfl rfl
  have nd := sc__law_turns_rows.nd
  have po : PassesOwn (model P w) (cxOf (L2.CX P w) P w K mg base N__law_turns_rows "_law_turns_rows" (defScope s__law_turns_rows) (He.fAd K d__law_turns_rows.at_) cdv A outer s H E).A (cxOf (L2.CX P w) P w K mg base N__law_turns_rows "_law_turns_rows" (defScope s__law_turns_rows) (He.fAd K d__law_turns_rows.at_) cdv A outer s H E).env (cxOf (L2.CX P w) P w K mg base N__law_turns_rows "_law_turns_rows" (defScope s__law_turns_rows) (He.fAd K d__law_turns_rows.at_) cdv A outer s H E).xe := passes_of rfl
  exact (sss_cons (ss_set nd (i := 1) rfl (by first | exact .inl rfl | exact .inr rfl) (se_lst sa_nil))
      (sss_cons (ss_for po rfl (si_seq (se_tup (sa_cons (se_tup (sa_cons se_int (sa_cons (se_exi (xi_NoWay fx rfl) (ro2 c.ro) (by decide) rfl fx.g_NoWay (sa_cons (se_var 0) sa_nil)) sa_nil))) sa_nil))) (sg_tup rfl (sgs_cons (sg_name nd (i := 2) rfl (by first | exact .inl rfl | exact .inr rfl)) (sgs_cons (sg_name nd (i := 3) rfl (by first | exact .inl rfl | exact .inr rfl)) sgs_nil)))
      (sss_one (ss_expr (se_append (se_var 1) (sa_cons (se_tup (sa_cons (se_var 2) (sa_cons (se_var 3) (sa_cons (se_xf (ok := okx_turns) (k := 16) (Caught.none rfl) (se_var 3) rfl (hokx_turns fx)) sa_nil)))) sa_nil)))))
      (sss_one (ss_ret' (se_var 1)))))
theorem b__law_turns_rows (fx : Fx K mg fd) : BodyOk P w K mg base (ct K) (fns K fd) ⟨He.fAd K d__law_turns_rows.at_, fd 18, ["_law_thing_here"]⟩ ⟨1, 4, false, m__law_turns_rows⟩ :=
  ⟨_, "_law_turns_rows", _, _, _, _, _, N__law_turns_rows, fx.D__law_turns_rows, sc__law_turns_rows, rfl, rfl, by decide, fun call n co cdv A outer s H E hr => t__law_turns_rows fx call n cdv A outer s H E ⟨co, hr⟩⟩
abbrev N__law_couple_rows : List Str := ["_law_first", "_law_second", "_law_line", "_law_equation", "_law_cut", "_law_written"]
theorem sc__law_couple_rows : FnScope N__law_couple_rows ["_law_first", "_law_second"] (defScope s__law_couple_rows) := ⟨by kernel_rfl, by kernel_rfl, by kernel_rfl, by decide +kernel, rfl, by decide +kernel, by decide +kernel⟩
theorem t__law_couple_rows (fx : Fx K mg fd) (call : CallT) (n : Nat) (cdv : Value) (A : Around) (outer : List Env) (s : Shared) (H : Hp) (E : XK) (c : Cq (cxOf (L2.CX P w) P w K mg base N__law_couple_rows "_law_couple_rows" (defScope s__law_couple_rows) (He.fAd K d__law_couple_rows.at_) cdv A outer s H E) (ct K) (fns K fd) call n) :
    SSs (cxOf (L2.CX P w) P w K mg base N__law_couple_rows "_law_couple_rows" (defScope s__law_couple_rows) (He.fAd K d__law_couple_rows.at_) cdv A outer s H E) (ct K) (fun c d _ H' => E c d H') (defBody s__law_couple_rows) (m__law_couple_rows call) := by
  have tk : Takes (cxOf (L2.CX P w) P w K mg base N__law_couple_rows "_law_couple_rows" (defScope s__law_couple_rows) (He.fAd K d__law_couple_rows.at_) cdv A outer s H E) (fun cls d _ H' => E cls d H') := takes_of rfl rfl rfl rfl
  have nd := sc__law_couple_rows.nd
  have po : PassesOwn (model P w) (cxOf (L2.CX P w) P w K mg base N__law_couple_rows "_law_couple_rows" (defScope s__law_couple_rows) (He.fAd K d__law_couple_rows.at_) cdv A outer s H E).A (cxOf (L2.CX P w) P w K mg base N__law_couple_rows "_law_couple_rows" (defScope s__law_couple_rows) (He.fAd K d__law_couple_rows.at_) cdv A outer s H E).env (cxOf (L2.CX P w) P w K mg base N__law_couple_rows "_law_couple_rows" (defScope s__law_couple_rows) (He.fAd K d__law_couple_rows.at_) cdv A outer s H E).xe := passes_of rfl
  exact (sss_cons (ss_asg (se_tup (sa_cons (se_exi (xi_BadText fx rfl) (ro2 c.ro) (by decide) rfl fx.g_BadText (sa_cons (se_var 0) (sa_cons (se_var 1) sa_nil))) (sa_cons (se_exi (xi_BadEquation fx rfl) (ro2 c.ro) (by decide) rfl fx.g_BadEquation (sa_cons (se_var 0) (sa_cons (se_var 1) sa_nil))) (sa_cons (se_exi (xi_NoCut fx rfl) (ro2 c.ro) (by decide) rfl fx.g_NoCut (sa_cons (se_var 0) (sa_cons (se_var 1) sa_nil))) (sa_cons (se_exi (xi_BadScript fx rfl) (ro2 c.ro) (by decide) rfl fx.g_BadScript (sa_cons (se_var 0) (sa_cons (se_var 1) sa_nil))) sa_nil))))) (sg_tup rfl (sgs_cons (sg_name nd (i := 2) rfl (by first | exact .inl rfl | exact .inr rfl)) (sgs_cons (sg_name nd (i := 3) rfl (by first | exact .inl rfl | exact .inr rfl)) (sgs_cons (sg_name nd (i := 4) rfl (by first | exact .inl rfl | exact .inr rfl)) (sgs_cons (sg_name nd (i := 5) rfl (by first | exact .inl rfl | exact .inr rfl)) sgs_nil))))))
      (sss_one (ss_ret' (se_lv (sa_cons (se_tup (sa_cons se_int (sa_cons (se_var 2) (sa_cons (se_tup (sa_cons (se_xf (ok := okx_line) (k := 1) (Caught.none rfl) (se_var 2) rfl (hokx_line fx)) (sa_cons (se_xf (ok := okx_place) (k := 2) (Caught.none rfl) (se_var 2) rfl (hokx_place fx)) sa_nil))) sa_nil)))) (sa_cons (se_tup (sa_cons se_int (sa_cons (se_var 3) (sa_cons (se_tup (sa_cons (se_xf (ok := okx_at) (k := 3) (Caught.none rfl) (se_var 3) rfl (hokx_at fx)) (sa_cons (se_xf (ok := okx_what) (k := 0) (Caught.none rfl) (se_var 3) rfl (hokx_what fx)) sa_nil))) sa_nil)))) (sa_cons (se_tup (sa_cons se_int (sa_cons (se_var 4) (sa_cons (se_tup (sa_cons (se_xf (ok := okx_begin) (k := 11) (Caught.none rfl) (se_var 4) rfl (hokx_begin fx)) (sa_cons (se_xf (ok := okx_end) (k := 12) (Caught.none rfl) (se_var 4) rfl (hokx_end fx)) sa_nil))) sa_nil)))) (sa_cons (se_tup (sa_cons se_int (sa_cons (se_var 5) (sa_cons (se_tup (sa_cons (se_xf (ok := okx_what) (k := 0) (Caught.none rfl) (se_var 5) rfl (hokx_what fx)) (sa_cons (se_xf (ok := okx_road) (k := 14) (Caught.none rfl) (se_var 5) rfl (hokx_road fx)) sa_nil))) sa_nil)))) sa_nil))))))))
theorem b__law_couple_rows (fx : Fx K mg fd) : BodyOk P w K mg base (ct K) (fns K fd) ⟨He.fAd K d__law_couple_rows.at_, fd 19, ["_law_first", "_law_second"]⟩ ⟨2, 6, false, m__law_couple_rows⟩ :=
  ⟨_, "_law_couple_rows", _, _, _, _, _, N__law_couple_rows, fx.D__law_couple_rows, sc__law_couple_rows, rfl, rfl, by decide, fun call n co cdv A outer s H E hr => t__law_couple_rows fx call n cdv A outer s H E ⟨co, hr⟩⟩
abbrev N__law_kinds : List Str := ["_law_raised"]
theorem sc__law_kinds : FnScope N__law_kinds ["_law_raised"] (defScope s__law_kinds) := ⟨by kernel_rfl, by kernel_rfl, by kernel_rfl, by decide +kernel, rfl, by decide +kernel, by decide +kernel⟩
theorem t__law_kinds (fx : Fx K mg fd) (call : CallT) (n : Nat) (cdv : Value) (A : Around) (outer : List Env) (s : Shared) (H : Hp) (E : XK) (c : Cq (cxOf (L2.CX P w) P w K mg base N__law_kinds "_law_kinds" (defScope s__law_kinds) (He.fAd K d__law_kinds.at_) cdv A outer s H E) (ct K) (fns K fd) call n) :
    SSs (cxOf (L2.CX P w) P w K mg base N__law_kinds "_law_kinds" (defScope s__law_kinds) (He.fAd K d__law_kinds.at_) cdv A outer s H E) (ct K) (fun c d _ H' => E c d H') (defBody s__law_kinds) (m__law_kinds call) := by
  have tk : Takes (cxOf (L2.CX P w) P w K mg base N__law_kinds "_law_kinds" (defScope s__law_kinds) (He.fAd K d__law_kinds.at_) cdv A outer s H E) (fun cls d _ H' => E cls d H') := takes_of rfl rfl rfl rfl
  have nd := sc__law_kinds.nd
  have po : PassesOwn (model P w) (cxOf (L2.CX P w) P w K mg base N__law_kinds "_law_kinds" (defScope s__law_kinds) (He.fAd K d__law_kinds.at_) cdv A outer s H E).A (cxOf (L2.CX P w) P w K mg base N__law_kinds "_law_kinds" (defScope s__law_kinds) (He.fAd K d__law_kinds.at_) cdv A outer s H E).env (cxOf (L2.CX P w) P w K mg base N__law_kinds "_law_kinds" (defScope s__law_kinds) (He.fAd K d__law_kinds.at_) cdv A outer s H E).xe := passes_of rfl
  exact (sss_one (ss_ret' (se_lv (sa_cons (se_isxC rfl fx.g_BadBook (Caught.none rfl) (isxC_ok (fun _ => rfl) fx.w_x fx.w_kx (T := 1) (by decide)) rfl fx.f_isinstance (se_var 0)) (sa_cons (se_isxC rfl fx.g_BadLetters (Caught.none rfl) (isxC_ok (fun _ => rfl) fx.w_x fx.w_kx (T := 2) (by decide)) rfl fx.f_isinstance (se_var 0)) (sa_cons (se_isxC rfl fx.g_BadSaying (Caught.none rfl) (isxC_ok (fun _ => rfl) fx.w_x fx.w_kx (T := 3) (by decide)) rfl fx.f_isinstance (se_var 0)) (sa_cons (se_isxC rfl fx.g_BadText (Caught.none rfl) (isxC_ok (fun _ => rfl) fx.w_x fx.w_kx (T := 4) (by decide)) rfl fx.f_isinstance (se_var 0)) (sa_cons (se_isxC rfl fx.g_BadExpression (Caught.none rfl) (isxC_ok (fun _ => rfl) fx.w_x fx.w_kx (T := 5) (by decide)) rfl fx.f_isinstance (se_var 0)) (sa_cons (se_isxC rfl fx.g_TooMany (Caught.none rfl) (isxC_ok (fun _ => rfl) fx.w_x fx.w_kx (T := 6) (by decide)) rfl fx.f_isinstance (se_var 0)) (sa_cons (se_isxC rfl fx.g_BadStep (Caught.none rfl) (isxC_ok (fun _ => rfl) fx.w_x fx.w_kx (T := 7) (by decide)) rfl fx.f_isinstance (se_var 0)) (sa_cons (se_isxC rfl fx.g_BadEquation (Caught.none rfl) (isxC_ok (fun _ => rfl) fx.w_x fx.w_kx (T := 8) (by decide)) rfl fx.f_isinstance (se_var 0)) (sa_cons (se_isxC rfl fx.g_BadOrder (Caught.none rfl) (isxC_ok (fun _ => rfl) fx.w_x fx.w_kx (T := 9) (by decide)) rfl fx.f_isinstance (se_var 0)) (sa_cons (se_isxC rfl fx.g_BadRoom (Caught.none rfl) (isxC_ok (fun _ => rfl) fx.w_x fx.w_kx (T := 10) (by decide)) rfl fx.f_isinstance (se_var 0)) (sa_cons (se_isxC rfl fx.g_NotFilled (Caught.none rfl) (isxC_ok (fun _ => rfl) fx.w_x fx.w_kx (T := 11) (by decide)) rfl fx.f_isinstance (se_var 0)) (sa_cons (se_isxC rfl fx.g_Ended (Caught.none rfl) (isxC_ok (fun _ => rfl) fx.w_x fx.w_kx (T := 12) (by decide)) rfl fx.f_isinstance (se_var 0)) (sa_cons (se_isxC rfl fx.g_NoBook (Caught.none rfl) (isxC_ok (fun _ => rfl) fx.w_x fx.w_kx (T := 13) (by decide)) rfl fx.f_isinstance (se_var 0)) (sa_cons (se_isxC rfl fx.g_NotOpen (Caught.none rfl) (isxC_ok (fun _ => rfl) fx.w_x fx.w_kx (T := 14) (by decide)) rfl fx.f_isinstance (se_var 0)) (sa_cons (se_isxC rfl fx.g_NotLooked (Caught.none rfl) (isxC_ok (fun _ => rfl) fx.w_x fx.w_kx (T := 15) (by decide)) rfl fx.f_isinstance (se_var 0)) (sa_cons (se_isxC rfl fx.g_TooFull (Caught.none rfl) (isxC_ok (fun _ => rfl) fx.w_x fx.w_kx (T := 16) (by decide)) rfl fx.f_isinstance (se_var 0)) (sa_cons (se_isxC rfl fx.g_BadMany (Caught.none rfl) (isxC_ok (fun _ => rfl) fx.w_x fx.w_kx (T := 17) (by decide)) rfl fx.f_isinstance (se_var 0)) (sa_cons (se_isxC rfl fx.g_NoHand (Caught.none rfl) (isxC_ok (fun _ => rfl) fx.w_x fx.w_kx (T := 18) (by decide)) rfl fx.f_isinstance (se_var 0)) (sa_cons (se_isxC rfl fx.g_Busy (Caught.none rfl) (isxC_ok (fun _ => rfl) fx.w_x fx.w_kx (T := 19) (by decide)) rfl fx.f_isinstance (se_var 0)) (sa_cons (se_isxC rfl fx.g_Idle (Caught.none rfl) (isxC_ok (fun _ => rfl) fx.w_x fx.w_kx (T := 20) (by decide)) rfl fx.f_isinstance (se_var 0)) (sa_cons (se_isxC rfl fx.g_NoReport (Caught.none rfl) (isxC_ok (fun _ => rfl) fx.w_x fx.w_kx (T := 21) (by decide)) rfl fx.f_isinstance (se_var 0)) (sa_cons (se_isxC rfl fx.g_BadGrammar (Caught.none rfl) (isxC_ok (fun _ => rfl) fx.w_x fx.w_kx (T := 22) (by decide)) rfl fx.f_isinstance (se_var 0)) (sa_cons (se_isxC rfl fx.g_NoSymbol (Caught.none rfl) (isxC_ok (fun _ => rfl) fx.w_x fx.w_kx (T := 23) (by decide)) rfl fx.f_isinstance (se_var 0)) (sa_cons (se_isxC rfl fx.g_NoSign (Caught.none rfl) (isxC_ok (fun _ => rfl) fx.w_x fx.w_kx (T := 24) (by decide)) rfl fx.f_isinstance (se_var 0)) (sa_cons (se_isxC rfl fx.g_TooLong (Caught.none rfl) (isxC_ok (fun _ => rfl) fx.w_x fx.w_kx (T := 25) (by decide)) rfl fx.f_isinstance (se_var 0)) (sa_cons (se_isxC rfl fx.g_EmptyWord (Caught.none rfl) (isxC_ok (fun _ => rfl) fx.w_x fx.w_kx (T := 26) (by decide)) rfl fx.f_isinstance (se_var 0)) (sa_cons (se_isxC rfl fx.g_NoCut (Caught.none rfl) (isxC_ok (fun _ => rfl) fx.w_x fx.w_kx (T := 27) (by decide)) rfl fx.f_isinstance (se_var 0)) (sa_cons (se_isxC rfl fx.g_BadFilling (Caught.none rfl) (isxC_ok (fun _ => rfl) fx.w_x fx.w_kx (T := 28) (by decide)) rfl fx.f_isinstance (se_var 0)) (sa_cons (se_isxC rfl fx.g_NoName (Caught.none rfl) (isxC_ok (fun _ => rfl) fx.w_x fx.w_kx (T := 29) (by decide)) rfl fx.f_isinstance (se_var 0)) (sa_cons (se_isxC rfl fx.g_NotShut (Caught.none rfl) (isxC_ok (fun _ => rfl) fx.w_x fx.w_kx (T := 30) (by decide)) rfl fx.f_isinstance (se_var 0)) (sa_cons (se_isxC rfl fx.g_OtherDeeds (Caught.none rfl) (isxC_ok (fun _ => rfl) fx.w_x fx.w_kx (T := 31) (by decide)) rfl fx.f_isinstance (se_var 0)) (sa_cons (se_isxC rfl fx.g_BadPaperText (Caught.none rfl) (isxC_ok (fun _ => rfl) fx.w_x fx.w_kx (T := 32) (by decide)) rfl fx.f_isinstance (se_var 0)) (sa_cons (se_isxC rfl fx.g_TooWide (Caught.none rfl) (isxC_ok (fun _ => rfl) fx.w_x fx.w_kx (T := 33) (by decide)) rfl fx.f_isinstance (se_var 0)) (sa_cons (se_isxC rfl fx.g_BadScript (Caught.none rfl) (isxC_ok (fun _ => rfl) fx.w_x fx.w_kx (T := 34) (by decide)) rfl fx.f_isinstance (se_var 0)) (sa_cons (se_isxC rfl fx.g_ShortInputs (Caught.none rfl) (isxC_ok (fun _ => rfl) fx.w_x fx.w_kx (T := 35) (by decide)) rfl fx.f_isinstance (se_var 0)) (sa_cons (se_isxC rfl fx.g_NoIf (Caught.none rfl) (isxC_ok (fun _ => rfl) fx.w_x fx.w_kx (T := 36) (by decide)) rfl fx.f_isinstance (se_var 0)) (sa_cons (se_isxC rfl fx.g_NoWay (Caught.none rfl) (isxC_ok (fun _ => rfl) fx.w_x fx.w_kx (T := 37) (by decide)) rfl fx.f_isinstance (se_var 0)) (sa_cons (se_isxC rfl fx.g_UnlikeScripts (Caught.none rfl) (isxC_ok (fun _ => rfl) fx.w_x fx.w_kx (T := 38) (by decide)) rfl fx.f_isinstance (se_var 0)) (sa_cons (se_isxC rfl fx.g_BadDeed (Caught.none rfl) (isxC_ok (fun _ => rfl) fx.w_x fx.w_kx (T := 39) (by decide)) rfl fx.f_isinstance (se_var 0)) (sa_cons (se_isxC rfl fx.g_FullDesk (Caught.none rfl) (isxC_ok (fun _ => rfl) fx.w_x fx.w_kx (T := 40) (by decide)) rfl fx.f_isinstance (se_var 0)) (sa_cons (se_isxC rfl fx.g_NoBack (Caught.none rfl) (isxC_ok (fun _ => rfl) fx.w_x fx.w_kx (T := 41) (by decide)) rfl fx.f_isinstance (se_var 0)) (sa_cons (se_isxC rfl fx.g_IsCut (Caught.none rfl) (isxC_ok (fun _ => rfl) fx.w_x fx.w_kx (T := 42) (by decide)) rfl fx.f_isinstance (se_var 0)) (sa_cons (se_isxC rfl fx.g_NotCut (Caught.none rfl) (isxC_ok (fun _ => rfl) fx.w_x fx.w_kx (T := 43) (by decide)) rfl fx.f_isinstance (se_var 0)) (sa_cons (se_isxC rfl fx.g_NoEngine (Caught.none rfl) (isxC_ok (fun _ => rfl) fx.w_x fx.w_kx (T := 44) (by decide)) rfl fx.f_isinstance (se_var 0)) (sa_cons (se_isxC rfl fx.g_NoPaper (Caught.none rfl) (isxC_ok (fun _ => rfl) fx.w_x fx.w_kx (T := 45) (by decide)) rfl fx.f_isinstance (se_var 0)) (sa_cons (se_isxC rfl fx.g_NoScript (Caught.none rfl) (isxC_ok (fun _ => rfl) fx.w_x fx.w_kx (T := 46) (by decide)) rfl fx.f_isinstance (se_var 0)) (sa_cons (se_isxC rfl fx.g_NoStatement (Caught.none rfl) (isxC_ok (fun _ => rfl) fx.w_x fx.w_kx (T := 47) (by decide)) rfl fx.f_isinstance (se_var 0)) sa_nil))))))))))))))))))))))))))))))))))))))))))))))))))
theorem b__law_kinds (fx : Fx K mg fd) : BodyOk P w K mg base (ct K) (fns K fd) ⟨He.fAd K d__law_kinds.at_, fd 20, ["_law_raised"]⟩ ⟨1, 1, false, m__law_kinds⟩ :=
  ⟨_, "_law_kinds", _, _, _, _, _, N__law_kinds, fx.D__law_kinds, sc__law_kinds, rfl, rfl, by decide, fun call n co cdv A outer s H E hr => t__law_kinds fx call n cdv A outer s H E ⟨co, hr⟩⟩
abbrev N__law_alone : List Str := ["_law_at", "_law_raised", "_law_told", "_law_k"]
theorem sc__law_alone : FnScope N__law_alone ["_law_at", "_law_raised"] (defScope s__law_alone) := ⟨by kernel_rfl, by kernel_rfl, by kernel_rfl, by decide +kernel, rfl, by decide +kernel, by decide +kernel⟩
theorem t__law_alone (fx : Fx K mg fd) (call : CallT) (n : Nat) (cdv : Value) (A : Around) (outer : List Env) (s : Shared) (H : Hp) (E : XK) (c : Cq (cxOf (L2.CX P w) P w K mg base N__law_alone "_law_alone" (defScope s__law_alone) (He.fAd K d__law_alone.at_) cdv A outer s H E) (ct K) (fns K fd) call n) :
    SSs (cxOf (L2.CX P w) P w K mg base N__law_alone "_law_alone" (defScope s__law_alone) (He.fAd K d__law_alone.at_) cdv A outer s H E) (ct K) (fun c d _ H' => E c d H') (defBody s__law_alone) (m__law_alone call) := by
  have tk : Takes (cxOf (L2.CX P w) P w K mg base N__law_alone "_law_alone" (defScope s__law_alone) (He.fAd K d__law_alone.at_) cdv A outer s H E) (fun cls d _ H' => E cls d H') := takes_of rfl rfl rfl rfl
  have nd := sc__law_alone.nd
  have po : PassesOwn (model P w) (cxOf (L2.CX P w) P w K mg base N__law_alone "_law_alone" (defScope s__law_alone) (He.fAd K d__law_alone.at_) cdv A outer s H E).A (cxOf (L2.CX P w) P w K mg base N__law_alone "_law_alone" (defScope s__law_alone) (He.fAd K d__law_alone.at_) cdv A outer s H E).env (cxOf (L2.CX P w) P w K mg base N__law_alone "_law_alone" (defScope s__law_alone) (He.fAd K d__law_alone.at_) cdv A outer s H E).xe := passes_of rfl
  exact (sss_cons (ss_if (st_bool (sw_or (st_not (st_truth (se_isxC rfl fx.g_PressError (Caught.none rfl) (isxC_ok (fun _ => rfl) fx.w_x fx.w_kx (T := 0) (by decide)) rfl fx.f_isinstance (se_var 1)))) (sw_or1 (st_not (st_truth (se_isxB (T := "ValueError") rfl fx.f_ValueError (by decide +kernel) (Caught.none rfl) (isxB_ok (fun _ => rfl) fx.w_x fx.w_ky (by decide)) rfl fx.f_isinstance (se_var 1)))))))
      (sss_one (ss_ret' se_bl))
      sss_nil)
      (sss_cons (ss_set nd (i := 2) rfl (by first | exact .inl rfl | exact .inr rfl) (sc_call ⟨c.co, c.ro⟩ tk fx.i__law_kinds fx.g__law_kinds rfl rfl (sa_cons (se_var 1) sa_nil)))
      (sss_one (ss_ret' (se_cmp (eq_sound (unR c.ro)) (se_var 2) (se_lc false rfl nd (si_rng1 rfl fx.f_range (sa_cons (se_callB len_sound rfl fx.f_len (by decide +kernel) (sa_cons (se_var 2) sa_nil)) sa_nil)) (own := [("_law_k", 3)]) (blkOk_by (by first | decide +kernel | kernel_rfl)) rfl (fun _ _ _ _ _ => (sgc_name nd (i := 3) rfl (by first | exact .inl rfl | exact .inr rfl) (by decide))) (fun _ _ _ _ _ => spt_nil) (fun _ _ _ _ _ => (se_cmp (eq_sound (unR c.ro)) (se_var 3) (se_var 0)))))))))
theorem b__law_alone (fx : Fx K mg fd) : BodyOk P w K mg base (ct K) (fns K fd) ⟨He.fAd K d__law_alone.at_, fd 21, ["_law_at", "_law_raised"]⟩ ⟨2, 4, false, m__law_alone⟩ :=
  ⟨_, "_law_alone", _, _, _, _, _, N__law_alone, fx.D__law_alone, sc__law_alone, rfl, rfl, by decide, fun call n co cdv A outer s H E hr => t__law_alone fx call n cdv A outer s H E ⟨co, hr⟩⟩
abbrev N_law : List Str := ["_law_script", "_law_source_here", "_law_at", "_law_raised", "_law_turn", "_law_thing_here", "_law_rows", "_law_kept", "_law_other"]
theorem sc_law : FnScope N_law ["_law_script"] (defScope s_law) := ⟨by kernel_rfl, by kernel_rfl, by kernel_rfl, by decide +kernel, rfl, by decide +kernel, by decide +kernel⟩
theorem t_law (fx : Fx K mg fd) (call : CallT) (n : Nat) (cdv : Value) (A : Around) (outer : List Env) (s : Shared) (H : Hp) (E : XK) (c : Cq (cxOf (L2.CX P w) P w K mg base N_law "law" (defScope s_law) (He.fAd K d_law.at_) cdv A outer s H E) (ct K) (fns K fd) call n) :
    SSs (cxOf (L2.CX P w) P w K mg base N_law "law" (defScope s_law) (He.fAd K d_law.at_) cdv A outer s H E) (ct K) (fun c d _ H' => E c d H') (defBody s_law) (m_law call) := by
  have tk : Takes (cxOf (L2.CX P w) P w K mg base N_law "law" (defScope s_law) (He.fAd K d_law.at_) cdv A outer s H E) (fun cls d _ H' => E cls d H') := takes_of rfl rfl rfl rfl
  have nd := sc_law.nd
  have po : PassesOwn (model P w) (cxOf (L2.CX P w) P w K mg base N_law "law" (defScope s_law) (He.fAd K d_law.at_) cdv A outer s H E).A (cxOf (L2.CX P w) P w K mg base N_law "law" (defScope s_law) (He.fAd K d_law.at_) cdv A outer s H E).env (cxOf (L2.CX P w) P w K mg base N_law "law" (defScope s_law) (He.fAd K d_law.at_) cdv A outer s H E).xe := passes_of rfl
  exact (sss_cons (ss_set nd (i := 1) rfl (by first | exact .inl rfl | exact .inr rfl) (sc_call ⟨c.co, c.ro⟩ tk fx.i__law_source fx.g__law_source rfl rfl (sa_cons (se_var 0) sa_nil)))
      (sss_cons (ss_for po rfl (si_seq (sc_call0 ⟨c.co, c.ro⟩ tk fx.i__law_bare fx.g__law_bare rfl rfl)) (sg_tup rfl (sgs_cons (sg_name nd (i := 2) rfl (by first | exact .inl rfl | exact .inr rfl)) (sgs_cons (sg_name nd (i := 3) rfl (by first | exact .inl rfl | exact .inr rfl)) sgs_nil)))
      (sss_one (ss_if (st_not (st_truth (sc_call ⟨c.co, c.ro⟩ tk fx.i__law_alone fx.g__law_alone rfl rfl (sa_cons (se_var 2) (sa_cons (se_var 3) sa_nil)))))
      (sss_one (ss_ret' se_bl))
      sss_nil)))
      (sss_cons (ss_for po rfl (si_rng1 rfl fx.f_range (sa_cons se_int sa_nil)) (sg_name nd (i := 4) rfl (by first | exact .inl rfl | exact .inr rfl))
      (sss_cons (ss_set nd (i := 5) rfl (by first | exact .inl rfl | exact .inr rfl) (sc_call ⟨c.co, c.ro⟩ tk fx.i__law_thing fx.g__law_thing rfl rfl (sa_cons (se_var 1) sa_nil)))
      (sss_cons (ss_set nd (i := 6) rfl (by first | exact .inl rfl | exact .inr rfl) (se_bin add_sound (se_bin add_sound (se_bin add_sound (sc_call ⟨c.co, c.ro⟩ tk fx.i__law_what_rows fx.g__law_what_rows rfl rfl (sa_cons (se_var 5) sa_nil)) (sc_call ⟨c.co, c.ro⟩ tk fx.i__law_how_rows fx.g__law_how_rows rfl rfl (sa_cons (se_var 5) sa_nil))) (sc_call ⟨c.co, c.ro⟩ tk fx.i__law_number_rows fx.g__law_number_rows rfl rfl (sa_cons (se_var 5) sa_nil))) (sc_call ⟨c.co, c.ro⟩ tk fx.i__law_waiting_rows fx.g__law_waiting_rows rfl rfl (sa_cons (se_var 5) sa_nil))))
      (sss_cons (ss_set nd (i := 6) rfl (by first | exact .inl rfl | exact .inr rfl) (se_bin add_sound (se_bin add_sound (se_bin add_sound (se_bin add_sound (se_var 6) (sc_call ⟨c.co, c.ro⟩ tk fx.i__law_hand_rows fx.g__law_hand_rows rfl rfl (sa_cons (se_var 5) sa_nil))) (sc_call ⟨c.co, c.ro⟩ tk fx.i__law_report_rows fx.g__law_report_rows rfl rfl (sa_cons (se_var 5) sa_nil))) (sc_call ⟨c.co, c.ro⟩ tk fx.i__law_at_rows fx.g__law_at_rows rfl rfl (sa_cons (se_var 5) sa_nil))) (sc_call ⟨c.co, c.ro⟩ tk fx.i__law_symbol_rows fx.g__law_symbol_rows rfl rfl (sa_cons (se_var 5) sa_nil))))
      (sss_cons (ss_set nd (i := 6) rfl (by first | exact .inl rfl | exact .inr rfl) (se_bin add_sound (se_bin add_sound (se_bin add_sound (se_bin add_sound (se_var 6) (sc_call ⟨c.co, c.ro⟩ tk fx.i__law_length_rows fx.g__law_length_rows rfl rfl (sa_cons (se_var 5) sa_nil))) (sc_call ⟨c.co, c.ro⟩ tk fx.i__law_name_rows fx.g__law_name_rows rfl rfl (sa_cons (se_var 5) sa_nil))) (sc_call ⟨c.co, c.ro⟩ tk fx.i__law_used_rows fx.g__law_used_rows rfl rfl (sa_cons (se_var 5) sa_nil))) (sc_call ⟨c.co, c.ro⟩ tk fx.i__law_road_rows fx.g__law_road_rows rfl rfl (sa_cons (se_var 5) sa_nil))))
      (sss_cons (ss_set nd (i := 6) rfl (by first | exact .inl rfl | exact .inr rfl) (se_bin add_sound (se_var 6) (sc_call ⟨c.co, c.ro⟩ tk fx.i__law_turns_rows fx.g__law_turns_rows rfl rfl (sa_cons (se_var 5) sa_nil))))
      (sss_cons (ss_for po rfl (si_seq (se_var 6)) (sg_tup rfl (sgs_cons (sg_name nd (i := 2) rfl (by first | exact .inl rfl | exact .inr rfl)) (sgs_cons (sg_name nd (i := 3) rfl (by first | exact .inl rfl | exact .inr rfl)) (sgs_cons (sg_name nd (i := 7) rfl (by first | exact .inl rfl | exact .inr rfl)) sgs_nil))))
      (sss_one (ss_if (st_bool (sw_or (st_cmp (ne_sound (unR c.ro)) (se_var 7) (se_var 5)) (sw_or1 (st_not (st_truth (sc_call ⟨c.co, c.ro⟩ tk fx.i__law_alone fx.g__law_alone rfl rfl (sa_cons (se_var 2) (sa_cons (se_var 3) sa_nil))))))))
      (sss_one (ss_ret' se_bl))
      sss_nil)))
      (sss_cons (ss_set nd (i := 8) rfl (by first | exact .inl rfl | exact .inr rfl) (sc_call ⟨c.co, c.ro⟩ tk fx.i__law_thing fx.g__law_thing rfl rfl (sa_cons (se_var 1) sa_nil)))
      (sss_one (ss_for po rfl (si_seq (sc_call ⟨c.co, c.ro⟩ tk fx.i__law_couple_rows fx.g__law_couple_rows rfl rfl (sa_cons (se_var 5) (sa_cons (se_var 8) sa_nil)))) (sg_tup rfl (sgs_cons (sg_name nd (i := 2) rfl (by first | exact .inl rfl | exact .inr rfl)) (sgs_cons (sg_name nd (i := 3) rfl (by first | exact .inl rfl | exact .inr rfl)) (sgs_cons (sg_name nd (i := 7) rfl (by first | exact .inl rfl | exact .inr rfl)) sgs_nil))))
      (sss_one (ss_if (st_bool (sw_or (st_cmp (ne_sound (unR c.ro)) (se_var 7) (se_tup (sa_cons (se_var 5) (sa_cons (se_var 8) sa_nil)))) (sw_or1 (st_not (st_truth (sc_call ⟨c.co, c.ro⟩ tk fx.i__law_alone fx.g__law_alone rfl rfl (sa_cons (se_var 2) (sa_cons (se_var 3) sa_nil))))))))
      (sss_one (ss_ret' se_bl))
      sss_nil))))))))))))
      (sss_one (ss_ret' se_bl)))))
theorem b_law (fx : Fx K mg fd) : BodyOk P w K mg base (ct K) (fns K fd) ⟨He.fAd K d_law.at_, fd 22, ["_law_script"]⟩ ⟨1, 9, false, m_law⟩ :=
  ⟨_, "law", _, _, _, _, _, N_law, fx.D_law, sc_law, rfl, rfl, by decide, fun call n co cdv A outer s H E hr => t_law fx call n cdv A outer s H E ⟨co, hr⟩⟩
theorem bodies (fx : Fx K mg fd) (i : Nat) (F : Fn) (md : MDef) (hF : (fns K fd)[i]? = some F) (hd : defs[i]? = some md) : BodyOk P w K mg base (ct K) (fns K fd) F md := by
  match i, hF, hd with
  | 0, hF, hd => cases hF; cases hd; exact b__law_source fx
  | 1, hF, hd => cases hF; cases hd; exact b__law_take fx
  | 2, hF, hd => cases hF; cases hd; exact b__law_pick fx
  | 3, hF, hd => cases hF; cases hd; exact b__law_text fx
  | 4, hF, hd => cases hF; cases hd; exact b__law_thing fx
  | 5, hF, hd => cases hF; cases hd; exact b__law_bare fx
  | 6, hF, hd => cases hF; cases hd; exact b__law_what_rows fx
  | 7, hF, hd => cases hF; cases hd; exact b__law_how_rows fx
  | 8, hF, hd => cases hF; cases hd; exact b__law_number_rows fx
  | 9, hF, hd => cases hF; cases hd; exact b__law_waiting_rows fx
  | 10, hF, hd => cases hF; cases hd; exact b__law_hand_rows fx
  | 11, hF, hd => cases hF; cases hd; exact b__law_report_rows fx
  | 12, hF, hd => cases hF; cases hd; exact b__law_at_rows fx
  | 13, hF, hd => cases hF; cases hd; exact b__law_symbol_rows fx
  | 14, hF, hd => cases hF; cases hd; exact b__law_length_rows fx
  | 15, hF, hd => cases hF; cases hd; exact b__law_name_rows fx
  | 16, hF, hd => cases hF; cases hd; exact b__law_used_rows fx
  | 17, hF, hd => cases hF; cases hd; exact b__law_road_rows fx
  | 18, hF, hd => cases hF; cases hd; exact b__law_turns_rows fx
  | 19, hF, hd => cases hF; cases hd; exact b__law_couple_rows fx
  | 20, hF, hd => cases hF; cases hd; exact b__law_kinds fx
  | 21, hF, hd => cases hF; cases hd; exact b__law_alone fx
  | 22, hF, hd => cases hF; cases hd; exact b_law fx
  | _ + 23, hF, _ => simp at hF
theorem all (fx : Fx K mg fd) (n : Nat) : CallOk P w K mg base (ct K) (fns K fd) (callF defs n) n := all_ok rfl (bodies fx) n
end
end K00

namespace K00
open PySem PySem.Spec L2 Mi
/-! printed by head.py: the head -/
def fuel : Nat := 20
theorem close (hlaw : ∀ ns : List Int, ns.length ≤ 63 → ∃ h, callF defs fuel 22 [.d (.scr (ns.map D.int))] [] = .ok (.d (.bl true)) h) : PySem.Challenge.rw_pressedwords_k00_errors_side_by_side.Holds := by
  open PySem.W PySem.Calls PyProof.Rows in
  w_on; o_law
  refine HandSHeadRun.head_any (r := R) (q := PySem.W.view R.prog [72]) (H := hk) (ob := ob) (M := 15000) (loose := ((["PressError", "BadBook", "BadLetters", "BadSaying", "BadText", "BadExpression", "TooMany", "BadStep", "BadEquation", "BadOrder", "BadRoom", "NotFilled", "Ended", "NoBook", "NotOpen", "NotLooked", "TooFull", "BadMany", "NoHand", "Busy"] : List Str) ++ (["Idle", "NoReport", "BadGrammar", "NoSymbol", "NoSign", "TooLong", "EmptyWord", "NoCut", "BadFilling", "NoName", "NotShut", "OtherDeeds", "BadPaperText", "TooWide", "BadScript", "ShortInputs", "NoIf", "NoWay", "UnlikeScripts", "BadDeed"] : List Str) ++ (["FullDesk", "NoBack", "IsCut", "NotCut", "NoEngine", "NoPaper", "NoScript", "NoStatement", "_law_source", "_law_take", "_law_pick", "_law_text", "_law_thing", "_law_bare", "_law_what_rows", "_law_how_rows", "_law_number_rows", "_law_waiting_rows", "_law_hand_rows", "_law_report_rows"] : List Str) ++ (["_law_at_rows", "_law_symbol_rows", "_law_length_rows", "_law_name_rows", "_law_used_rows", "_law_road_rows", "_law_turns_rows", "_law_couple_rows", "_law_kinds", "_law_alone"] : List Str))) (d := HandSHeadRun.topDef R.prog 72) (kwd := []) ob_eq
    (by kernel_rfl) (fun s => by kernel_rfl) run (by kernel_rfl) (by kernel_rfl) (by kernel_rfl) (by rfl) (by first | assumption | decide +kernel) (by decide +kernel) ⟨rfl, rfl, rfl, rfl, rfl, by decide +kernel⟩ ?hw ?hc
  case hw => w_witness2
  case hc =>
    refine walk_law (l := PySem.Challenge.rw_pressedwords_k00_errors_side_by_side) (n := 63) (k := 2 * fuel + 1) (x := "_law_script") (CX := L2.CX0) rfl (by decide) (by kernel_rfl) ⟨⟨rfl, by decide, by decide⟩, rfl⟩ ?F (fun _ _ _ _ z => z)
    intro w mg fa h Y G hmg0
    obtain ⟨K, KX, c⟩ := Y
    have hmg : mg ("law" : PySem.Str) = some (.ref fa) := by
      have e : (HandSHeadRun.topDef R.prog 72).name = ("law" : PySem.Str) := by kernel_rfl
      rw [← e]
      exact hmg0
    have ex : ∀ i : Nat, ∃ f : FuncData, ∀ d : He.DefD, fn[i]? = some d → FunD K d.name d.qual d.params d.body d.scope (d.dvs K) (d.kws K) (He.fAd K d.at_) f := fun i => by
      cases q : fn[i]? with
      | none => exact ⟨⟨"", "", ⟨[], [], none, [], [], none, []⟩, .stmts [], ⟨.function, [], false, false, []⟩, 0, [], .none, .none, .none, .none, none, .none, .none, 0⟩, fun d z => nomatch z⟩
      | some d =>
        obtain ⟨f, z⟩ := c.d.def_ i q
        exact ⟨f, fun d' z' => by cases z'; exact z⟩
    have fx := fx_of (fd := fun i => (ex i).choose) KX G c fun i => (ex i).choose_spec
    have e := hmg.symm.trans fx.g_law
    cases e
    refine ⟨K, _, fun vs H Q _ => spC K (ct K) (callF defs fuel) 22 vs H Q fun _ _ _ => False, KX, fun s u => fx.D_law.bindsA (ps := ["_law_script"]) (fun _ _ _ _ _ _ us hl => match us, hl with | [_], _ => rfl) s [u] rfl, fun H a ns hl hO hS => law_sp (ct := ct K) hlaw H a ns hl hO hS, fun base hK hG => ?_⟩
    exact FnOk.still ((Mi.CallOk.ok (all (P := (PySem.Challenge.rw_pressedwords_k00_errors_side_by_side).prog) (w := w) (base := base) fx fuel)) 22 _ rfl)
end K00

/-! K00b: each error is alone; the rows of errors -/
namespace K00
open PySem PySem.Spec Mi
def errs : List Nat := List.range 47
theorem alone19 (o : O) (fs : List (Nat × D)) : errs.map (fun i : Nat => callF defs 19 21 [.d (.int (i : Int)), .d (.exc (i + 1) fs)] [o]) = errs.map fun _ => .ok (.d (.bl true)) [o] := by kernel_rfl
theorem e_alone (o : O) (fs : List (Nat × D)) {i : Nat} (h : i < 47) : callF defs 19 21 [.d (.int (i : Int)), .d (.exc (i + 1) fs)] [o] = .ok (.d (.bl true)) [o] := by
  have e := congrArg (fun l => l[i]?) (alone19 o fs)
  have hi : errs[i]? = some i := by unfold errs; rw [List.getElem?_range h]
  simp only [List.getElem?_map, hi, Option.map_some] at e
  exact Option.some.inj e
/-- what the rows of errors are -/
def bareL : List D := [1, 5, 6, 8, 9, 10, 16, 25, 29, 30, 31, 37, 39, 40, 41, 42, 43, 45].map fun i : Nat => D.tup [.int i, .exc (i + 1) []]
theorem e_bare (o : O) : callF defs 19 5 [] [o] = .ok (.d (.lv bareL)) [o] := by kernel_rfl
def rowL (d : D) (k : Nat) (is : List Nat) : List D := is.map fun i : Nat => D.tup [.int i, .exc (i + 1) [(k, d)], d]
theorem e_6 (o : O) (d : D) : callF defs 19 6 [.d d] [o] = .ok (.d (.lv (rowL d 0 [0, 2, 4, 32, 38]))) [o] := by kernel_rfl
theorem e_7 (o : O) (d : D) : callF defs 19 7 [.d d] [o] = .ok (.d (.lv (rowL d 4 [11]))) [o] := by kernel_rfl
theorem e_8 (o : O) (d : D) : callF defs 19 8 [.d d] [o] = .ok (.d (.lv (rowL d 5 [12, 13, 14]))) [o] := by kernel_rfl
theorem e_9 (o : O) (d : D) : callF defs 19 9 [.d d] [o] = .ok (.d (.lv (rowL d 6 [15]))) [o] := by kernel_rfl
theorem e_10 (o : O) (d : D) : callF defs 19 10 [.d d] [o] = .ok (.d (.lv (rowL d 7 [17, 18, 19]))) [o] := by kernel_rfl
theorem e_11 (o : O) (d : D) : callF defs 19 11 [.d d] [o] = .ok (.d (.lv (rowL d 8 [20]))) [o] := by kernel_rfl
theorem e_12 (o : O) (d : D) : callF defs 19 12 [.d d] [o] = .ok (.d (.lv (rowL d 3 [21, 23, 27, 44]))) [o] := by kernel_rfl
theorem e_13 (o : O) (d : D) : callF defs 19 13 [.d d] [o] = .ok (.d (.lv (rowL d 9 [22]))) [o] := by kernel_rfl
theorem e_14 (o : O) (d : D) : callF defs 19 14 [.d d] [o] = .ok (.d (.lv (rowL d 10 [24]))) [o] := by kernel_rfl
theorem e_15 (o : O) (d : D) : callF defs 19 15 [.d d] [o] = .ok (.d (.lv (rowL d 13 [28]))) [o] := by kernel_rfl
theorem e_16 (o : O) (d : D) : callF defs 19 16 [.d d] [o] = .ok (.d (.lv (rowL d 15 [34]))) [o] := by kernel_rfl
theorem e_17 (o : O) (d : D) : callF defs 19 17 [.d d] [o] = .ok (.d (.lv (rowL d 14 [35, 46]))) [o] := by kernel_rfl
theorem e_18 (o : O) (d : D) : callF defs 19 18 [.d d] [o] = .ok (.d (.lv (rowL d 16 [36]))) [o] := by kernel_rfl
def couL (d e : D) : List D := [.tup [.int 3, .exc 4 [(2, e), (1, d)], .tup [d, e]], .tup [.int 7, .exc 8 [(0, e), (3, d)], .tup [d, e]], .tup [.int 26, .exc 27 [(12, e), (11, d)], .tup [d, e]], .tup [.int 33, .exc 34 [(14, e), (0, d)], .tup [d, e]]]
theorem e_19 (o : O) (d e : D) : callF defs 19 19 [.d d, .d e] [o] = .ok (.d (.lv (couL d e))) [o] := by kernel_rfl
end K00

/-! K00c: the drawn things -/
namespace K00
open PySem PySem.Spec Mi
@[simp] theorem lc_end (h : Hs) (l : List D) : lcEnd false h.length (h ++ [.lst l]) = .ok (.d (.lv l)) h := by
  unfold lcEnd
  simp
theorem k_take (n k : Nat) (hk : k < 1000000) {src : O} (hs : Src k src) (M : Nat) (hM : 0 < M) (hM2 : M < 2 ^ 180) (t : Hs) : ∃ v : Nat, v < M ∧ ∃ src', Src (k + 1) src' ∧ callF defs (n + 1) 1 [.r 0, .d (.int (M : Int))] (src :: t) = .ok (.d (.int (v : Int))) (src' :: t) :=
  e_take rfl n k hk hs M hM hM2 t
theorem k_pick (n k : Nat) (hk : k < 1000000) {src : O} (hs : Src k src) {xs : List D} (h0 : xs ≠ []) (hz : xs.length ≤ 100000) (t : Hs) : ∃ d ∈ xs, ∃ src', Src (k + 1) src' ∧ callF defs (n + 2) 2 [.r 0, .d (.lv xs)] (src :: t) = .ok (.d d) (src' :: t) := by
  obtain ⟨v, hv, src', s', e⟩ := k_take n k hk hs xs.length (List.length_pos_iff.mpr h0) (Nat.lt_of_le_of_lt hz (by decide)) t
  refine ⟨xs[v], List.getElem_mem hv, src', s', ?_⟩
  rw [callF_at (md := ⟨2, 2, false, m__law_pick⟩) rfl rfl]
  have ix : L2.atI xs (v : Int) = some xs[v] := by rw [atI_nat, List.getElem?_eq_getElem hv]
  simp [startL, e, ix]
/-- a letter of the alphabet, or the blank -/
def Sign (d : D) : Prop := ∃ c : Nat, d = .str ⟨#[c]⟩ ∧ c < 200
theorem strOk_join : ∀ ys : List Str, (∀ y ∈ ys, ∃ c : Nat, y = ⟨#[c]⟩ ∧ c < 200) → PyData.strOk (Txt.join ("" : Str) ys) = true := by
  intro ys
  rw [TL.join_eq]
  induction ys with
  | nil => intro _; decide +kernel
  | cons y ys ih =>
    intro h
    obtain ⟨c, rfl, hc⟩ := h y List.mem_cons_self
    have t := ih fun z hz => h z (List.mem_cons_of_mem _ hz)
    have one : PyData.strOk ⟨#[c]⟩ = true := by simp [PyData.strOk]; omega
    cases ys with
    | nil => exact one
    | cons z zs =>
      show PyData.strOk (⟨(#[c] ++ ("" : Str).cps) ++ (Str.join ("" : Str) (z :: zs)).cps⟩ : Str) = true
      unfold PyData.strOk at one t ⊢
      rw [Array.all_append, Array.all_append, one, t]
      decide +kernel
theorem strs_of : ∀ {l : List D}, (∀ d ∈ l, Sign d) → ∃ ys : List Str, strsOf l = some ys ∧ (∀ y ∈ ys, ∃ c : Nat, y = ⟨#[c]⟩ ∧ c < 200) ∧ ys.length = l.length ∧ (ys.map (·.length)).sum = l.length
  | [], _ => ⟨[], rfl, fun _ h => (by cases h), rfl, rfl⟩
  | d :: l, h => by
    obtain ⟨c, rfl, hc⟩ := h d List.mem_cons_self
    obtain ⟨ys, e1, e2, e3, e4⟩ := strs_of fun z hz => h z (List.mem_cons_of_mem _ hz)
    refine ⟨⟨#[c]⟩ :: ys, by simp only [strsOf, e1, Option.map_some], fun y hy => ?_, by simp [e3], ?_⟩
    · rcases List.mem_cons.mp hy with rfl | hy
      · exact ⟨c, rfl, hc⟩
      · exact e2 y hy
    · simp only [List.map_cons, List.sum_cons, e4, List.length_cons]
      have : Str.length ⟨#[c]⟩ = 1 := rfl
      omega
theorem alph (v : Nat) (hv : v < 27) (h : Hs) : ∃ c : Nat, c < 200 ∧ oIx (.d (.str "abcdefghijklmnopqrstuvwxyz ")) (.d (.int (v : Int))) h = some (.d (.str ⟨#[c]⟩), h) := by
  have e : ("abcdefghijklmnopqrstuvwxyz " : Str).cps.toList = [97, 98, 99, 100, 101, 102, 103, 104, 105, 106, 107, 108, 109, 110, 111, 112, 113, 114, 115, 116, 117, 118, 119, 120, 121, 122, 32] := by decide +kernel
  have z : ("abcdefghijklmnopqrstuvwxyz " : Str).length ≤ sizeLine := by decide +kernel
  have g : ∀ xs : List Nat, xs.length = 27 → (∀ x ∈ xs, x < 200) → ∃ c, c < 200 ∧ L2.atI xs (v : Int) = some c := fun xs hl hx => by
    refine ⟨xs[v]'(by omega), hx _ (List.getElem_mem _), ?_⟩
    rw [atI_nat, List.getElem?_eq_getElem]
  obtain ⟨c, hc, q⟩ := g ("abcdefghijklmnopqrstuvwxyz " : Str).cps.toList (by rw [e]; rfl) (by rw [e]; decide)
  refine ⟨c, hc, ?_⟩
  unfold oIx
  dsimp only
  rw [if_pos z, q]
  rfl
theorem k_text (n k : Nat) (hk : k + 100 < 1000000) {src : O} (hs : Src k src) (t : Hs) : ∃ y : Str, PyData.strOk y = true ∧ ∃ src', Src (k + 20) src' ∧ callF defs (n + 2) 3 [.r 0] (src :: t) = .ok (.d (.str y)) (src' :: t) := by
  obtain ⟨v, hv, src1, s1, e1⟩ := k_take n k (by omega) hs 9 (by omega) (by decide) t
  have e1' : callF defs (n + 1) 1 [.r 0, .d (.int 9)] (src :: t) = .ok (.d (.int (v : Int))) (src1 :: t) := e1
  obtain ⟨ys, src2, h1, h2, s2, e2⟩ := cmpL_draw (vs := [1]) (g := gNm 1) (f := eBin oIx (eK (.str "abcdefghijklmnopqrstuvwxyz ")) (eCl (callF defs (n + 1)) 1 [] (aCons (eVar 0) (aCons (eK (.int 27)) aNil)))) (σ := [some (.r 0), none]) 1 1000000 Sign t (rngD 0 v) (k + 1) src1 []
    (fun d _ k src h' hk hs => by
      obtain ⟨w, hw, src3, s3, e3⟩ := k_take n k (by omega) hs 27 (by omega) (by decide) h'
      have e3' : callF defs (n + 1) 1 [.r 0, .d (.int 27)] (src :: h') = .ok (.d (.int (w : Int))) (src3 :: h') := e3
      obtain ⟨c, hc, q⟩ := alph w hw (src3 :: h')
      refine ⟨_, .str ⟨#[c]⟩, src3, fun h => rfl, ⟨c, rfl, hc⟩, s3, ?_⟩
      simp [wipeL, e3', q])
    s1 (by rw [rngD_len]; omega) (by rw [rngD_len, sizeLine_eq]; simp; omega)
  rw [rngD_len] at h1 s2
  obtain ⟨zs, q1, q2, q3, q4⟩ := strs_of h2
  refine ⟨Txt.join ("" : Str) zs, strOk_join zs q2, src2, s2.up (by omega), ?_⟩
  rw [callF_at (md := ⟨1, 2, false, m__law_text⟩) rfl rfl]
  have rg := rngR_nat (k := v) (h := src1 :: t) (by omega)
  have hb : (zs.map (·.length)).sum + zs.length * ("" : Str).length ≤ 16777216 := by rw [q4, h1, show ("" : Str).length = 0 from rfl]; omega
  have z0 : ("" : Str).length = 0 := rfl
  have hb' : (zs.map (·.length)).sum ≤ 16777216 := by omega
  have le : lcEnd false (t.length + 1) (src2 :: (t ++ [.lst ys])) = .ok (.d (.lv ys)) (src2 :: t) := lc_end (src2 :: t) ys
  simp [startL, e1', rg, h2, e2, le, q1, hb', z0]
theorem cons5 (a b c d e : D) : [a, b, c, d, e] ≠ [] := by simp
theorem k_thing (n k : Nat) (hk : k + 1000 < 1000000) {src : O} (hs : Src k src) (t : Hs) : ∃ d : D, Sm 1 d ∧ ∃ src', Src (k + 30) src' ∧ callF defs (n + 3) 4 [.r 0] (src :: t) = .ok (.d d) (src' :: t) := by
  obtain ⟨v1, _, src1, s1, e1⟩ := k_take (n + 1) k (by omega) hs (10 ^ 21) (by decide) (by decide) t
  obtain ⟨y, hy, src2, s2, e2⟩ := k_text n (k + 1) (by omega) s1 t
  obtain ⟨v3, _, src3, s3, e3⟩ := k_take (n + 1) (k + 1 + 20) (by omega) s2 100 (by decide) (by decide) t
  obtain ⟨d, hd, src4, s4, e4⟩ := k_pick n (k + 1 + 20 + 1) (by omega) s3 (cons5 (.int ((v1 : Int) - 10 ^ 20)) (.str y) .non (.tup [.int (v3 : Int), .int 2]) (.tup [])) (by simp) t
  refine ⟨d, ?_, src4, s4.up (by omega), ?_⟩
  · simp only [List.mem_cons, List.not_mem_nil, or_false] at hd
    rcases hd with rfl | rfl | rfl | rfl | rfl
    · exact trivial
    · exact hy
    · exact trivial
    · intro x hx
      simp only [List.mem_cons, List.not_mem_nil, or_false] at hx
      rcases hx with rfl | rfl <;> exact trivial
    · exact fun x hx => nomatch hx
  · rw [callF_at (md := ⟨1, 1, false, m__law_thing⟩) rfl rfl]
    have p1 : ∀ h : Hs, oPow (.d (.int 10)) (.d (.int 21)) h = some (.d (.int (10 ^ 21)), h) := fun h => by
      rw [o_pow, show cPow 10 21 = true by decide +kernel]; rfl
    have p2 : ∀ h : Hs, oPow (.d (.int 10)) (.d (.int 20)) h = some (.d (.int (10 ^ 20)), h) := fun h => by
      rw [o_pow, show cPow 10 20 = true by decide +kernel]; rfl
    have e1' : callF defs (n + 2) 1 [.r 0, .d (.int (10 ^ 21))] (src :: t) = .ok (.d (.int (v1 : Int))) (src1 :: t) := e1
    have e3' : callF defs (n + 2) 1 [.r 0, .d (.int 100)] (src2 :: t) = .ok (.d (.int (v3 : Int))) (src3 :: t) := e3
    generalize callF defs (n + 2) = call at *
    generalize ((10 : Int) ^ 21) = A at *
    generalize ((10 : Int) ^ 20) = B at *
    simp [startL, p1, p2, e1', e2, e3', e4]
end K00

/-! K00d: the law -/
namespace K00
open PySem PySem.Spec Mi
def Row1 (d : D) : Prop := ∃ (i : Nat) (fs : List (Nat × D)), d = .tup [.int (i : Int), .exc (i + 1) fs] ∧ i < 47
def Row2 (x d : D) : Prop := ∃ (i : Nat) (fs : List (Nat × D)), d = .tup [.int (i : Int), .exc (i + 1) fs, x] ∧ i < 47
@[simp] theorem clr1_o (n : Nat) (x : Option D) : clr1 n (x.map Vl.d) = x.map Vl.d := by cases x <;> rfl
abbrev o_ (x : Option D) : Option Vl := x.map Vl.d
theorem lp1 (o : O) (a0 a4 a5 a6 a7 a8 : Option D) : ∀ (ds : List D), (∀ d ∈ ds, Row1 d) → ∀ x2 x3 : Option D, ∃ y2 y3 : Option D, forL (gTp 2 (gCo (gNm 2) (gCo (gNm 3) gNi))) (b_law_1 (callF defs 19)) ds [o_ a0, some (.r 0), o_ x2, o_ x3, o_ a4, o_ a5, o_ a6, o_ a7, o_ a8] [o] = .ok .nx [o_ a0, some (.r 0), o_ y2, o_ y3, o_ a4, o_ a5, o_ a6, o_ a7, o_ a8] [o]
  | [], _, x2, x3 => ⟨x2, x3, by simp [forL]⟩
  | d :: ds, h, x2, x3 => by
    obtain ⟨i, fs, rfl, hi⟩ := h d List.mem_cons_self
    obtain ⟨y2, y3, e⟩ := lp1 o a0 a4 a5 a6 a7 a8 ds (fun z hz => h z (List.mem_cons_of_mem _ hz)) (some (.int (i : Int))) (some (.exc (i + 1) fs))
    have q := e_alone o fs hi
    refine ⟨y2, y3, ?_⟩
    generalize callF defs 19 = call at *
    simp only [o_, Option.map_some] at e ⊢
    simp [forL, q, e]
theorem lp2 (o : O) {x : D} (hx : Sm 1 x) (a0 a4 a6 a8 : Option D) : ∀ (ds : List D), (∀ d ∈ ds, Row2 x d) → ∀ x2 x3 x7 : Option D, ∃ y2 y3 y7 : Option D, forL (gTp 3 (gCo (gNm 2) (gCo (gNm 3) (gCo (gNm 7) gNi)))) (b_law_2 (callF defs 19)) ds [o_ a0, some (.r 0), o_ x2, o_ x3, o_ a4, some (.d x), o_ a6, o_ x7, o_ a8] [o] = .ok .nx [o_ a0, some (.r 0), o_ y2, o_ y3, o_ a4, some (.d x), o_ a6, o_ y7, o_ a8] [o]
  | [], _, x2, x3, x7 => ⟨x2, x3, x7, by simp [forL]⟩
  | d :: ds, h, x2, x3, x7 => by
    obtain ⟨i, fs, rfl, hi⟩ := h d List.mem_cons_self
    obtain ⟨y2, y3, y7, e⟩ := lp2 o hx a0 a4 a6 a8 ds (fun z hz => h z (List.mem_cons_of_mem _ hz)) (some (.int (i : Int))) (some (.exc (i + 1) fs)) (some x)
    have q := e_alone o fs hi
    have r := o_neR (h := [o]) hx (by omega)
    refine ⟨y2, y3, y7, ?_⟩
    generalize callF defs 19 = call at *
    simp only [o_, Option.map_some] at e ⊢
    simp [forL, q, e, r]
theorem lp3 (o : O) {x z : D} (hx : Sm 1 x) (hz : Sm 1 z) (a0 a4 a6 : Option D) : ∀ (ds : List D), (∀ d ∈ ds, Row2 (.tup [x, z]) d) → ∀ x2 x3 x7 : Option D, ∃ y2 y3 y7 : Option D, forL (gTp 3 (gCo (gNm 2) (gCo (gNm 3) (gCo (gNm 7) gNi)))) (b_law_3 (callF defs 19)) ds [o_ a0, some (.r 0), o_ x2, o_ x3, o_ a4, some (.d x), o_ a6, o_ x7, some (.d z)] [o] = .ok .nx [o_ a0, some (.r 0), o_ y2, o_ y3, o_ a4, some (.d x), o_ a6, o_ y7, some (.d z)] [o]
  | [], _, x2, x3, x7 => ⟨x2, x3, x7, by simp [forL]⟩
  | d :: ds, h, x2, x3, x7 => by
    obtain ⟨i, fs, rfl, hi⟩ := h d List.mem_cons_self
    obtain ⟨y2, y3, y7, e⟩ := lp3 o hx hz a0 a4 a6 ds (fun z hz => h z (List.mem_cons_of_mem _ hz)) (some (.int (i : Int))) (some (.exc (i + 1) fs)) (some (.tup [x, z]))
    have q := e_alone o fs hi
    have hp : Sm 2 (.tup [x, z]) := fun y hy => by
      simp only [List.mem_cons, List.not_mem_nil, or_false] at hy
      rcases hy with rfl | rfl
      · exact hx
      · exact hz
    have r := o_neR (h := [o]) hp (by omega)
    refine ⟨y2, y3, y7, ?_⟩
    generalize callF defs 19 = call at *
    simp only [o_, Option.map_some] at e ⊢
    simp [forL, q, e, r]
theorem row_ok (d : D) (k : Nat) : ∀ is : List Nat, (∀ i ∈ is, i < 47) → ∀ y ∈ rowL d k is, Row2 d y := fun is h y hy => by
  obtain ⟨i, hi, rfl⟩ := List.mem_map.mp hy
  exact ⟨i, _, rfl, h i hi⟩
theorem row_len (d : D) (k : Nat) (is : List Nat) : (rowL d k is).length = is.length := by simp [rowL]
theorem cou_ok (d e : D) : ∀ y ∈ couL d e, Row2 (.tup [d, e]) y := fun y hy => by
  simp only [couL, List.mem_cons, List.not_mem_nil, or_false] at hy
  rcases hy with rfl | rfl | rfl | rfl
  · exact ⟨3, _, rfl, by omega⟩
  · exact ⟨7, _, rfl, by omega⟩
  · exact ⟨26, _, rfl, by omega⟩
  · exact ⟨33, _, rfl, by omega⟩
theorem bare_rows : ∀ y ∈ bareL, Row1 y := fun y hy => by
  obtain ⟨i, hi, rfl⟩ := List.mem_map.mp hy
  refine ⟨i, _, rfl, ?_⟩
  simp only [List.mem_cons, List.not_mem_nil, or_false] at hi
  omega
theorem addS (a b : List D) (h : Hs) (ha : a.length ≤ 200) (hb : b.length ≤ 200) : oAdd (.d (.lv a)) (.d (.lv b)) h = some (.d (.lv (a ++ b)), h) := by
  rw [o_addL, if_pos (by rw [sizeLine_eq]; omega)]
theorem round (k : Nat) (hk : k + 3000 < 1000000) {src : O} (hs : Src k src) (a0 x2 x3 x4 x5 x6 x7 x8 : Option D) : ∃ src', Src (k + 60) src' ∧ ∃ y2 y3 y5 y6 y7 y8 : Option D, b_law_4 (callF defs 19) [o_ a0, some (.r 0), o_ x2, o_ x3, o_ x4, o_ x5, o_ x6, o_ x7, o_ x8] [src] = .ok .nx [o_ a0, some (.r 0), o_ y2, o_ y3, o_ x4, o_ y5, o_ y6, o_ y7, o_ y8] [src'] := by
  obtain ⟨d, hd, src1, s1, t1⟩ := k_thing 16 k (by omega) hs []
  obtain ⟨e, he, src2, s2, t2⟩ := k_thing 16 (k + 30) (by omega) s1 []
  have f6 := e_6 src1 d
  have f7 := e_7 src1 d
  have f8 := e_8 src1 d
  have f9 := e_9 src1 d
  have f10 := e_10 src1 d
  have f11 := e_11 src1 d
  have f12 := e_12 src1 d
  have f13 := e_13 src1 d
  have f14 := e_14 src1 d
  have f15 := e_15 src1 d
  have f16 := e_16 src1 d
  have f17 := e_17 src1 d
  have f18 := e_18 src1 d
  have f19 := e_19 src2 d e
  have r6 := row_ok d 0 [0, 2, 4, 32, 38] (by decide)
  have r7 := row_ok d 4 [11] (by decide)
  have r8 := row_ok d 5 [12, 13, 14] (by decide)
  have r9 := row_ok d 6 [15] (by decide)
  have r10 := row_ok d 7 [17, 18, 19] (by decide)
  have r11 := row_ok d 8 [20] (by decide)
  have r12 := row_ok d 3 [21, 23, 27, 44] (by decide)
  have r13 := row_ok d 9 [22] (by decide)
  have r14 := row_ok d 10 [24] (by decide)
  have r15 := row_ok d 13 [28] (by decide)
  have r16 := row_ok d 15 [34] (by decide)
  have r17 := row_ok d 14 [35, 46] (by decide)
  have r18 := row_ok d 16 [36] (by decide)
  have l6 : (rowL d 0 [0, 2, 4, 32, 38]).length ≤ 5 := by rw [row_len]; decide
  have l7 : (rowL d 4 [11]).length ≤ 5 := by rw [row_len]; decide
  have l8 : (rowL d 5 [12, 13, 14]).length ≤ 5 := by rw [row_len]; decide
  have l9 : (rowL d 6 [15]).length ≤ 5 := by rw [row_len]; decide
  have l10 : (rowL d 7 [17, 18, 19]).length ≤ 5 := by rw [row_len]; decide
  have l11 : (rowL d 8 [20]).length ≤ 5 := by rw [row_len]; decide
  have l12 : (rowL d 3 [21, 23, 27, 44]).length ≤ 5 := by rw [row_len]; decide
  have l13 : (rowL d 9 [22]).length ≤ 5 := by rw [row_len]; decide
  have l14 : (rowL d 10 [24]).length ≤ 5 := by rw [row_len]; decide
  have l15 : (rowL d 13 [28]).length ≤ 5 := by rw [row_len]; decide
  have l16 : (rowL d 15 [34]).length ≤ 5 := by rw [row_len]; decide
  have l17 : (rowL d 14 [35, 46]).length ≤ 5 := by rw [row_len]; decide
  have l18 : (rowL d 16 [36]).length ≤ 5 := by rw [row_len]; decide
  generalize rowL d 0 [0, 2, 4, 32, 38] = v6 at *
  generalize rowL d 4 [11] = v7 at *
  generalize rowL d 5 [12, 13, 14] = v8 at *
  generalize rowL d 6 [15] = v9 at *
  generalize rowL d 7 [17, 18, 19] = v10 at *
  generalize rowL d 8 [20] = v11 at *
  generalize rowL d 3 [21, 23, 27, 44] = v12 at *
  generalize rowL d 9 [22] = v13 at *
  generalize rowL d 10 [24] = v14 at *
  generalize rowL d 13 [28] = v15 at *
  generalize rowL d 15 [34] = v16 at *
  generalize rowL d 14 [35, 46] = v17 at *
  generalize rowL d 16 [36] = v18 at *
  have c19 := cou_ok d e
  generalize couL d e = v19 at *
  have m1 := addS v6 v7 [src1] (by omega) (by omega)
  have m2 := addS (v6 ++ v7) v8 [src1] (by simp; omega) (by omega)
  have m3 := addS (v6 ++ v7 ++ v8) v9 [src1] (by simp; omega) (by omega)
  have j1 : ∀ y ∈ v6 ++ v7 ++ v8 ++ v9, Row2 d y := fun y hy => by
    simp only [List.mem_append] at hy
    rcases hy with ((h | h) | h) | h
    · exact r6 y h
    · exact r7 y h
    · exact r8 y h
    · exact r9 y h
  have n1 : (v6 ++ v7 ++ v8 ++ v9).length ≤ 20 := by simp; omega
  generalize v6 ++ v7 ++ v8 ++ v9 = w1 at *
  have m4 := addS w1 v10 [src1] (by omega) (by omega)
  have m5 := addS (w1 ++ v10) v11 [src1] (by simp; omega) (by omega)
  have m6 := addS (w1 ++ v10 ++ v11) v12 [src1] (by simp; omega) (by omega)
  have m7 := addS (w1 ++ v10 ++ v11 ++ v12) v13 [src1] (by simp; omega) (by omega)
  have j2 : ∀ y ∈ w1 ++ v10 ++ v11 ++ v12 ++ v13, Row2 d y := fun y hy => by
    simp only [List.mem_append] at hy
    rcases hy with (((h | h) | h) | h) | h
    · exact j1 y h
    · exact r10 y h
    · exact r11 y h
    · exact r12 y h
    · exact r13 y h
  have n2 : (w1 ++ v10 ++ v11 ++ v12 ++ v13).length ≤ 40 := by simp; omega
  generalize w1 ++ v10 ++ v11 ++ v12 ++ v13 = w2 at *
  have m8 := addS w2 v14 [src1] (by omega) (by omega)
  have m9 := addS (w2 ++ v14) v15 [src1] (by simp; omega) (by omega)
  have m10 := addS (w2 ++ v14 ++ v15) v16 [src1] (by simp; omega) (by omega)
  have m11 := addS (w2 ++ v14 ++ v15 ++ v16) v17 [src1] (by simp; omega) (by omega)
  have j3 : ∀ y ∈ w2 ++ v14 ++ v15 ++ v16 ++ v17, Row2 d y := fun y hy => by
    simp only [List.mem_append] at hy
    rcases hy with (((h | h) | h) | h) | h
    · exact j2 y h
    · exact r14 y h
    · exact r15 y h
    · exact r16 y h
    · exact r17 y h
  have n3 : (w2 ++ v14 ++ v15 ++ v16 ++ v17).length ≤ 60 := by simp; omega
  generalize w2 ++ v14 ++ v15 ++ v16 ++ v17 = w3 at *
  have m12 := addS w3 v18 [src1] (by omega) (by omega)
  have j4 : ∀ y ∈ w3 ++ v18, Row2 d y := fun y hy => by
    simp only [List.mem_append] at hy
    rcases hy with h | h
    · exact j3 y h
    · exact r18 y h
  generalize w3 ++ v18 = w4 at *
  obtain ⟨y2, y3, y7, q1⟩ := lp2 src1 hd a0 x4 (some (.lv w4)) x8 w4 j4 x2 x3 x7
  obtain ⟨z2, z3, z7, q2⟩ := lp3 src2 hd he a0 x4 (some (.lv w4)) v19 c19 y2 y3 y7
  refine ⟨src2, s2.up (by omega), z2, z3, some d, some (.lv w4), z7, some e, ?_⟩
  simp only [o_, Option.map_some] at q1 q2 ⊢
  generalize callF defs 19 = call at *
  rw [ab_law_4]
  simp [-o_addL, -List.append_assoc, t1, t2, f6, f7, f8, f9, f10, f11, f12, f13, f14, f15, f16, f17, f18, f19, m1, m2, m3, m4, m5, m6, m7, m8, m9, m10, m11, m12, q1, q2]
end K00

/-! K00e: the law holds -/
namespace K00
open PySem PySem.Spec Mi
theorem e_source (n : Nat) (ns : List Int) : callF defs (n + 1) 0 [.d (.scr (ns.map D.int))] [] = .ok (.r 0) [.lst [.lv (ns.map D.int), .int 0, .int 0, .int 1]] := by
  rw [callF_at (md := ⟨1, 1, true, m__law_source⟩) rfl rfl]
  simp [startL]
  rfl
theorem law_ok (ns : List Int) (_ : ns.length ≤ 63) : ∃ h, callF defs 20 22 [.d (.scr (ns.map D.int))] [] = .ok (.d (.bl true)) h := by
  have e0 := e_source 18 ns
  have s0 : Src 0 (.lst [.lv (ns.map D.int), .int 0, .int 0, .int 1]) := ⟨ns, 0, 0, 1, rfl, by omega, by omega⟩
  generalize O.lst [.lv (ns.map D.int), .int 0, .int 0, .int 1] = src at *
  generalize ns.map D.int = sc at *
  have eb := e_bare src
  obtain ⟨y2, y3, q0⟩ := lp1 src (some (.scr sc)) none none none none none bareL bare_rows none none
  generalize bareL = bl at *
  obtain ⟨src1, s1, z2, z3, z5, z6, z7, z8, q1⟩ := round 0 (by omega) s0 (some (.scr sc)) y2 y3 (some (.int 0)) none none none none
  obtain ⟨src2, s2, w2, w3, w5, w6, w7, w8, q2⟩ := round (0 + 60) (by omega) s1 (some (.scr sc)) z2 z3 (some (.int 1)) z5 z6 z7 z8
  obtain ⟨src3, s3, v2, v3, v5, v6, v7, v8, q3⟩ := round (0 + 60 + 60) (by omega) s2 (some (.scr sc)) w2 w3 (some (.int 2)) w5 w6 w7 w8
  have rg : rngR [.d (.int 3)] [src] = .ok [.int 0, .int 1, .int 2] [src] := rfl
  refine ⟨[], ?_⟩
  rw [callF_at (md := ⟨1, 9, false, m_law⟩) rfl rfl]
  simp only [o_, Option.map_some, Option.map_none] at q0 q1 q2 q3
  generalize callF defs 19 = call at *
  simp [-ab_law_4, -ab_law_1, startL, e0, eb, q0, rg, forL, q1, q2, q3]
end K00

theorem PySem.Challenge.cw_pressedwords_k00_errors_side_by_side_holds : PySem.Challenge.rw_pressedwords_k00_errors_side_by_side.Holds := by
  exact K00.close K00.law_ok
