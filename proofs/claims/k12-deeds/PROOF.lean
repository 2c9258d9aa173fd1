import PyProof.Rows.All
import Wide.All
import OpenK.AllK
import Wide.FinOn
import HandS.ForMost
import HandS.Exc
import HandS.WordsExc
import HandS.Flow
import HandS.ExcInit
import HandS.Wide
import HandS.TupAny
import HandS.IsInst
import HandS.Deep
import HandS.Codes
import HandS.Zip
import HandS.CallSlots
import HandS.Defaults
import HandS.ExcOwn
import HandS.Conv
import HandS.OwnEq
import KE.GoesEnum
import HandS.Head0
import HandS.Head1
import HandS.Head2
import HandS.HeadEnd
import HandS.HeadHook1
import HandS.HeadHook2
import HandS.Words
import HandS.Ends
import PyProof.NeKinds
import PyProof.P3Eq
import HandS.TupMul
import PyProof.StrOps2
import PyProof.ReprRoads
import PyProof.ReprLen
import HandS.Dict
import KE.GoesMore
import HandS.ExcIs
import HandS.ExcValue
import KE.KExcIs
import KE.SortData
import HandS.SortRule
import KE.KDictDisplayH
import HandS.GenList
import HandS.Style
import HandS.TryOnly
import HandS.Replace
import PyProof.CollectStr
import HandS.SetFor
import HandS.TupSets
import KE.KDictPairs
import KE.DataMinMax
import PySem.Challenge.RW_pressedwords_k12_whole_deeds_closed_with
set_option Elab.async false
set_option linter.all false
set_option maxRecDepth 100000
set_option maxHeartbeats 0
set_option autoImplicit false
namespace Mi
open PySem PySem.Spec L2
open He in
def obsM (xf : PySem.W.Frag → Bool) (fa : List Fa) (fn : List DefD) (K : PySem.W.Frag) : Bool × AlD := (xf K, obsD fa fn K)
open He in
def SaysM (xf : PySem.W.Frag → Bool) (fa : List Fa) (fn : List DefD) (K : PySem.W.Frag) : Prop := obsM xf fa fn K = (true, valD fn)
/-- the facts of isinstance that a class has -/
def isiB (K : PySem.W.Frag) (C : Addr) : Bool := He.eqO (PySem.W.findIn K (.ref C) "__class__") (some (some (.builtin "object.__class__"))) &&
  (He.eqO (PySem.W.specialIn K (.builtin "object.__class__") "__get__") (some (some (.builtin "getset_descriptor.__get__"))) &&
    (decide (PySem.W.takesIn K (.builtin "object.__class__") = some true) && decide (PySem.W.mroIn K C (.type "object") = some true)))
def kitA (K : PySem.W.Frag) (t u : Value) (b : Bool) : Bool := decide (PySem.W.kitOne K t u = some b)
def clsDef (s : Stmt) (i : Nat) : Stmt := match s with
  | .ClassDef _ _ _ b _ _ _ _ _ _ _ => b.getD i (.Pass ⟨0, 0, 0, 0⟩)
  | s => s

def cga (K : PySem.W.Frag) (cn : List Str) (C : Nat) : Addr := He.ga K (cn.getD C "")
def isiAllB (K : PySem.W.Frag) (cn : List Str) (ok : List Nat) : Bool := ok.all fun E => isiB K (cga K cn E)
def kitAllB (K : PySem.W.Frag) (cn : List Str) (ok : List Nat) (bt : List String) (cs : List Nat) : Bool := cs.all fun C => (ok.all fun E => kitA K (.ref (cga K cn E)) (.ref (cga K cn C)) (E == C)) && bt.all fun s => kitA K (.type s) (.ref (cga K cn C)) false
def nfAllB (K : PySem.W.Frag) (cn : List Str) (ts : List Nat) : Bool := ts.all fun a => ts.all fun b => PySem.W.notFirst K (cga K cn a) (.ref (cga K cn b))
/-- what is met anew: the set as the bits of a number, the new ones -/
def newA : List Addr → Nat → List Addr → Nat × List Addr
  | [], m, acc => (m, acc)
  | a :: as, m, acc => match Nat.testBit m a with
    | true => newA as m acc
    | false => newA as (m + Nat.shiftLeft 1 a) (a :: acc)
def refsOf (g : Addr → Option Obj) (a : Addr) : List Addr := match g a with
  | some o => He.refsD o
  | none => []
def newF (g : Addr → Option Obj) : List Addr → Nat → List Addr → Nat × List Addr
  | [], m, acc => (m, acc)
  | a :: as, m, acc => match newA (refsOf g a) m acc with
    | (m', acc') => newF g as m' acc'
def asB (g : Addr → Option Obj) : Nat → Nat → List Addr → List Addr
  | 0, _, fr => fr
  | n + 1, m, fr => match newF g fr m [] with
    | (m', fr') => fr ++ asB g n m' fr'
open He in
def obsB (n : Nat) (xf : PySem.W.Frag → Bool) (fa : List Fa) (fn : List DefD) (g : Addr → Option Obj) : Bool × AlD := obsM xf fa fn (frG g (asB g n (Nat.shiftLeft 1 mainGlobals + Nat.shiftLeft 1 cStatics) [mainGlobals, cStatics]))
open He in
def hookB (n : Nat) (xf : PySem.W.Frag → Bool) (fa : List Fa) (fn : List DefD) : PySem.W.Hook where
  α := Bool × AlD
  obs := fun s => obsB n xf fa fn s.heap.get?
  val := fun _ => (true, valD fn)
  says := fun _ h => ∃ K : PySem.W.Frag, K.In h ∧ SaysM xf fa fn K
  of := fun _ _ e => ⟨_, frG_in, e⟩
  keeps := fun _ _ _ ⟨K, hK, c⟩ k => ⟨K, PySem.W.Frag.In.keeps hK k, c⟩
open He in
theorem obsB_eq {n : Nat} {xf : PySem.W.Frag → Bool} {fa : List Fa} {fn : List DefD} {g : Addr → Option Obj} {s : Shared} (h : ∀ a, g a = s.heap.get? a) : obsB n xf fa fn g = (hookB n xf fa fn).obs s := by
  rw [show g = s.heap.get? from funext h]; rfl
/-- the class object is one of an exception class over ValueError -/
def oexB (K : PySem.W.Frag) (C : Addr) : Bool := match K.lookup C with
  | some ⟨.type "type", _, .cls cd, sl⟩ => (match cd.mro, sl.toList with
    | .ref C' :: bm, [_, _, _, _, some (.builtin n), _] => decide (C' = C) && (n == "ValueError.__new__" && (!cd.hasDel && (cd.hasDict && PySem.HandSPX.refsVE bm)))
    | _, _ => false)
  | _ => false
def excKB (K : PySem.W.Frag) (C : Addr) : Bool :=
  oexB K C && (He.eqO (PySem.W.findIn K (.ref C) "__setattr__") (some (some (.builtin "object.__setattr__"))) && (decide (PySem.W.subIn K (.ref C) (.type "BaseException") = some true) && (decide (PySem.W.typeIn K (.ref C) = some (.type "type")) &&
  (PySem.W.keepIn K (.ref C) && (He.eqO (PySem.W.findIn K (.ref C) "__getattribute__") (some (some (.builtin "BaseException.__getattribute__"))) && (He.eqO (PySem.W.findIn K (.ref C) "__getattr__") (some none) &&
  (PySem.W.hasDictIn K C && ((PySem.W.clsIn K C).isSome && (He.eqO (PySem.W.findIn K (.ref C) "__class__") (some (some (.builtin "object.__class__"))) &&
  (He.eqO (PySem.W.specialIn K (.builtin "object.__class__") "__get__") (some (some (.builtin "getset_descriptor.__get__"))) && (decide (PySem.W.takesIn K (.builtin "object.__class__") = some true) && decide (PySem.W.mroIn K C (.type "object") = some true))))))))))))
/-- every own error stands directly under the class b -/
def xsub (b C T : Nat) : Bool := T == C || T == b
def xAllB (K : PySem.W.Frag) (cn : List Str) (xs : List Nat) : Bool := xs.all fun C => excKB K (cga K cn C)
def kitXB (K : PySem.W.Frag) (cn : List Str) (b : Nat) (xs ts : List Nat) : Bool := xs.all fun C => ts.all fun T => kitA K (.ref (cga K cn C)) (.ref (cga K cn T)) (xsub b C T)
def kitYB (K : PySem.W.Frag) (cn : List Str) (xs : List Nat) (ts : List String) : Bool := xs.all fun C => ts.all fun T => kitA K (.ref (cga K cn C)) (.type T) true
/-- a class without own __init__ that makes exceptions -/
def bareB (K : PySem.W.Frag) (C : Addr) : Bool := PySem.W.excIn K C He.veBase "ValueError.__new__" && PySem.W.keepIn K (.ref C)
def bareAllB (K : PySem.W.Frag) (cn : List Str) (xs : List Nat) : Bool := xs.all fun C => bareB K (cga K cn C)
/-- PressError.__init__ is ValueError's -/
def binitB (K : PySem.W.Frag) (B : Addr) : Bool := He.eqO (PySem.W.specialIn K (.ref B) "__getattribute__") (some (some (.builtin "type.__getattribute__"))) && (PySem.W.readsIn K B (.type "type") &&
  (match PySem.W.findCls K (.ref B) (.type "type") "__init__" with
  | some (.val (.builtin n)) => n == "ValueError.__init__"
  | _ => false))
def exmXB (K : PySem.W.Frag) (cn : List Str) (b : Nat) (xs ts : List Nat) : Bool := xs.all fun C => ts.all fun T => decide (PySem.W.exmOne K (.ref (cga K cn C)) (.ref (cga K cn T)) = some (xsub b C T))
end Mi
namespace K12
open PySem PySem.Spec L2 Mi
abbrev prg : Program := PySem.Challenge.pw_pressedwords_k12_whole_deeds_closed_with
def top (i : Nat) : Stmt := prg.main.body.getD i (.Pass ⟨0, 0, 0, 0⟩)
abbrev s_alphabet_of : Stmt := top 6
abbrev s_Deeds__init_ : Stmt := clsDef (top 9) 0
abbrev s_Deeds__eq_ : Stmt := clsDef (top 9) 1
abbrev s_Deeds_letter_deed : Stmt := clsDef (top 9) 2
abbrev s_Deeds_text_deed : Stmt := clsDef (top 9) 3
abbrev s_Deeds_text_of : Stmt := clsDef (top 9) 4
abbrev s_Deeds_reached_from : Stmt := clsDef (top 9) 5
abbrev s_Deeds_path_text : Stmt := clsDef (top 9) 6
abbrev s_deed_after : Stmt := top 10
abbrev s_deeds_of : Stmt := top 11
abbrev s_Watcher__init_ : Stmt := clsDef (top 13) 0
abbrev s_Watcher__eq_ : Stmt := clsDef (top 13) 1
abbrev s_Watcher_state_after : Stmt := clsDef (top 13) 2
abbrev s__law_source : Stmt := top 15
abbrev s__law_take : Stmt := top 16
abbrev s__law_pick : Stmt := top 17
abbrev s__law_drawn_text : Stmt := top 18
abbrev s__law_after : Stmt := top 19
abbrev s__law_walks : Stmt := top 20
abbrev s__law_deed : Stmt := top 21
abbrev s__law_chain : Stmt := top 22
abbrev s__law_table : Stmt := top 23
abbrev s__law_moves : Stmt := top 24
abbrev s__law_goals : Stmt := top 25
abbrev s__law_lot : Stmt := top 26
abbrev s__law_path : Stmt := top 27
abbrev s__law_right : Stmt := top 28
abbrev s_law : Stmt := top 29
def d_alphabet_of : He.DefD := ⟨("alphabet_of", none), "alphabet_of", "alphabet_of", defArgs s_alphabet_of, defBody s_alphabet_of, defScope s_alphabet_of, [], []⟩
def d_Deeds__init_ : He.DefD := ⟨("Deeds", some "__init__"), "__init__", "Deeds.__init__", defArgs s_Deeds__init_, defBody s_Deeds__init_, defScope s_Deeds__init_, [], []⟩
def d_Deeds__eq_ : He.DefD := ⟨("Deeds", some "__eq__"), "__eq__", "Deeds.__eq__", defArgs s_Deeds__eq_, defBody s_Deeds__eq_, defScope s_Deeds__eq_, [], []⟩
def d_Deeds_letter_deed : He.DefD := ⟨("Deeds", some "letter_deed"), "letter_deed", "Deeds.letter_deed", defArgs s_Deeds_letter_deed, defBody s_Deeds_letter_deed, defScope s_Deeds_letter_deed, [], []⟩
def d_Deeds_text_deed : He.DefD := ⟨("Deeds", some "text_deed"), "text_deed", "Deeds.text_deed", defArgs s_Deeds_text_deed, defBody s_Deeds_text_deed, defScope s_Deeds_text_deed, [], []⟩
def d_Deeds_text_of : He.DefD := ⟨("Deeds", some "text_of"), "text_of", "Deeds.text_of", defArgs s_Deeds_text_of, defBody s_Deeds_text_of, defScope s_Deeds_text_of, [], []⟩
def d_Deeds_reached_from : He.DefD := ⟨("Deeds", some "reached_from"), "reached_from", "Deeds.reached_from", defArgs s_Deeds_reached_from, defBody s_Deeds_reached_from, defScope s_Deeds_reached_from, [], []⟩
def d_Deeds_path_text : He.DefD := ⟨("Deeds", some "path_text"), "path_text", "Deeds.path_text", defArgs s_Deeds_path_text, defBody s_Deeds_path_text, defScope s_Deeds_path_text, [], []⟩
def d_deed_after : He.DefD := ⟨("deed_after", none), "deed_after", "deed_after", defArgs s_deed_after, defBody s_deed_after, defScope s_deed_after, [], []⟩
def d_deeds_of : He.DefD := ⟨("deeds_of", none), "deeds_of", "deeds_of", defArgs s_deeds_of, defBody s_deeds_of, defScope s_deeds_of, [], []⟩
def d_Watcher__init_ : He.DefD := ⟨("Watcher", some "__init__"), "__init__", "Watcher.__init__", defArgs s_Watcher__init_, defBody s_Watcher__init_, defScope s_Watcher__init_, [], []⟩
def d_Watcher__eq_ : He.DefD := ⟨("Watcher", some "__eq__"), "__eq__", "Watcher.__eq__", defArgs s_Watcher__eq_, defBody s_Watcher__eq_, defScope s_Watcher__eq_, [], []⟩
def d_Watcher_state_after : He.DefD := ⟨("Watcher", some "state_after"), "state_after", "Watcher.state_after", defArgs s_Watcher_state_after, defBody s_Watcher_state_after, defScope s_Watcher_state_after, [.int 0], []⟩
def d__law_source : He.DefD := ⟨("_law_source", none), "_law_source", "_law_source", defArgs s__law_source, defBody s__law_source, defScope s__law_source, [], []⟩
def d__law_take : He.DefD := ⟨("_law_take", none), "_law_take", "_law_take", defArgs s__law_take, defBody s__law_take, defScope s__law_take, [], []⟩
def d__law_pick : He.DefD := ⟨("_law_pick", none), "_law_pick", "_law_pick", defArgs s__law_pick, defBody s__law_pick, defScope s__law_pick, [], []⟩
def d__law_drawn_text : He.DefD := ⟨("_law_drawn_text", none), "_law_drawn_text", "_law_drawn_text", defArgs s__law_drawn_text, defBody s__law_drawn_text, defScope s__law_drawn_text, [], []⟩
def d__law_after : He.DefD := ⟨("_law_after", none), "_law_after", "_law_after", defArgs s__law_after, defBody s__law_after, defScope s__law_after, [], []⟩
def d__law_walks : He.DefD := ⟨("_law_walks", none), "_law_walks", "_law_walks", defArgs s__law_walks, defBody s__law_walks, defScope s__law_walks, [], []⟩
def d__law_deed : He.DefD := ⟨("_law_deed", none), "_law_deed", "_law_deed", defArgs s__law_deed, defBody s__law_deed, defScope s__law_deed, [], []⟩
def d__law_chain : He.DefD := ⟨("_law_chain", none), "_law_chain", "_law_chain", defArgs s__law_chain, defBody s__law_chain, defScope s__law_chain, [], []⟩
def d__law_table : He.DefD := ⟨("_law_table", none), "_law_table", "_law_table", defArgs s__law_table, defBody s__law_table, defScope s__law_table, [], []⟩
def d__law_moves : He.DefD := ⟨("_law_moves", none), "_law_moves", "_law_moves", defArgs s__law_moves, defBody s__law_moves, defScope s__law_moves, [], []⟩
def d__law_goals : He.DefD := ⟨("_law_goals", none), "_law_goals", "_law_goals", defArgs s__law_goals, defBody s__law_goals, defScope s__law_goals, [], []⟩
def d__law_lot : He.DefD := ⟨("_law_lot", none), "_law_lot", "_law_lot", defArgs s__law_lot, defBody s__law_lot, defScope s__law_lot, [], []⟩
def d__law_path : He.DefD := ⟨("_law_path", none), "_law_path", "_law_path", defArgs s__law_path, defBody s__law_path, defScope s__law_path, [], []⟩
def d__law_right : He.DefD := ⟨("_law_right", none), "_law_right", "_law_right", defArgs s__law_right, defBody s__law_right, defScope s__law_right, [], []⟩
def d_law : He.DefD := ⟨("law", none), "law", "law", defArgs s_law, defBody s_law, defScope s_law, [], []⟩
def fn : List He.DefD := [d_alphabet_of, d_Deeds__init_, d_Deeds__eq_, d_Deeds_letter_deed, d_Deeds_text_deed, d_Deeds_text_of, d_Deeds_reached_from, d_Deeds_path_text, d_deed_after, d_deeds_of, d_Watcher__init_, d_Watcher__eq_, d_Watcher_state_after, d__law_source, d__law_take, d__law_pick, d__law_drawn_text, d__law_after, d__law_walks, d__law_deed, d__law_chain, d__law_table, d__law_moves, d__law_goals, d__law_lot, d__law_path, d__law_right, d_law]
def cn : List Str := ["PressError", "BadLetters", "TooMany", "Deeds", "Watcher"]
abbrev xPar : Nat := 0
abbrev xS : List Nat := [2]
abbrev xBare : List Nat := [2]
abbrev xT : List Nat := []
abbrev xTr : List Nat := [2]
abbrev xY : List String := []
def isOk : List Nat := [3, 4]
def isBt : List String := ["NoneType", "bool", "int", "str", "tuple", "list", "dict"]
def isCs : List Nat := [3, 4]
def eqTab : List (Nat × Nat) := [(3, 2), (4, 11)]
def fa : List He.Fa := [.glo "BadLetters", .glo "Deeds", .glo "PressError", .glo "TooMany", .glo "Watcher", .glo "_law_after", .glo "_law_chain", .glo "_law_deed", .glo "_law_drawn_text", .glo "_law_goals", .glo "_law_lot", .glo "_law_moves", .glo "_law_path", .glo "_law_pick", .glo "_law_right", .glo "_law_source", .glo "_law_table", .glo "_law_take", .glo "_law_walks", .glo "alphabet_of", .glo "deed_after", .glo "deeds_of", .glo "law", .free "bool", .free "dict", .free "enumerate", .free "int", .free "isinstance", .free "len", .free "list", .free "min", .free "range", .free "repr", .free "set", .free "sorted", .free "tuple", .cls "Deeds", .cls "Watcher", .noat "Deeds" "letters", .noat "Deeds" "states", .noat "Deeds" "table", .noat "Deeds" "watcher", .noat "Watcher" "ends", .noat "Watcher" "letters", .noat "Watcher" "moves", .noat "Watcher" "states", .mkr "Deeds", .mkr "Watcher", .meth "Deeds" "__eq__", .meth "Watcher" "__eq__", .meth "Deeds" "letter_deed", .meth "Deeds" "path_text", .meth "Deeds" "reached_from", .meth "Deeds" "text_deed", .meth "Deeds" "text_of", .meth "Watcher" "state_after", .int "MOST_DEEDS" 60]
def xf (K : PySem.W.Frag) : List Bool := [isiAllB K cn isOk, kitAllB K cn isOk isBt isCs, nfAllB K cn (eqTab.map (·.1)), xAllB K cn xS, kitXB K cn xPar xS xT, kitYB K cn xS xY, bareAllB K cn xBare, exmXB K cn xPar xS xTr]
abbrev R : PySem.W.OpenRow := PySem.W.OpenLaw.row PySem.Challenge.rw_pressedwords_k12_whole_deeds_closed_with
abbrev xfa (K : PySem.W.Frag) : Bool := (xf K).all id
abbrev hk : PySem.W.Hook := hookB 5 xfa fa fn
def ob (s : PySem.W.SharedT) : Bool × He.AlD := obsB 5 xfa fa fn (HandSHeadRun.getT s)
theorem ob_eq (s : PySem.W.SharedT) : ob s = hk.obs s.abs := obsB_eq (HandSHeadRun.getT_eq s)
abbrev LL : List PySem.Str := ((["_wall", "PressError", "BadLetters", "TooMany", "alphabet_of", "MOST_DEEDS", "Deeds", "deed_after", "deeds_of", "Watcher", "_law_source", "_law_take", "_law_pick", "_law_drawn_text", "_law_after", "_law_walks", "_law_deed", "_law_chain", "_law_table", "_law_moves"] : List Str) ++ (["_law_goals", "_law_lot", "_law_path", "_law_right"] : List Str))
open PySem.W PySem.Calls PyProof.Rows HandSHeadRun in
theorem runA (w : World) : ∀ os : OsState, (endF (stepQ (denQ tabQ) R.prog w) 15000 R.prog w os).map (fun s => (looksF R.prog (boot_heap w.params) s.abs, seenQ (PySem.W.view R.prog [29]) LL (importedModules R.prog.main.body) (fun s => xlAt (PySem.W.view R.prog [29]) [] s && recOk R.toRowW.records s) s.abs)) = some (true, openGood (PySem.W.view R.prog [29]) LL) := by
  intro os
  kernel_rfl
open PySem.W PySem.Calls PyProof.Rows HandSHeadRun in
theorem runB (w : World) : ∀ os : OsState, (endF (stepQ (denQ tabQ) R.prog w) 15000 R.prog w os).map (fun s => ob s) = some (hk.val w) := by
  intro os
  kernel_rfl
theorem map3 {α β γ δ : Type} {f : α → β} {g : α → γ} {h : α → δ} {b : β} {c : γ} {d : δ} : ∀ {o : Option α}, o.map (fun s => (f s, g s)) = some (b, c) → o.map (fun s => h s) = some d → o.map (fun s => (f s, g s, h s)) = some (b, c, d)
  | none, q, _ => by cases q
  | some x, q, r => by
    have q' := Option.some.inj q
    have r' : h x = d := Option.some.inj r
    have q1 : f x = b := congrArg Prod.fst q'
    have q2 : g x = c := congrArg Prod.snd q'
    subst r' q1 q2
    rfl
theorem run (w : World) : HandSHeadRun.RunEq R (PySem.W.view R.prog [29]) hk ob 15000 LL w := fun os => map3 (runA w os) (runB w os)
end K12
/-! Mi0: data, objects, the relation to the abstract heap -/
namespace Mi
open PySem PySem.Spec L2

/-- data: never changed once it is made -/
inductive D where
  | non | bl (b : Bool) | int (i : Int) | str (x : Str)
  | tup (xs : List D) | lv (xs : List D) | scr (xs : List D)
  | dk (kvs : List (Key × D)) | dt (kvs : List (List Key × D))
  | ins (C : Nat) (fs : List (Nat × D))
  /-- an exception object -/
  | exc (C : Nat) (fs : List (Nat × D))
/-- a changeable object, flat -/
inductive O where
  | lst (xs : List D) | dk (kvs : List (Key × D)) | dt (kvs : List (List Key × D))
  | ins (C : Nat) (fs : List (Nat × D)) | dead
inductive Vl where
  | d (x : D) | r (k : Nat)
abbrev Hs := List O
abbrev Lo := List (Option Vl)
structure Ex where
  C : Nat
  fs : List (Nat × D)
inductive Res (α : Type) where
  | ok (a : α) (h : Hs) | exc (e : Ex) (h : Hs) | bad

/-- the program's names: where the classes stand, what the attributes are called -/
structure CT where
  ca : Nat → Addr
  nm : Nat → Str
  inj : ∀ a b, nm a = nm b → a = b
  /-- the exception that the suite at hand has caught -/
  ex : Option (Addr × Nat × Option Addr)

def TupW (K : PySem.W.Frag) (a : Addr) (xs : List V) : Prop :=
  ∃ (o : Obj) (its : Array Value) (n : Nat), K.lookup a = some o ∧ o.cls = .type "tuple" ∧ o.data = .seq its n ∧ its.size ≤ sizeLine ∧ Vals xs its.toList
def LstW (K : PySem.W.Frag) (a : Addr) (xs : List V) : Prop :=
  ∃ (o : Obj) (its : Array Value) (n : Nat), K.lookup a = some o ∧ o.cls = .type "list" ∧ o.dict = none ∧ o.data = .seq its n ∧ its.size ≤ sizeLine ∧ Vals xs its.toList
mutual
inductive DR (K : PySem.W.Frag) (ct : CT) (S : Addr → Prop) (H : Hp) : D → V → Prop
  | non : DR K ct S H .non .non
  | bl (b) : DR K ct S H (.bl b) (.bl b)
  | int (i) : DR K ct S H (.int i) (.int i)
  | str (x) : DR K ct S H (.str x) (.str x)
  | tup {a xs vs} : H a = some (.tup vs) ∧ S a → DRs K ct S H xs vs → DR K ct S H (.tup xs) (.ref a)
  | lv {a xs vs} : H a = some (.lst vs) → S a → DRs K ct S H xs vs → DR K ct S H (.lv xs) (.ref a)
  | scr {a xs vs} : ((∃ o, H a = some (.frz o (.lst vs))) ∧ S a) ∨ LstW K a vs → DRs K ct S H xs vs → DR K ct S H (.scr xs) (.ref a)
  | dk {a kvs vs} : H a = some (.dK vs) → S a → DRk K ct S H kvs vs → DR K ct S H (.dk kvs) (.ref a)
  | dt {a kvs vs} : H a = some (.dT vs) → S a → DRt K ct S H kvs vs → DR K ct S H (.dt kvs) (.ref a)
  | ins {a C dx fs vs} : H a = some (.ins (ct.ca C) dx vs) → S a → DRf K ct S H fs vs → DR K ct S H (.ins C fs) (.ref a)
  | exb {a C} : H a = some (L2.exo a (ct.ca C) none) → S a → DR K ct S H (.exc C []) (.ref a)
  | exd {a C dx fs vs} : H a = some (L2.exo a (ct.ca C) (some dx)) → S a → H dx = some (L2.exd dx vs) → S dx → DRf K ct S H fs vs → DR K ct S H (.exc C fs) (.ref a)
  | exq {a C} : ct.ex = some (a, C, none) → DR K ct S H (.exc C []) (.ref a)
  | exr {a C dx fs vs} : ct.ex = some (a, C, some dx) → H dx = some (.xd vs) → S dx → DRf K ct S H fs vs → DR K ct S H (.exc C fs) (.ref a)
inductive DRs (K : PySem.W.Frag) (ct : CT) (S : Addr → Prop) (H : Hp) : List D → List V → Prop
  | nil : DRs K ct S H [] []
  | cons {d v ds vs} : DR K ct S H d v → DRs K ct S H ds vs → DRs K ct S H (d :: ds) (v :: vs)
inductive DRk (K : PySem.W.Frag) (ct : CT) (S : Addr → Prop) (H : Hp) : List (Key × D) → List (Key × V) → Prop
  | nil : DRk K ct S H [] []
  | cons {k d v ds vs} : DR K ct S H d v → DRk K ct S H ds vs → DRk K ct S H ((k, d) :: ds) ((k, v) :: vs)
inductive DRt (K : PySem.W.Frag) (ct : CT) (S : Addr → Prop) (H : Hp) : List (List Key × D) → List (List Key × V) → Prop
  | nil : DRt K ct S H [] []
  | cons {k d v ds vs} : DR K ct S H d v → DRt K ct S H ds vs → DRt K ct S H ((k, d) :: ds) ((k, v) :: vs)
inductive DRf (K : PySem.W.Frag) (ct : CT) (S : Addr → Prop) (H : Hp) : List (Nat × D) → List (Str × V) → Prop
  | nil : DRf K ct S H [] []
  | cons {n d v ds vs} : DR K ct S H d v → DRf K ct S H ds vs → DRf K ct S H ((n, d) :: ds) ((ct.nm n, v) :: vs)
end

/-- all that is tracked and safe stays and stays safe -/
def Kp (S : Addr → Prop) (H : Hp) (S' : Addr → Prop) (H' : Hp) : Prop := ∀ a o, H a = some o → S a → H' a = some o ∧ S' a
theorem Kp.refl (S : Addr → Prop) (H : Hp) : Kp S H S H := fun _ _ h s => ⟨h, s⟩
theorem Kp.trans {S S1 S2 : Addr → Prop} {H H1 H2 : Hp} (a : Kp S H S1 H1) (b : Kp S1 H1 S2 H2) : Kp S H S2 H2 := fun c o h s => let ⟨h1, s1⟩ := a c o h s; b c o h1 s1
theorem Kp.rd {S S' : Addr → Prop} {H H' : Hp} (k : Kp S H S' H') {a : Addr} {u : HO} (r : Rd H a u) (s : S a) : Rd H' a u ∧ S' a := by
  rcases r with r | ⟨o, r⟩
  · obtain ⟨h, s'⟩ := k _ _ r s
    exact ⟨.inl h, s'⟩
  · obtain ⟨h, s'⟩ := k _ _ r s
    exact ⟨.inr ⟨o, h⟩, s'⟩

section
variable {K : PySem.W.Frag} {ct : CT} {S S' : Addr → Prop} {H H' : Hp}
mutual
theorem DR.mono (k : Kp S H S' H') : ∀ {d v}, DR K ct S H d v → DR K ct S' H' d v
  | _, _, .non => .non
  | _, _, .bl b => .bl b
  | _, _, .int i => .int i
  | _, _, .str x => .str x
  | _, _, .tup h r => .tup (k _ _ h.1 h.2) (DRs.mono k r)
  | _, _, .lv h s r => .lv (k _ _ h s).1 (k _ _ h s).2 (DRs.mono k r)
  | _, _, .scr h r => .scr (h.imp (fun ⟨⟨o, h⟩, s⟩ => ⟨⟨o, (k _ _ h s).1⟩, (k _ _ h s).2⟩) id) (DRs.mono k r)
  | _, _, .dk h s r => .dk (k _ _ h s).1 (k _ _ h s).2 (DRk.mono k r)
  | _, _, .dt h s r => .dt (k _ _ h s).1 (k _ _ h s).2 (DRt.mono k r)
  | _, _, .ins h s r => .ins (k _ _ h s).1 (k _ _ h s).2 (DRf.mono k r)
  | _, _, .exb h s => .exb (k _ _ h s).1 (k _ _ h s).2
  | _, _, .exd h s h2 s2 r => .exd (k _ _ h s).1 (k _ _ h s).2 (k _ _ h2 s2).1 (k _ _ h2 s2).2 (DRf.mono k r)
  | _, _, .exq e => .exq e
  | _, _, .exr e h s r => .exr e (k _ _ h s).1 (k _ _ h s).2 (DRf.mono k r)
theorem DRs.mono (k : Kp S H S' H') : ∀ {d v}, DRs K ct S H d v → DRs K ct S' H' d v
  | _, _, .nil => .nil
  | _, _, .cons r t => .cons (DR.mono k r) (DRs.mono k t)
theorem DRk.mono (k : Kp S H S' H') : ∀ {d v}, DRk K ct S H d v → DRk K ct S' H' d v
  | _, _, .nil => .nil
  | _, _, .cons r t => .cons (DR.mono k r) (DRk.mono k t)
theorem DRt.mono (k : Kp S H S' H') : ∀ {d v}, DRt K ct S H d v → DRt K ct S' H' d v
  | _, _, .nil => .nil
  | _, _, .cons r t => .cons (DR.mono k r) (DRt.mono k t)
theorem DRf.mono (k : Kp S H S' H') : ∀ {d v}, DRf K ct S H d v → DRf K ct S' H' d v
  | _, _, .nil => .nil
  | _, _, .cons r t => .cons (DR.mono k r) (DRf.mono k t)
end
theorem DRs.length : ∀ {d v}, DRs K ct S H d v → d.length = v.length
  | _, _, .nil => rfl
  | _, _, .cons _ t => congrArg (· + 1) (DRs.length t)
theorem DRk.length : ∀ {d v}, DRk K ct S H d v → d.length = v.length
  | _, _, .nil => rfl
  | _, _, .cons _ t => congrArg (· + 1) (DRk.length t)
theorem DRt.length : ∀ {d v}, DRt K ct S H d v → d.length = v.length
  | _, _, .nil => rfl
  | _, _, .cons _ t => congrArg (· + 1) (DRt.length t)
theorem DRf.length : ∀ {d v}, DRf K ct S H d v → d.length = v.length
  | _, _, .nil => rfl
  | _, _, .cons _ t => congrArg (· + 1) (DRf.length t)
theorem DRs.append : ∀ {d v d' v'}, DRs K ct S H d v → DRs K ct S H d' v' → DRs K ct S H (d ++ d') (v ++ v')
  | _, _, _, _, .nil, s => s
  | _, _, _, _, .cons r t, s => .cons r (DRs.append t s)
theorem DRs.get : ∀ {d v} {i : Nat} {x : D}, DRs K ct S H d v → d[i]? = some x → ∃ y, v[i]? = some y ∧ DR K ct S H x y
  | _, _, _, _, .nil, e => by simp at e
  | _, _, 0, _, .cons r _, e => by simp at e; subst e; exact ⟨_, rfl, r⟩
  | _, _, i + 1, x, .cons _ t, e => by
    obtain ⟨y, h1, h2⟩ := DRs.get (i := i) (x := x) t (by simpa using e)
    exact ⟨y, by simpa using h1, h2⟩
theorem DRs.getV : ∀ {d v} {i : Nat} {y : V}, DRs K ct S H d v → v[i]? = some y → ∃ x, d[i]? = some x ∧ DR K ct S H x y
  | _, _, _, _, .nil, e => by simp at e
  | _, _, 0, _, .cons r _, e => by simp at e; subst e; exact ⟨_, rfl, r⟩
  | _, _, i + 1, y, .cons _ t, e => by
    obtain ⟨x, h1, h2⟩ := DRs.getV (i := i) (y := y) t (by simpa using e)
    exact ⟨x, by simpa using h1, h2⟩
theorem DRs.set {x : D} {y : V} (r : DR K ct S H x y) : ∀ {d v} (i : Nat), DRs K ct S H d v → DRs K ct S H (d.set i x) (v.set i y)
  | _, _, _, .nil => .nil
  | _, _, 0, .cons _ t => .cons r t
  | _, _, i + 1, .cons q t => .cons q (DRs.set r i t)
theorem DRs.take : ∀ {d v} (n : Nat), DRs K ct S H d v → DRs K ct S H (d.take n) (v.take n)
  | _, _, 0, _ => .nil
  | _, _, _ + 1, .nil => .nil
  | _, _, n + 1, .cons r t => .cons r (DRs.take n t)
theorem DRs.drop : ∀ {d v} (n : Nat), DRs K ct S H d v → DRs K ct S H (d.drop n) (v.drop n)
  | _, _, 0, r => r
  | _, _, _ + 1, .nil => .nil
  | _, _, n + 1, .cons _ t => DRs.drop n t
theorem DRs.eraseIdx : ∀ {d v} (i : Nat), DRs K ct S H d v → DRs K ct S H (d.eraseIdx i) (v.eraseIdx i)
  | _, _, _, .nil => .nil
  | _, _, 0, .cons _ t => t
  | _, _, n + 1, .cons r t => .cons r (DRs.eraseIdx n t)
theorem DRs.reverse {d v} (h : DRs K ct S H d v) : DRs K ct S H d.reverse v.reverse := by
  induction d generalizing v with
  | nil => cases h; exact .nil
  | cons x d ih =>
    cases h with
    | cons r t =>
      rw [List.reverse_cons, List.reverse_cons]
      exact (ih t).append (.cons r .nil)
theorem DRs.dropLast {d v} (h : DRs K ct S H d v) : DRs K ct S H d.dropLast v.dropLast := by
  rw [List.dropLast_eq_take, List.dropLast_eq_take, h.length]; exact h.take _
end

/-! ### live objects -/
def Lv (m : List Addr) (ah : Hs) (a : Addr) : Prop := ∃ (k : Nat) (o : O), m[k]? = some a ∧ ah[k]? = some o ∧ o ≠ O.dead
def Sf (m : List Addr) (ah : Hs) (a : Addr) : Prop := ¬ Lv m ah a
inductive OR (K : PySem.W.Frag) (ct : CT) (S : Addr → Prop) (H : Hp) : O → HO → Prop
  | lst {xs vs} : DRs K ct S H xs vs → OR K ct S H (.lst xs) (.lst vs)
  | dk {xs vs} : DRk K ct S H xs vs → OR K ct S H (.dk xs) (.dK vs)
  | dt {xs vs} : DRt K ct S H xs vs → OR K ct S H (.dt xs) (.dT vs)
  | ins {C dx fs vs} : DRf K ct S H fs vs → OR K ct S H (.ins C fs) (.ins (ct.ca C) dx vs)
  | dead (u) : OR K ct S H .dead u
theorem OR.mono {K : PySem.W.Frag} {ct : CT} {S S' : Addr → Prop} {H H' : Hp} (k : Kp S H S' H') {o u} (h : OR K ct S H o u) : OR K ct S' H' o u := by
  cases h with
  | lst r => exact .lst (r.mono k)
  | dk r => exact .dk (r.mono k)
  | dt r => exact .dt (r.mono k)
  | ins r => exact .ins (r.mono k)
  | dead u => exact .dead u
structure HR (K : PySem.W.Frag) (ct : CT) (m : List Addr) (ah : Hs) (H : Hp) : Prop where
  len : m.length = ah.length
  inj : ∀ (i j : Nat) (a : Addr), m[i]? = some a → m[j]? = some a → i = j
  ob : ∀ (k : Nat) a o, m[k]? = some a → ah[k]? = some o → ∃ u, H a = some u ∧ OR K ct (Sf m ah) H o u
structure Ext (m : List Addr) (ah : Hs) (H : Hp) (m' : List Addr) (ah' : Hs) (H' : Hp) : Prop where
  pre : ∃ t, m' = m ++ t
  kp : Kp (Sf m ah) H (Sf m' ah') H'
theorem Ext.refl (m : List Addr) (ah : Hs) (H : Hp) : Ext m ah H m ah H := ⟨⟨[], by simp⟩, Kp.refl _ _⟩
theorem Ext.trans {m m1 m2 : List Addr} {ah ah1 ah2 : Hs} {H H1 H2 : Hp} (a : Ext m ah H m1 ah1 H1) (b : Ext m1 ah1 H1 m2 ah2 H2) : Ext m ah H m2 ah2 H2 := by
  obtain ⟨t, rfl⟩ := a.pre
  obtain ⟨t', rfl⟩ := b.pre
  exact ⟨⟨t ++ t', by rw [List.append_assoc]⟩, a.kp.trans b.kp⟩
theorem Ext.at {m m1 : List Addr} {ah ah1 : Hs} {H H1 : Hp} (a : Ext m ah H m1 ah1 H1) {k : Nat} {x : Addr} (h : m[k]? = some x) : m1[k]? = some x := by
  obtain ⟨t, rfl⟩ := a.pre
  rw [List.getElem?_append_left (List.getElem?_eq_some_iff.mp h).1]
  exact h
def VlR (K : PySem.W.Frag) (ct : CT) (m : List Addr) (ah : Hs) (H : Hp) : Vl → V → Prop
  | .d x, v => DR K ct (Sf m ah) H x v
  | .r k, v => ∃ a, m[k]? = some a ∧ v = .ref a
inductive VlRs (K : PySem.W.Frag) (ct : CT) (m : List Addr) (ah : Hs) (H : Hp) : List Vl → List V → Prop
  | nil : VlRs K ct m ah H [] []
  | cons {d v ds vs} : VlR K ct m ah H d v → VlRs K ct m ah H ds vs → VlRs K ct m ah H (d :: ds) (v :: vs)
structure LR (K : PySem.W.Frag) (ct : CT) (m : List Addr) (ah : Hs) (H : Hp) (σ : Lo) (σV : St) : Prop where
  len : σ.length = σV.length
  at_ : ∀ (i : Nat) x, σ[i]? = some (some x) → ∃ v, σV[i]? = some (some v) ∧ VlR K ct m ah H x v
section
variable {K : PySem.W.Frag} {ct : CT} {m m' : List Addr} {ah ah' : Hs} {H H' : Hp}
theorem VlR.ext (e : Ext m ah H m' ah' H') {x v} (h : VlR K ct m ah H x v) : VlR K ct m' ah' H' x v := by
  cases x with
  | d x => exact DR.mono e.kp h
  | r k => obtain ⟨a, h1, h2⟩ := h; exact ⟨a, e.at h1, h2⟩
theorem VlRs.ext (e : Ext m ah H m' ah' H') : ∀ {xs vs}, VlRs K ct m ah H xs vs → VlRs K ct m' ah' H' xs vs
  | _, _, .nil => .nil
  | _, _, .cons r t => .cons (r.ext e) (VlRs.ext e t)
theorem VlRs.length : ∀ {d v}, VlRs K ct m ah H d v → d.length = v.length
  | _, _, .nil => rfl
  | _, _, .cons _ t => congrArg (· + 1) (VlRs.length t)
theorem LR.ext (e : Ext m ah H m' ah' H') {σ σV} (h : LR K ct m ah H σ σV) : LR K ct m' ah' H' σ σV :=
  ⟨h.len, fun i x hx => let ⟨v, h1, h2⟩ := h.at_ i x hx; ⟨v, h1, h2.ext e⟩⟩
theorem LR.set {σ σV} (h : LR K ct m ah H σ σV) {x v} (r : VlR K ct m ah H x v) (i : Nat) : LR K ct m ah H (σ.set i (some x)) (σV.set i (some v)) := by
  refine ⟨by rw [List.length_set, List.length_set, h.len], fun j y hy => ?_⟩
  by_cases e : i = j
  · subst e
    by_cases hi : i < σ.length
    · rw [List.getElem?_set_self hi] at hy
      cases hy
      exact ⟨v, by rw [List.getElem?_set_self (by rw [← h.len]; exact hi)], r⟩
    · rw [List.getElem?_eq_none (by rw [List.length_set]; omega)] at hy; cases hy
  · rw [List.getElem?_set_ne e] at hy ⊢
    exact h.at_ j y hy
theorem LR.forget {σ σ' σV} (h : LR K ct m ah H σ σV) (hl : σ'.length = σ.length) (hw : ∀ (i : Nat) x, σ'[i]? = some (some x) → σ[i]? = some (some x)) : LR K ct m ah H σ' σV :=
  ⟨hl.trans h.len, fun i x hx => h.at_ i x (hw i x hx)⟩

/-! ### how states go on -/
theorem HR.there (h : HR K ct m ah H) {k : Nat} {a : Addr} (e : m[k]? = some a) : ∃ o u, ah[k]? = some o ∧ H a = some u ∧ OR K ct (Sf m ah) H o u := by
  have hk : k < ah.length := by rw [← h.len]; exact (List.getElem?_eq_some_iff.mp e).1
  obtain ⟨u, h1, h2⟩ := h.ob k a ah[k] e (List.getElem?_eq_getElem hk)
  exact ⟨_, u, List.getElem?_eq_getElem hk, h1, h2⟩
theorem HR.fresh (h : HR K ct m ah H) {p : Addr} (hp : H p = none) (k : Nat) : m[k]? ≠ some p := fun e => by
  obtain ⟨_, u, _, h1, _⟩ := h.there e
  rw [hp] at h1; cases h1
theorem HR.freshS (h : HR K ct m ah H) {p : Addr} (hp : H p = none) : Sf m ah p := fun ⟨k, _, e, _⟩ => h.fresh hp k e
/-- H goes on at new places alone -/
theorem HR.more (h : HR K ct m ah H) (hH : ∀ a o, H a = some o → H' a = some o) : HR K ct m ah H' ∧ Ext m ah H m ah H' := by
  have kp : Kp (Sf m ah) H (Sf m ah) H' := fun a o e s => ⟨hH a o e, s⟩
  refine ⟨⟨h.len, h.inj, fun k a o e1 e2 => ?_⟩, ⟨⟨[], by simp⟩, kp⟩⟩
  obtain ⟨u, h1, h2⟩ := h.ob k a o e1 e2
  exact ⟨u, hH _ _ h1, h2.mono kp⟩
theorem upd_more {p : Addr} {o : HO} (hp : H p = none) : ∀ a u, H a = some u → upd H p o a = some u := fun a u e => by
  rw [upd_ne (ne_of_none e hp)]; exact e
/-- a new object, never to be changed -/
theorem HR.pure (h : HR K ct m ah H) {p : Addr} {o : HO} (hp : H p = none) : HR K ct m ah (upd H p o) ∧ Ext m ah H m ah (upd H p o) ∧ Sf m ah p :=
  ⟨(h.more (upd_more hp)).1, (h.more (upd_more hp)).2, h.freshS hp⟩
/-- a new object, to be changed -/
theorem HR.alloc (h : HR K ct m ah H) {p : Addr} {o : O} {u : HO} (hp : H p = none) (ho : OR K ct (Sf m ah) H o u) :
    HR K ct (m ++ [p]) (ah ++ [o]) (upd H p u) ∧ Ext m ah H (m ++ [p]) (ah ++ [o]) (upd H p u) := by
  have lv : ∀ a, Lv (m ++ [p]) (ah ++ [o]) a → Lv m ah a ∨ a = p := fun a ⟨k, q, e1, e2, e3⟩ => by
    by_cases hk : k < m.length
    · rw [List.getElem?_append_left hk] at e1
      rw [List.getElem?_append_left (by rw [← h.len]; exact hk)] at e2
      exact .inl ⟨k, q, e1, e2, e3⟩
    · rw [List.getElem?_append_right (by omega)] at e1
      have := (List.getElem?_eq_some_iff.mp e1).1
      have : k - m.length = 0 := by simpa using this
      rw [this] at e1
      exact .inr (by simpa using e1.symm)
  have kp : Kp (Sf m ah) H (Sf (m ++ [p]) (ah ++ [o])) (upd H p u) := fun a q e s =>
    ⟨upd_more hp a q e, fun l => (lv a l).elim s fun z => ne_of_none e hp z⟩
  refine ⟨⟨by rw [List.length_append, List.length_append, h.len]; rfl, fun i j a e1 e2 => ?_, fun k a q e1 e2 => ?_⟩, ⟨⟨[p], rfl⟩, kp⟩⟩
  · by_cases hi : i < m.length
    · rw [List.getElem?_append_left hi] at e1
      by_cases hj : j < m.length
      · rw [List.getElem?_append_left hj] at e2
        exact h.inj i j a e1 e2
      · rw [List.getElem?_append_right (by omega)] at e2
        have hz : a = p := by
          have := (List.getElem?_eq_some_iff.mp e2).1
          have z : j - m.length = 0 := by simpa using this
          rw [z] at e2; simpa using e2.symm
        subst hz
        exact absurd e1 (h.fresh hp i)
    · rw [List.getElem?_append_right (by omega)] at e1
      have hz : a = p ∧ i = m.length := by
        have := (List.getElem?_eq_some_iff.mp e1).1
        have z : i - m.length = 0 := by simpa using this
        rw [z] at e1; exact ⟨by simpa using e1.symm, by omega⟩
      obtain ⟨rfl, rfl⟩ := hz
      by_cases hj : j < m.length
      · rw [List.getElem?_append_left hj] at e2
        exact absurd e2 (h.fresh hp j)
      · have := (List.getElem?_eq_some_iff.mp e2).1
        rw [List.length_append, List.length_singleton] at this
        omega
  · by_cases hk : k < m.length
    · rw [List.getElem?_append_left hk] at e1
      rw [List.getElem?_append_left (by rw [← h.len]; exact hk)] at e2
      obtain ⟨v, h1, h2⟩ := h.ob k a q e1 e2
      exact ⟨v, upd_more hp _ _ h1, h2.mono kp⟩
    · rw [List.getElem?_append_right (by omega)] at e1
      rw [List.getElem?_append_right (by rw [← h.len]; omega)] at e2
      have z : k - m.length = 0 := by
        have := (List.getElem?_eq_some_iff.mp e1).1
        simpa using this
      rw [z] at e1
      rw [← h.len, z] at e2
      have ea : a = p := by simpa using e1.symm
      have eo : q = o := by simpa using e2.symm
      subst ea eo
      exact ⟨u, upd_same, ho.mono kp⟩
/-- an object changed -/
theorem HR.write (h : HR K ct m ah H) {k : Nat} {a : Addr} {o o' : O} {u' : HO} (e1 : m[k]? = some a) (e2 : ah[k]? = some o) (nd : o ≠ .dead) (ho : OR K ct (Sf m ah) H o' u') :
    HR K ct m (ah.set k o') (upd H a u') ∧ Ext m ah H m (ah.set k o') (upd H a u') := by
  have la : Lv m ah a := ⟨k, o, e1, e2, nd⟩
  have hk : k < ah.length := (List.getElem?_eq_some_iff.mp e2).1
  have kp : Kp (Sf m ah) H (Sf m (ah.set k o')) (upd H a u') := fun b q e s => by
    have hb : b ≠ a := fun z => s (z ▸ la)
    refine ⟨by rw [upd_ne hb]; exact e, fun ⟨j, q', f1, f2, f3⟩ => ?_⟩
    by_cases hj : k = j
    · subst hj; rw [e1] at f1; cases f1; exact hb rfl
    · rw [List.getElem?_set_ne hj] at f2
      exact s ⟨j, q', f1, f2, f3⟩
  refine ⟨⟨by rw [List.length_set]; exact h.len, h.inj, fun j b q f1 f2 => ?_⟩, ⟨⟨[], by simp⟩, kp⟩⟩
  by_cases hj : k = j
  · subst hj
    rw [List.getElem?_set_self hk] at f2
    cases f2
    rw [e1] at f1; cases f1
    exact ⟨u', upd_same, ho.mono kp⟩
  · rw [List.getElem?_set_ne hj] at f2
    obtain ⟨v, h1, h2⟩ := h.ob j b q f1 f2
    have hb : b ≠ a := fun z => by subst z; exact hj (h.inj _ _ _ e1 f1)
    exact ⟨v, by rw [upd_ne hb]; exact h1, h2.mono kp⟩
/-- an object that is never changed from here on -/
theorem HR.freeze (h : HR K ct m ah H) {k : Nat} {a : Addr} (e1 : m[k]? = some a) :
    HR K ct m (ah.set k .dead) H ∧ Ext m ah H m (ah.set k .dead) H ∧ Sf m (ah.set k .dead) a := by
  obtain ⟨o, u, e2, _, _⟩ := h.there e1
  have hk : k < ah.length := (List.getElem?_eq_some_iff.mp e2).1
  have lv : ∀ b, Lv m (ah.set k .dead) b → Lv m ah b ∧ b ≠ a := fun b ⟨j, q', f1, f2, f3⟩ => by
    by_cases hj : k = j
    · subst hj; rw [List.getElem?_set_self hk] at f2; cases f2; exact absurd rfl f3
    · rw [List.getElem?_set_ne hj] at f2
      exact ⟨⟨j, q', f1, f2, f3⟩, fun z => by subst z; exact hj (h.inj _ _ _ e1 f1)⟩
  have kp : Kp (Sf m ah) H (Sf m (ah.set k .dead)) H := fun b q e s => ⟨e, fun l => s (lv b l).1⟩
  refine ⟨⟨by rw [List.length_set]; exact h.len, h.inj, fun j b q f1 f2 => ?_⟩, ⟨⟨[], by simp⟩, kp⟩, fun l => (lv a l).2 rfl⟩
  by_cases hj : k = j
  · subst hj
    rw [List.getElem?_set_self hk] at f2
    cases f2
    obtain ⟨v, h1, h2⟩ := h.ob k b o f1 e2
    exact ⟨v, h1, .dead v⟩
  · rw [List.getElem?_set_ne hj] at f2
    obtain ⟨v, h1, h2⟩ := h.ob j b q f1 f2
    exact ⟨v, h1, h2.mono kp⟩
/-- objects forgotten -/
theorem HR.trim (h : HR K ct m ah H) (n : Nat) : HR K ct (m.take n) (ah.take n) H ∧ Kp (Sf m ah) H (Sf (m.take n) (ah.take n)) H := by
  have lv : ∀ b, Lv (m.take n) (ah.take n) b → Lv m ah b := fun b ⟨j, q', f1, f2, f3⟩ => by
    rw [List.getElem?_take] at f1 f2
    split at f1
    · rename_i hj
      rw [if_pos hj] at f2
      exact ⟨j, q', f1, f2, f3⟩
    · cases f1
  have kp : Kp (Sf m ah) H (Sf (m.take n) (ah.take n)) H := fun b q e s => ⟨e, fun l => s (lv b l)⟩
  refine ⟨⟨by rw [List.length_take, List.length_take, h.len], fun i j a f1 f2 => ?_, fun j b q f1 f2 => ?_⟩, kp⟩
  · rw [List.getElem?_take] at f1 f2
    split at f1
    · split at f2
      · exact h.inj _ _ _ f1 f2
      · cases f2
    · cases f1
  · rw [List.getElem?_take] at f1 f2
    split at f1
    · rename_i hj
      rw [if_pos hj] at f2
      obtain ⟨v, h1, h2⟩ := h.ob j b q f1 f2
      exact ⟨v, h1, h2.mono kp⟩
    · cases f1
/-- back to what stood ahead -/
theorem Ext.trimmed (h : HR K ct m' ah' H') (e : Ext m ah H m' ah' H') : Ext m ah H m (ah'.take m.length) H' := by
  obtain ⟨t, rfl⟩ := e.pre
  refine ⟨⟨[], by simp⟩, e.kp.trans ?_⟩
  have := (h.trim m.length).2
  rw [List.take_left'] at this
  · exact this
  · rfl
theorem HR.trimmed (h : HR K ct m' ah' H') (e : Ext m ah H m' ah' H') : HR K ct m (ah'.take m.length) H' := by
  obtain ⟨t, rfl⟩ := e.pre
  have := (h.trim m.length).1
  rw [List.take_left'] at this
  · exact this
  · rfl
end
end Mi

/-! Mi1: what an expression means over data; the judgements -/
namespace Mi
open PySem PySem.Spec L2

abbrev WX' := WX
/-- an exception as it lies in the heap -/
def XR (K : PySem.W.Frag) (ct : CT) (S : Addr → Prop) (H : Hp) (e : Ex) (cls : Value) (d : Option Addr) : Prop :=
  cls = .ref (ct.ca e.C) ∧ ∃ vs, DRf K ct S H e.fs vs ∧ ((e.fs = [] ∧ d = none) ∨ ∃ dx, d = some dx ∧ H dx = some (.xd vs) ∧ S dx)

/-- what is wanted of a result -/
def Po {α β : Type} (K : PySem.W.Frag) (ct : CT) (W : WX) (σV : L2.St) (R : List Addr → Hs → Hp → α → β → Prop) (m : List Addr) (ah : Hs) (H : Hp) (r : Res α) (Q : β → Hp → Prop) : Prop :=
  match r with
  | .ok x h => ∀ m' H' v, HR K ct m' h H' → Ext m ah H m' h H' → R m' h H' x v → Q v H'
  | .exc e h => ∀ m' H' cls d, HR K ct m' h H' → Ext m ah H m' h H' → XR K ct (Sf m' h) H' e cls d → W cls d σV H'
  | .bad => False
def rb {α β : Type} (r : Res α) (f : α → Hs → Res β) : Res β := match r with
  | .ok a h => f a h
  | .exc e h => .exc e h
  | .bad => .bad
@[simp] theorem rb_ok {α β : Type} (a : α) (h : Hs) (f : α → Hs → Res β) : rb (.ok a h) f = f a h := rfl
@[simp] theorem rb_exc {α β : Type} (e : Ex) (h : Hs) (f : α → Hs → Res β) : rb (.exc e h) f = .exc e h := rfl
@[simp] theorem rb_bad {α β : Type} (f : α → Hs → Res β) : rb .bad f = .bad := rfl
section
variable {α β γ δ : Type} {K : PySem.W.Frag} {ct : CT} {W : WX} {σV : L2.St} {m m' : List Addr} {ah ah' : Hs} {H H' : Hp}
theorem Po.ext {R : List Addr → Hs → Hp → α → β → Prop} {r : Res α} {Q : β → Hp → Prop} (p : Po K ct W σV R m ah H r Q) (e : Ext m ah H m' ah' H') : Po K ct W σV R m' ah' H' r Q := by
  cases r with
  | ok x h => exact fun m2 H2 v h2 e2 r2 => p m2 H2 v h2 (e.trans e2) r2
  | exc x h => exact fun m2 H2 c d h2 e2 r2 => p m2 H2 c d h2 (e.trans e2) r2
  | bad => exact p
theorem Po.imp {R : List Addr → Hs → Hp → α → β → Prop} {r : Res α} {Q Q' : β → Hp → Prop} (p : Po K ct W σV R m ah H r Q) (hq : ∀ v H', Q v H' → Q' v H') : Po K ct W σV R m ah H r Q' := by
  cases r with
  | ok x h => exact fun m2 H2 v h2 e2 r2 => hq _ _ (p m2 H2 v h2 e2 r2)
  | exc x h => exact p
  | bad => exact p
/-- what is told of a value on the way -/
def Mid (K : PySem.W.Frag) (ct : CT) (m : List Addr) (ah : Hs) (H : Hp) (R : List Addr → Hs → Hp → α → β → Prop) (P : List Addr → Hs → Hp → α → Prop) (v : β) (H1 : Hp) : Prop :=
  ∃ m1 h1 x, HR K ct m1 h1 H1 ∧ Ext m ah H m1 h1 H1 ∧ R m1 h1 H1 x v ∧ P m1 h1 H1 x
theorem Po.bind {R : List Addr → Hs → Hp → α → β → Prop} {T : List Addr → Hs → Hp → γ → δ → Prop} {r : Res α} {g : α → Hs → Res γ} {Q : δ → Hp → Prop} (p : Po K ct W σV T m ah H (rb r g) Q) :
    Po K ct W σV R m ah H r (Mid K ct m ah H R fun m1 h1 H1 x => Po K ct W σV T m1 h1 H1 (g x h1) Q) := by
  cases r with
  | ok x h => exact fun m2 H2 v h2 e2 r2 => ⟨m2, h, x, h2, e2, r2, Po.ext (r := g x h) p e2⟩
  | exc x h => exact p
  | bad => exact p
end

abbrev SemE := Lo → Hs → Res Vl
abbrev SemT := Lo → Hs → Res Bool
abbrev SemA := Lo → Hs → Res (List Vl)
section
variable (K : PySem.W.Frag) (ct : CT) (W : WX)
def rdE (f : SemE) : TE := fun σV H Q => ∃ m ah σ, HR K ct m ah H ∧ LR K ct m ah H σ σV ∧ Po K ct W σV (VlR K ct) m ah H (f σ ah) Q
def rdT (f : SemT) : TT := fun σV H Q => ∃ m ah σ, HR K ct m ah H ∧ LR K ct m ah H σ σV ∧ Po K ct W σV (fun _ _ _ b c => b = c) m ah H (f σ ah) Q
def rdA (f : SemA) : TA := fun σV H Q => ∃ m ah σ, HR K ct m ah H ∧ LR K ct m ah H σ σV ∧ Po K ct W σV (VlRs K ct) m ah H (f σ ah) Q
end
abbrev SE (X : Cx) (ct : CT) (W : WX) (e : Expr) (f : SemE) : Prop := PE X e (rdE X.K ct W f)
abbrev ST (X : Cx) (ct : CT) (W : WX) (e : Expr) (f : SemT) : Prop := PT X e (rdT X.K ct W f)
abbrev SA (X : Cx) (ct : CT) (W : WX) (es : List Expr) (f : SemA) : Prop := PA X es (rdA X.K ct W f)

theorem PE.imp {X : Cx} {e : Expr} {t t' : TE} (h : PE X e t) (i : ∀ σ H Q, t' σ H Q → t σ H Q) : PE X e t' := ⟨fun pins s σ H Q I q => h.run pins s σ H Q I (i _ _ _ q)⟩
theorem PT.imp {X : Cx} {e : Expr} {t t' : TT} (h : PT X e t) (i : ∀ σ H Q, t' σ H Q → t σ H Q) : PT X e t' := ⟨fun pins s σ H Q I q => h.run pins s σ H Q I (i _ _ _ q)⟩
theorem PW.imp {X : Cx} {e : Expr} {t t' : TT} (h : PW X e t) (i : ∀ σ H Q, t' σ H Q → t σ H Q) : PW X e t' := ⟨fun w pins s σ H Q I q => h.run w pins s σ H Q I (i _ _ _ q)⟩
theorem PA.imp {X : Cx} {e : List Expr} {t t' : TA} (h : PA X e t) (i : ∀ σ H Q, t' σ H Q → t σ H Q) : PA X e t' := ⟨fun pos pins s σ H Q I q => h.run pos pins s σ H Q I (i _ _ _ q)⟩
theorem PS.imp {X : Cx} {e : Stmt} {t t' : TS} (h : PS X e t) (i : ∀ D σ H, t' D σ H → t D σ H) : PS X e t' := ⟨fun pins s σ H Q I q => h.run pins s σ H Q I (i _ _ _ q)⟩
theorem PSs.imp {X : Cx} {e : List Stmt} {t t' : TS} (h : PSs X e t) (i : ∀ D σ H, t' D σ H → t D σ H) : PSs X e t' := ⟨fun pins s σ H Q I q => h.run pins s σ H Q I (i _ _ _ q)⟩

/-! ### names, constants -/
def eVar (i : Nat) : SemE := fun σ h => match σ[i]? with
  | some (some v) => .ok v h
  | _ => .bad
def eK (d : D) : SemE := fun _ h => .ok (.d d) h
section
variable {X : Cx} {ct : CT} {W : WX} {pos : Pos}
theorem se_var (i : Nat) {x : Str} (hN : X.N[i]? = some x := by rfl) (hv : Vis X.env.scope x := by first | exact Or.inl rfl | exact Or.inr (Or.inl rfl) | exact Or.inr (Or.inr rfl)) (hd : (x == ("__debug__" : Str)) = false := by decide)
    (hcd : (x == ("__classdict__" : Str)) = false := by decide) : SE X ct W (.Name x pos) (eVar i) :=
  PE.imp (pe_var hN hv hd hcd) fun σV H Q ⟨m, ah, σ, hr, lr, p⟩ => by
    unfold eVar at p
    cases e : σ[i]? with
    | none => rw [e] at p; exact p.elim
    | some o =>
      cases o with
      | none => rw [e] at p; exact p.elim
      | some x =>
        rw [e] at p
        obtain ⟨v, h1, h2⟩ := lr.at_ i x e
        exact ⟨v, h1, p m H v hr (Ext.refl _ _ _) h2⟩
theorem se_const {e : Expr} {v : V} {d : D} (h : PE X e (tC v)) (r : ∀ S H, DR X.K ct S H d v) : SE X ct W e (eK d) :=
  PE.imp h fun σV H Q ⟨m, ah, σ, hr, lr, p⟩ => p m H v hr (Ext.refl _ _ _) (r _ _)
theorem se_int {i : Int} {j} : SE X ct W (.Constant (.int i) j pos) (eK (.int i)) := se_const pe_int fun _ _ => .int i
theorem se_bl {b : Bool} {j} : SE X ct W (.Constant (.bool b) j pos) (eK (.bl b)) := se_const pe_bl fun _ _ => .bl b
theorem se_non {j} : SE X ct W (.Constant .none j pos) (eK .non) := se_const pe_non fun _ _ => .non
theorem se_str {x : Str} {j} : SE X ct W (.Constant (.str x) j pos) (eK (.str x)) := se_const pe_str fun _ _ => .str x
theorem se_globI {x : Str} {i : Int} {t : Tok} (hg : Gl X x) (hm : X.mg x = some (.int i t)) (hd : (x == ("__debug__" : Str)) = false := by decide) : SE X ct W (.Name x pos) (eK (.int i)) := se_const (pe_glob hg hm (v := .int i) ⟨_, rfl⟩ hd) fun _ _ => .int i
theorem se_globS {x : Str} {i : Str} {t : Tok} (hg : Gl X x) (hm : X.mg x = some (.str i t)) (hd : (x == ("__debug__" : Str)) = false := by decide) : SE X ct W (.Name x pos) (eK (.str i)) := se_const (pe_glob hg hm (v := .str i) ⟨_, rfl⟩ hd) fun _ _ => .str i
theorem se_globT {x : Str} {i : D} {a : Addr} (hg : Gl X x) (hm : X.mg x = some (.ref a)) (r : ∀ S H, DR X.K ct S H i (.ref a)) (hd : (x == ("__debug__" : Str)) = false := by decide) : SE X ct W (.Name x pos) (eK i) := se_const (pe_glob hg hm (v := .ref a) rfl hd) r
end

/-! ### operations on values -/
abbrev Op1 := Vl → Hs → Option (Vl × Hs)
abbrev Op2 := Vl → Vl → Hs → Option (Vl × Hs)
def ro (o : Option (Vl × Hs)) : Res Vl := match o with
  | some (x, h) => .ok x h
  | none => .bad
@[simp] theorem ro_some (x : Vl) (h : Hs) : ro (some (x, h)) = .ok x h := rfl
@[simp] theorem ro_none : ro none = .bad := rfl
def Pp (K : PySem.W.Frag) (ct : CT) (m : List Addr) (ah : Hs) (H : Hp) (o : Option (Vl × Hs)) (Q : VK) : Prop := match o with
  | some (x, h) => ∀ m' H' v, HR K ct m' h H' → Ext m ah H m' h H' → VlR K ct m' h H' x v → Q v H'
  | none => False
theorem Pp.of {K : PySem.W.Frag} {ct : CT} {W : WX} {σV : L2.St} {m : List Addr} {ah : Hs} {H : Hp} {o : Option (Vl × Hs)} {Q : VK} (p : Po K ct W σV (VlR K ct) m ah H (ro o) Q) : Pp K ct m ah H o Q := by
  cases o with
  | none => exact p
  | some x => exact p
/-- the state stays -/
theorem Pp.same {K : PySem.W.Frag} {ct : CT} {m : List Addr} {ah : Hs} {H : Hp} {x : Vl} {v : V} {Q : VK} (p : Pp K ct m ah H (some (x, ah)) Q) (h : HR K ct m ah H) (r : VlR K ct m ah H x v) : Q v H := p m H v h (Ext.refl _ _ _) r
/-- a new object that is never changed -/
theorem Pp.new {K : PySem.W.Frag} {ct : CT} {m : List Addr} {ah : Hs} {H : Hp} {x : D} {o : HO} {Q : VK} (p : Pp K ct m ah H (some (.d x, ah)) Q) (h : HR K ct m ah H)
    (r : ∀ a, H a = none → Kp (Sf m ah) H (Sf m ah) (upd H a o) → Sf m ah a → DR K ct (Sf m ah) (upd H a o) x (.ref a)) : ∀ a, H a = none → Q (.ref a) (upd H a o) := fun a ha =>
  p m _ _ (h.pure (o := o) ha).1 (h.pure (o := o) ha).2.1 (r a ha (h.pure (o := o) ha).2.1.kp (h.freshS ha))
def rOp (K : PySem.W.Frag) (ct : CT) (op : Op2) : R2 := fun x y H Q => ∃ m ah a b, HR K ct m ah H ∧ VlR K ct m ah H a x ∧ VlR K ct m ah H b y ∧ Pp K ct m ah H (op a b ah) Q
def rUn (K : PySem.W.Frag) (ct : CT) (op : Op1) : V → Hp → VK → Prop := fun x H Q => ∃ m ah a, HR K ct m ah H ∧ VlR K ct m ah H a x ∧ Pp K ct m ah H (op a ah) Q
def eBin (op : Op2) (f g : SemE) : SemE := fun σ h => rb (f σ h) fun x h1 => rb (g σ h1) fun y h2 => ro (op x y h2)
def eUn (op : Op1) (f : SemE) : SemE := fun σ h => rb (f σ h) fun x h1 => ro (op x h1)
section
variable {X : Cx} {ct : CT} {W : WX} {pos : Pos} {a b c : Expr} {f g k : SemE}
theorem rd_bin {op : Op2} {σV : L2.St} {H : Hp} {Q : VK} (h : rdE X.K ct W (eBin op f g) σV H Q) : tOp (rOp X.K ct op) (rdE X.K ct W f) (rdE X.K ct W g) σV H Q := by
  obtain ⟨m, ah, σ, hr, lr, p⟩ := h
  refine ⟨m, ah, σ, hr, lr, (Po.bind (R := VlR X.K ct) p).imp fun v H1 ⟨m1, h1, x, hr1, e1, r1, p1⟩ => ?_⟩
  refine ⟨m1, h1, σ, hr1, lr.ext e1, (Po.bind (R := VlR X.K ct) p1).imp fun u H2 ⟨m2, h2, y, hr2, e2, r2, p2⟩ => ?_⟩
  exact ⟨m2, h2, x, y, hr2, r1.ext e2, r2, Pp.of p2⟩
theorem rd_un {op : Op1} {σV : L2.St} {H : Hp} {Q : VK} (h : rdE X.K ct W (eUn op f) σV H Q) : tUn (rUn X.K ct op) (rdE X.K ct W f) σV H Q := by
  obtain ⟨m, ah, σ, hr, lr, p⟩ := h
  refine ⟨m, ah, σ, hr, lr, (Po.bind (R := VlR X.K ct) p).imp fun v H1 ⟨m1, h1, x, hr1, e1, r1, p1⟩ => ?_⟩
  exact ⟨m1, h1, x, hr1, r1, Pp.of p1⟩
theorem se_bin {op : Operator} {o : Op2} (ho : OpR X (binaryOp op) (rOp X.K ct o)) (ha : SE X ct W a f) (hb : SE X ct W b g) : SE X ct W (.BinOp a op b pos) (eBin o f g) := PE.imp (pe_op ho ha hb) fun _ _ _ h => rd_bin h
theorem se_un {op : UnaryOp} {o : Op1} (ho : UnR X (unaryOp op) (rUn X.K ct o)) (ha : SE X ct W a f) : SE X ct W (.UnaryOp op a pos) (eUn o f) := PE.imp (pe_un ho ha) fun _ _ _ h => rd_un h
theorem se_cmp {op : CmpOp} {o : Op2} (ho : OpR X (compareOp op) (rOp X.K ct o)) (ha : SE X ct W a f) (hb : SE X ct W b g) (hm : behindInMarks op b = false := by first | exact nomark _ | rfl | with_unfolding_all rfl) : SE X ct W (.Compare a [op] [b] pos) (eBin o f g) :=
  PE.imp (pe_cmpR ho ha hb hm) fun _ _ _ h => rd_bin h
theorem se_ix {o : Op2} (ho : IxR X (rOp X.K ct o)) (ha : SE X ct W a f) (hb : SE X ct W b g) (hs : PlainIx b := by exact fun _ _ => rfl) : SE X ct W (.Subscript a b pos) (eBin o f g) := PE.imp (pe_ix ho ha hb hs) fun _ _ _ h => rd_bin h
end
theorem OpR.imp {X : Cx} {f : Value → Value → Sem Value} {r r' : R2} (h : OpR X f r) (i : ∀ x y H Q, r' x y H Q → r x y H Q) : OpR X f r' := fun pins s σ H x y v u Q I rx ry q => h pins s σ H x y v u Q I rx ry (i _ _ _ _ q)
theorem UnR.imp {X : Cx} {f : Value → Sem Value} {r r' : V → Hp → VK → Prop} (h : UnR X f r) (i : ∀ x H Q, r' x H Q → r x H Q) : UnR X f r' := fun pins s σ H x v Q I rx q => h pins s σ H x v Q I rx (i _ _ _ q)
theorem IxR.imp {X : Cx} {r r' : R2} (h : IxR X r) (i : ∀ x y H Q, r' x y H Q → r x y H Q) : IxR X r' := fun a b pins s σ H x y v u Q I rx ry q => h a b pins s σ H x y v u Q I rx ry (i _ _ _ _ q)
theorem MtR.imp {X : Cx} {id : String} {r r' : V → List V → Hp → VK → Prop} (h : MtR X id r) (i : ∀ x xs H Q, r' x xs H Q → r x xs H Q) : MtR X id r' := fun pins s σ H x xs v us Q I rx rs q => h pins s σ H x xs v us Q I rx rs (i _ _ _ _ q)
theorem SlR.imp {X : Cx} {r r' : V → Option Int → Option Int → Hp → VK → Prop} (h : SlR X r) (i : ∀ x lo hi H Q, r' x lo hi H Q → r x lo hi H Q) : SlR X r' := fun pins s σ H x v vl vu lo hi sl Q I rx hs p1 p2 q => h pins s σ H x v vl vu lo hi sl Q I rx hs p1 p2 (i _ _ _ _ _ q)
theorem CallR.imp {X : Cx} {f : Value} {r r' : List V → Hp → VK → Prop} (h : CallR X f r) (i : ∀ x H Q, r' x H Q → r x H Q) : CallR X f r' := fun pins s σ H x v Q I rx q => h pins s σ H x v Q I rx (i _ _ _ q)

/-- the pure list or tuple behind a value -/
def seqOf (v : Vl) (h : Hs) : Option (List D) := match v with
  | .d (.tup xs) => some xs
  | .d (.lv xs) => some xs
  | .r k => (match h[k]? with
    | some (.lst xs) => some xs
    | _ => none)
  | _ => none
def lstOf (v : Vl) (h : Hs) : Option (List D) := match v with
  | .d (.lv xs) => some xs
  | .r k => (match h[k]? with
    | some (.lst xs) => some xs
    | _ => none)
  | _ => none
section
variable {K : PySem.W.Frag} {ct : CT} {m : List Addr} {ah : Hs} {H : Hp}
theorem HR.lstK (h : HR K ct m ah H) {k : Nat} {xs : List D} (e : ah[k]? = some (.lst xs)) {v : V} (r : VlR K ct m ah H (.r k) v) : ∃ a vs, m[k]? = some a ∧ v = .ref a ∧ H a = some (.lst vs) ∧ DRs K ct (Sf m ah) H xs vs := by
  obtain ⟨a, h1, rfl⟩ := r
  obtain ⟨u, h2, h3⟩ := h.ob k a _ h1 e
  cases h3 with
  | lst r => exact ⟨a, _, h1, rfl, h2, r⟩
theorem lst_of (h : HR K ct m ah H) {x : Vl} {xs : List D} {v : V} (e : lstOf x ah = some xs) (r : VlR K ct m ah H x v) : ∃ a vs, v = .ref a ∧ H a = some (.lst vs) ∧ DRs K ct (Sf m ah) H xs vs := by
  unfold lstOf at e
  split at e
  · cases e
    cases r with
    | lv h1 _ h2 => exact ⟨_, _, rfl, h1, h2⟩
  · rename_i k
    split at e
    · rename_i ys hk
      cases e
      obtain ⟨a, vs, _, rfl, h1, h2⟩ := h.lstK hk r
      exact ⟨a, vs, rfl, h1, h2⟩
    · cases e
  · cases e
theorem tup_of {xs : List D} {v : V} {S : Addr → Prop} (r : DR K ct S H (.tup xs) v) : ∃ a vs, v = .ref a ∧ SqT K H a vs ∧ DRs K ct S H xs vs := by
  cases r with
  | tup h1 h2 => exact ⟨_, _, rfl, .inl (.inl h1.1), h2⟩
theorem seq_of (h : HR K ct m ah H) {x : Vl} {xs : List D} {v : V} (e : seqOf x ah = some xs) (r : VlR K ct m ah H x v) : ∃ a vs, v = .ref a ∧ (SqL K H a vs ∨ SqT K H a vs) ∧ DRs K ct (Sf m ah) H xs vs := by
  unfold seqOf at e
  split at e
  · cases e
    obtain ⟨a, vs, rfl, h1, h2⟩ := tup_of r
    exact ⟨a, vs, rfl, .inr h1, h2⟩
  · cases e
    cases r with
    | lv h1 _ h2 => exact ⟨_, _, rfl, .inl (.of h1), h2⟩
  · rename_i k
    split at e
    · rename_i ys hk
      cases e
      obtain ⟨a, vs, _, rfl, h1, h2⟩ := h.lstK hk r
      exact ⟨a, vs, rfl, .inl (.of h1), h2⟩
    · cases e
  · cases e
theorem new_tup {S : Addr → Prop} {xs : List D} {vs : List V} {a : Addr} (r : DRs K ct S H xs vs) (k : Kp S H S (upd H a (.tup vs))) (s : S a) : DR K ct S (upd H a (.tup vs)) (.tup xs) (.ref a) := .tup ⟨upd_same, s⟩ (r.mono k)
theorem new_lv {S : Addr → Prop} {xs : List D} {vs : List V} {a : Addr} (r : DRs K ct S H xs vs) (k : Kp S H S (upd H a (.lst vs))) (s : S a) : DR K ct S (upd H a (.lst vs)) (.lv xs) (.ref a) := .lv upd_same s (r.mono k)
end
end Mi

/-! Mi2: the operations -/
namespace Mi
open PySem PySem.Spec L2

/-! ### data as the library compares it -/
mutual
def D.pd : D → PyData
  | .non => .none | .bl b => .bool b | .int i => .int i | .str x => .str x
  | .tup xs => .tuple (D.pds xs) | .lv xs => .list (D.pds xs)
  | .scr _ => .dict [] | .dk _ => .dict [] | .dt _ => .dict [] | .ins _ _ => .dict [] | .exc _ _ => .dict []
def D.pds : List D → List PyData
  | [] => []
  | x :: xs => D.pd x :: D.pds xs
end
@[simp] theorem pds_eq_map : ∀ xs : List D, D.pds xs = xs.map D.pd
  | [] => by simp [D.pds]
  | x :: xs => by simp [D.pds, pds_eq_map xs]
def viewD (v : Vl) (h : Hs) : Option D := match v with
  | .d x => some x
  | .r k => (match h[k]? with
    | some (.lst xs) => some (.lv xs)
    | _ => none)
def shp (d : D) : Bool := SeqAt.shaped d.pd
section
variable {K : PySem.W.Frag} {ct : CT} {S : Addr → Prop} {m : List Addr} {ah : Hs} {H : Hp}
theorem canLayAll0_mem {d : D} : ∀ {xs : List D}, PyData.canLayAll0 (D.pds xs) = true → d ∈ xs → d.pd.canLay0 = true
  | x :: xs, h, hm => by
    simp only [D.pds, PyData.canLayAll0, Bool.and_eq_true] at h
    rcases List.mem_cons.mp hm with rfl | hm
    · exact h.1
    · exact canLayAll0_mem h.2 hm
mutual
theorem dp_of : ∀ {d : D} {v : V}, DR K ct S H d v → d.pd.canLay0 = true → Dp K H v d.pd
  | _, _, .non, _ => .non
  | _, _, .bl b, _ => .bl b
  | _, _, .int i, _ => .int i
  | _, _, .str x, _ => .str x
  | _, _, .tup h r, c => by
    simp only [D.pd, PyData.canLay0] at c ⊢
    exact .tup (.inl (.inl h.1)) (dps_of r c)
  | _, _, .lv h s r, c => by
    simp only [D.pd, PyData.canLay0] at c ⊢
    exact .lst (.of h) (dps_of r c)
  | _, _, .scr h r, c => by simp [D.pd, PyData.canLay0] at c
  | _, _, .dk h s r, c => by simp [D.pd, PyData.canLay0] at c
  | _, _, .dt h s r, c => by simp [D.pd, PyData.canLay0] at c
  | _, _, .ins h s r, c => by simp [D.pd, PyData.canLay0] at c
  | _, _, .exb _ _, c => by simp [D.pd, PyData.canLay0] at c
  | _, _, .exd _ _ _ _ _, c => by simp [D.pd, PyData.canLay0] at c
  | _, _, .exq _, c => by simp [D.pd, PyData.canLay0] at c
  | _, _, .exr _ _ _ _, c => by simp [D.pd, PyData.canLay0] at c
theorem dps_of : ∀ {d : List D} {v : List V}, DRs K ct S H d v → PyData.canLayAll0 (D.pds d) = true → DpAll K H v (D.pds d)
  | _, _, .nil, _ => by simp only [D.pds]; exact .nil
  | _, _, .cons r t, c => by
    simp only [D.pds, PyData.canLayAll0, Bool.and_eq_true] at c ⊢
    exact .cons (dp_of r c.1) (dps_of t c.2)
end
theorem view_dp (h : HR K ct m ah H) {x : Vl} {d : D} {v : V} (e : viewD x ah = some d) (r : VlR K ct m ah H x v) (c : shp d = true) : Dp K H v d.pd := by
  have c' := SeqAt.canLay_of_shaped c
  unfold viewD at e
  split at e
  · cases e; exact dp_of r c'
  · rename_i k
    split at e
    · rename_i xs hk
      cases e
      obtain ⟨a, vs, _, rfl, h1, h2⟩ := h.lstK hk r
      simp only [D.pd, PyData.canLay0] at c' ⊢
      exact .lst (.of h1) (dps_of h2 c')
    · cases e
end

/-! ### the operations -/
def oAdd : Op2 := fun x y h => match x, y with
  | .d (.int i), .d (.int j) => some (.d (.int (i + j)), h)
  | .d (.str a), .d (.str b) => if a.length + b.length ≤ sizeLine then some (.d (.str (a ++ b)), h) else none
  | .d (.tup a), .d (.tup b) => if a.length + b.length ≤ sizeLine then some (.d (.tup (a ++ b)), h) else none
  | x, y => match lstOf x h, lstOf y h with
    | some a, some b => if a.length + b.length ≤ sizeLine then some (.d (.lv (a ++ b)), h) else none
    | _, _ => none
def oI (g : Int → Int → Int) (c : Int → Int → Bool) : Op2 := fun x y h => match x, y with
  | .d (.int i), .d (.int j) => if c i j then some (.d (.int (g i j)), h) else none
  | _, _ => none
def oSub : Op2 := oI (· - ·) fun _ _ => true
def cMulW (i j : Int) : Bool := decide (i.natAbs.log2 + j.natAbs.log2 < 1000000)
def cDivW (_ j : Int) : Bool := decide (0 < j) && decide (j.natAbs.log2 < 9000)
def cPow (i j : Int) : Bool := decide (0 ≤ j) && (decide (j ≤ 1000000) && decide (i.natAbs < 2 ^ 64))
def oMulI : Op2 := oI (· * ·) cMulW
def oMul : Op2 := fun x y h => match x, y with
  | .d (.int i), .d (.int j) => if cMulW i j then some (.d (.int (i * j)), h) else none
  | x, .d (.int k) => (match lstOf x h with
    | some a => if decide (-(2 ^ 63) ≤ k) && (decide (k < 2 ^ 63) && decide (a.length * k.toNat ≤ sizeLine)) then some (.d (.lv (List.replicate k.toNat a).flatten), h) else none
    | none => none)
  | _, _ => none
def oDiv : Op2 := oI (· / ·) cDivW
def oMod : Op2 := oI (· % ·) fun _ j => decide (0 < j)
def oPow : Op2 := oI (fun i j => i ^ j.toNat) cPow
def oAnd : Op2 := oI (fun i j => Builtin.bitAnd i j) fun _ _ => true
def oNeg : Op1 := fun x h => match x with
  | .d (.int i) => some (.d (.int (-i)), h)
  | _ => none
def oB (g : Int → Int → Bool) : Op2 := fun x y h => match x, y with
  | .d (.int i), .d (.int j) => some (.d (.bl (g i j)), h)
  | _, _ => none
def oLtS : Op2 := fun x y h => match x, y with
  | .d (.int i), .d (.int j) => some (.d (.bl (decide (i < j))), h)
  | .d (.str i), .d (.str j) => some (.d (.bl (decide (i.cps.toList < j.cps.toList))), h)
  | _, _ => none
def oLt : Op2 := oB fun i j => decide (i < j)
def oLe : Op2 := oB fun i j => decide (i ≤ j)
def oGt : Op2 := oB fun i j => decide (j < i)
def oGe : Op2 := oB fun i j => decide (j ≤ i)
def deq (a b : D) : Option Bool := if shp a && shp b then some (PyData.eqv a.pd b.pd) else none
def oEq : Op2 := fun x y h => match viewD x h, viewD y h with
  | some a, some b => (deq a b).map fun c => (.d (.bl c), h)
  | _, _ => none
def oNe : Op2 := fun x y h => match viewD x h, viewD y h with
  | some a, some b => (deq a b).map fun c => (.d (.bl (!c)), h)
  | _, _ => none
def isNon (x : Vl) : Bool := match x with
  | .d .non => true
  | _ => false
def oIsN : Op2 := fun x y h => match y with
  | .d .non => some (.d (.bl (isNon x)), h)
  | _ => none
def oNotN : Op2 := fun x y h => match y with
  | .d .non => some (.d (.bl (!isNon x)), h)
  | _ => none
/-- x in y: a list of data, a text -/
def inO (x y : Vl) (h : Hs) : Option Bool := match x, y with
  | .d (.str a), .d (.str b) => some (!(Builtin.Str.occurrences b a 0 b.length 1).isEmpty)
  | x, y => match viewD x h, lstOf y h with
    | some a, some ds => if shp a && shp (.lv ds) then some (ds.any fun z => PyData.eqv z.pd a.pd) else none
    | _, _ => none
def oIn : Op2 := fun x y h => (inO x y h).map fun c => (.d (.bl c), h)
def oNotIn : Op2 := fun x y h => (inO x y h).map fun c => (.d (.bl (!c)), h)
def oIx : Op2 := fun x y h => match x, y with
  | .d (.str z), .d (.int i) => if z.length ≤ sizeLine then (atI z.cps.toList i).map fun c => (.d (.str ⟨#[c]⟩), h) else none
  | x, .d (.int i) => (match seqOf x h with
    | some xs => (atI xs i).map fun d => (.d d, h)
    | none => none)
  | _, _ => none
def truO (x : Vl) (h : Hs) : Option Bool := match x with
  | .d .non => some false
  | .d (.bl b) => some b
  | .d (.int i) => some (i != 0)
  | .d (.str y) => if y.length ≤ sizeLine then some ((y.length : Int) != 0) else none
  | .d (.dk kvs) => some (!kvs.isEmpty)
  | .r k => (match h[k]? with
    | some (.lst xs) => some (!xs.isEmpty)
    | some (.dk kvs) => some (!kvs.isEmpty)
    | _ => none)
  | x => (match seqOf x h with
    | some xs => some (!xs.isEmpty)
    | none => none)
section
variable {X : Cx} {ct : CT}
theorem isEmpty_drs {K : PySem.W.Frag} {S : Addr → Prop} {H : Hp} {d : List D} {v : List V} (r : DRs K ct S H d v) : d.isEmpty = v.isEmpty := by
  cases r <;> rfl
theorem isEmpty_drk {K : PySem.W.Frag} {S : Addr → Prop} {H : Hp} {d : List (Key × D)} {v : List (Key × V)} (r : DRk K ct S H d v) : d.isEmpty = v.isEmpty := by
  cases r <;> rfl
theorem opI_sound {op : Operator} {g : Int → Int → Int} {C : Int → Int → Prop} {c : Int → Int → Bool} (ho : OpR X (binaryOp op) (rI C fun i j => .int (g i j))) (hc : ∀ i j, c i j = true → C i j) : OpR X (binaryOp op) (rOp X.K ct (oI g c)) :=
  OpR.imp ho fun x y H Q ⟨m, ah, a, b, hr, ra, rb, p⟩ => by
    unfold oI at p
    split at p
    · cases ra; cases rb
      split at p
      · rename_i hcc
        exact ⟨_, _, rfl, rfl, hc _ _ hcc, p.same hr (.int _)⟩
      · exact p.elim
    · exact p.elim
theorem op_ofI0 {f : Value → Value → Sem Value} {g : Int → Int → V} (h : OpR X f (rI0 g)) : OpR X f (rI (fun _ _ => True) g) := OpR.imp h fun x y H Q ⟨i, j, e1, e2, _, q⟩ => ⟨i, j, e1, e2, q⟩
theorem sub_sound : OpR X (binaryOp .Sub) (rOp X.K ct oSub) := opI_sound (op_ofI0 op_sub) fun _ _ _ => trivial
theorem mulI_sound : OpR X (binaryOp .Mult) (rOp X.K ct oMulI) := opI_sound op_mulW fun i j h => by unfold cMulW at h; unfold CMulW; exact of_decide_eq_true h
theorem div_sound : OpR X (binaryOp .FloorDiv) (rOp X.K ct oDiv) := opI_sound op_fdivW fun i j h => by unfold cDivW at h; exact ⟨of_decide_eq_true (Bool.and_eq_true_iff.mp h).1, of_decide_eq_true (Bool.and_eq_true_iff.mp h).2⟩
theorem mod_sound : OpR X (binaryOp .Mod) (rOp X.K ct oMod) := opI_sound op_mod fun i j h => by simpa using h
theorem pow_sound : OpR X (binaryOp .Pow) (rOp X.K ct oPow) := opI_sound op_pow fun i j h => by unfold cPow at h; simp only [Bool.and_eq_true, decide_eq_true_eq] at h; exact h
theorem and_sound : OpR X (binaryOp .BitAnd) (rOp X.K ct oAnd) := opI_sound (op_ofI0 op_and) fun _ _ _ => trivial
theorem mul_sound : OpR X (binaryOp .Mult) (rOp X.K ct oMul) := by
  refine OpR.imp (op_mulW.or op_rep) fun x y H Q ⟨m, ah, a, b, hr, ra, rb, p⟩ => ?_
  unfold oMul at p
  split at p
  · cases ra; cases rb
    split at p
    · rename_i hcc
      exact .inl ⟨_, _, rfl, rfl, by unfold cMulW at hcc; unfold CMulW; exact of_decide_eq_true hcc, p.same hr (.int _)⟩
    · exact p.elim
  · cases rb
    split at p
    · rename_i xs e
      obtain ⟨l, vs, rfl, h1, h2⟩ := lst_of hr e ra
      split at p
      · rename_i hc
        simp only [Bool.and_eq_true, decide_eq_true_eq] at hc
        refine .inr ⟨l, _, vs, rfl, rfl, h1, hc.1, hc.2.1, by rw [← h2.length]; exact hc.2.2, p.new hr fun a ha k s => new_lv ?_ k s⟩
        generalize Int.toNat _ = n
        induction n with
        | zero => exact .nil
        | succ n ih =>
          rw [List.replicate_succ, List.replicate_succ, List.flatten_cons, List.flatten_cons]
          exact h2.append ih
      · exact p.elim
    · exact p.elim
  · exact p.elim
theorem neg_sound : UnR X (unaryOp .USub) (rUn X.K ct oNeg) := UnR.imp un_neg fun x H Q ⟨m, ah, a, hr, ra, p⟩ => by
  unfold oNeg at p
  split at p
  · cases ra; exact ⟨_, rfl, p.same hr (.int _)⟩
  · exact p.elim
theorem opB_sound {op : CmpOp} {g : Int → Int → Bool} (ho : OpR X (compareOp op) (rI0 fun i j => .bl (g i j))) : OpR X (compareOp op) (rOp X.K ct (oB g)) :=
  OpR.imp ho fun x y H Q ⟨m, ah, a, b, hr, ra, rb, p⟩ => by
    unfold oB at p
    split at p
    · cases ra; cases rb
      exact ⟨_, _, rfl, rfl, p.same hr (.bl _)⟩
    · exact p.elim
theorem lt_sound : OpR X (compareOp .Lt) (rOp X.K ct oLt) := opB_sound op_lt
theorem le_sound : OpR X (compareOp .LtE) (rOp X.K ct oLe) := opB_sound op_le
theorem gt_sound : OpR X (compareOp .Gt) (rOp X.K ct oGt) := opB_sound op_gt
theorem ge_sound : OpR X (compareOp .GtE) (rOp X.K ct oGe) := opB_sound op_ge
theorem add_sound : OpR X (binaryOp .Add) (rOp X.K ct oAdd) := by
  refine OpR.imp (op_add.or (op_add_str.or (op_catA.or op_cat))) fun x y H Q ⟨m, ah, a, b, hr, ra, rb, p⟩ => ?_
  unfold oAdd at p
  split at p
  · cases ra; cases rb
    exact .inl ⟨_, _, rfl, rfl, p.same hr (.int _)⟩
  · cases ra; cases rb
    split at p
    · rename_i hc
      exact .inr (.inl ⟨_, _, rfl, rfl, hc, p.same hr (.str _)⟩)
    · exact p.elim
  · obtain ⟨l1, v1, rfl, h1, r1⟩ := tup_of ra
    obtain ⟨l2, v2, rfl, h2, r2⟩ := tup_of rb
    split at p
    · rename_i hc
      refine .inr (.inr (.inl ⟨l1, l2, v1, v2, rfl, rfl, h1, h2, by rw [← r1.length, ← r2.length]; exact hc, fun e => ?_, fun e1 e2 => ?_, fun _ _ => p.new hr fun a ha k s => new_tup (r1.append r2) k s⟩))
      · subst e
        cases r1
        exact p.same hr (by simpa using rb)
      · subst e2
        cases r2
        exact p.same hr (by simpa using ra)
    · exact p.elim
  · split at p
    · rename_i _ _ xs ys e1 e2
      obtain ⟨l1, v1, rfl, h1, r1⟩ := lst_of hr e1 ra
      obtain ⟨l2, v2, rfl, h2, r2⟩ := lst_of hr e2 rb
      split at p
      · rename_i hc
        exact .inr (.inr (.inr ⟨l1, l2, v1, v2, rfl, rfl, h1, h2, by rw [← r1.length, ← r2.length]; exact hc, p.new hr fun a ha k s => new_lv (r1.append r2) k s⟩))
      · exact p.elim
    · exact p.elim
theorem eq_sound (hu : X.A.units + 64 < cLine) : OpR X (compareOp .Eq) (rOp X.K ct oEq) := by
  refine OpR.imp (op_eqD hu) fun x y H Q ⟨m, ah, a, b, hr, ra, rb, p⟩ => ?_
  unfold oEq at p
  split at p
  · rename_i d e h1 h2
    unfold deq at p
    by_cases hc : (shp d && shp e) = true
    · rw [if_pos hc] at p
      have hc' := Bool.and_eq_true_iff.mp hc
      exact ⟨d.pd, e.pd, view_dp hr h1 ra hc'.1, view_dp hr h2 rb hc'.2, hc'.1, hc'.2, p.same hr (.bl _)⟩
    · rw [if_neg hc] at p; exact p.elim
  · exact p.elim
theorem ne_sound (hu : X.A.units + 64 < cLine) : OpR X (compareOp .NotEq) (rOp X.K ct oNe) := by
  refine OpR.imp (op_neD hu) fun x y H Q ⟨m, ah, a, b, hr, ra, rb, p⟩ => ?_
  unfold oNe at p
  split at p
  · rename_i d e h1 h2
    unfold deq at p
    by_cases hc : (shp d && shp e) = true
    · rw [if_pos hc] at p
      have hc' := Bool.and_eq_true_iff.mp hc
      exact ⟨d.pd, e.pd, view_dp hr h1 ra hc'.1, view_dp hr h2 rb hc'.2, hc'.1, hc'.2, p.same hr (.bl _)⟩
    · rw [if_neg hc] at p; exact p.elim
  · exact p.elim
theorem isNon_V {K : PySem.W.Frag} {m : List Addr} {ah : Hs} {H : Hp} {x : Vl} {v : V} (r : VlR K ct m ah H x v) : isNon x = decide (v = .non) := by
  cases x with
  | r k => obtain ⟨a, _, rfl⟩ := r; simp [isNon]
  | d x => cases r <;> simp [isNon]
theorem isN_sound : OpR X (compareOp .Is) (rOp X.K ct oIsN) := by
  refine OpR.imp op_isN fun x y H Q ⟨m, ah, a, b, hr, ra, rb, p⟩ => ?_
  unfold oIsN at p
  split at p
  · cases rb
    refine ⟨rfl, ?_⟩
    rw [isNon_V ra] at p
    exact p.same hr (.bl _)
  · exact p.elim
theorem notN_sound : OpR X (compareOp .IsNot) (rOp X.K ct oNotN) := by
  refine OpR.imp op_notN fun x y H Q ⟨m, ah, a, b, hr, ra, rb, p⟩ => ?_
  unfold oNotN at p
  split at p
  · cases rb
    refine ⟨rfl, ?_⟩
    rw [isNon_V ra] at p
    exact p.same hr (.bl _)
  · exact p.elim
theorem any_pds (a : PyData) : ∀ ds : List D, (D.pds ds).any (fun z => PyData.eqv z a) = ds.any fun z => PyData.eqv z.pd a
  | [] => by simp [D.pds]
  | d :: ds => by rw [D.pds, List.any_cons, List.any_cons, any_pds a ds]
theorem in_sound (hu : X.A.units + 65 < cLine) : OpR X (compareOp .In) (rOp X.K ct oIn) := by
  refine OpR.imp (op_in_str.or (op_inD hu)) fun x y H Q ⟨m, ah, a, b, hr, ra, rb, p⟩ => ?_
  unfold oIn inO at p
  split at p
  · cases ra; cases rb
    exact .inl ⟨_, _, rfl, rfl, p.same hr (.bl _)⟩
  · split at p
    · rename_i d ds h1 h2
      by_cases hc : (shp d && shp (.lv ds)) = true
      · rw [if_pos hc] at p
        have hc' := Bool.and_eq_true_iff.mp hc
        obtain ⟨l, vs, rfl, h3, r3⟩ := lst_of hr h2 rb
        have c2 := hc'.2
        unfold shp at c2
        simp only [D.pd] at c2
        have c3 := SeqAt.canLay_of_shaped c2
        simp only [PyData.canLay0] at c3
        refine .inr ⟨d.pd, D.pds ds, view_dp hr h1 ra hc'.1, .lst (.of h3) (dps_of r3 c3), hc'.1, c2, ?_⟩
        rw [any_pds]
        exact p.same hr (.bl _)
      · rw [if_neg hc] at p; exact p.elim
    · exact p.elim
theorem notIn_sound (hu : X.A.units + 65 < cLine) : OpR X (compareOp .NotIn) (rOp X.K ct oNotIn) := by
  refine OpR.imp (op_notIn_str.or (op_notInD hu)) fun x y H Q ⟨m, ah, a, b, hr, ra, rb, p⟩ => ?_
  unfold oNotIn inO at p
  split at p
  · cases ra; cases rb
    exact .inl ⟨_, _, rfl, rfl, p.same hr (.bl _)⟩
  · split at p
    · rename_i d ds h1 h2
      by_cases hc : (shp d && shp (.lv ds)) = true
      · rw [if_pos hc] at p
        have hc' := Bool.and_eq_true_iff.mp hc
        obtain ⟨l, vs, rfl, h3, r3⟩ := lst_of hr h2 rb
        have c2 := hc'.2
        unfold shp at c2
        simp only [D.pd] at c2
        have c3 := SeqAt.canLay_of_shaped c2
        simp only [PyData.canLay0] at c3
        refine .inr ⟨d.pd, D.pds ds, view_dp hr h1 ra hc'.1, .lst (.of h3) (dps_of r3 c3), hc'.1, c2, ?_⟩
        rw [any_pds]
        exact p.same hr (.bl _)
      · rw [if_neg hc] at p; exact p.elim
    · exact p.elim
theorem atI_drs {K : PySem.W.Frag} {S : Addr → Prop} {H : Hp} {d : List D} {v : List V} {i : Int} {x : D} (r : DRs K ct S H d v) (e : atI d i = some x) : ∃ y, atI v i = some y ∧ DR K ct S H x y := by
  unfold atI at e ⊢
  rw [← r.length]
  cases q : ixN d.length i with
  | none => rw [q] at e; cases e
  | some j =>
    rw [q] at e
    exact r.get e
theorem ix_sound : IxR X (rOp X.K ct oIx) := by
  refine IxR.imp ix_seq fun x y H Q ⟨m, ah, a, b, hr, ra, rb, p⟩ => ?_
  unfold oIx at p
  split at p
  · cases ra; cases rb
    split at p
    · rename_i hz
      generalize e : atI _ _ = q at p
      cases q with
      | none => exact p.elim
      | some c => exact .inr (.inr ⟨_, _, c, rfl, rfl, hz, e, p.same hr (.str _)⟩)
    · exact p.elim
  · cases rb
    split at p
    · rename_i xs e
      obtain ⟨l, vs, rfl, h1, r1⟩ := seq_of hr e ra
      generalize q : atI _ _ = z at p
      cases z with
      | none => exact p.elim
      | some d =>
        obtain ⟨y, h2, r2⟩ := atI_drs r1 q
        rcases h1 with h1 | h1
        · exact .inl ⟨l, vs, _, y, rfl, rfl, h1, h2, p.same hr r2⟩
        · exact .inr (.inl ⟨l, vs, _, y, rfl, rfl, h1, h2, p.same hr r2⟩)
    · exact p.elim
  · exact p.elim
/-- the truth of a value -/
theorem tru_of {K : PySem.W.Frag} {m : List Addr} {ah : Hs} {H : Hp} (hr : HR K ct m ah H) {x : Vl} {v : V} {b : Bool} (r : VlR K ct m ah H x v) (e : truO x ah = some b) : TruV K v H b := by
  unfold truO at e
  split at e
  · cases r; cases e; rfl
  · cases r; cases e; rfl
  · cases r; cases e; rfl
  · cases r
    split at e
    · rename_i hl
      cases e; exact ⟨hl, rfl⟩
    · cases e
  · cases e
    cases r with
    | dk h s t => exact .inr (.inr ⟨_, h, by rw [isEmpty_drk t]⟩)
  · rename_i k
    split at e
    · rename_i xs hk
      cases e
      obtain ⟨a, vs, _, rfl, h1, h2⟩ := hr.lstK hk r
      exact .inl ⟨vs, .of h1, by rw [isEmpty_drs h2]⟩
    · rename_i kvs hk
      cases e
      obtain ⟨a, h1, rfl⟩ := r
      obtain ⟨u, h2, h3⟩ := hr.ob k a _ h1 hk
      cases h3 with
      | dk t => exact .inr (.inr ⟨_, h2, by rw [isEmpty_drk t]⟩)
    · cases e
  · split at e
    · rename_i xs hx
      cases e
      obtain ⟨l, vs, rfl, h1, r1⟩ := seq_of hr hx r
      rw [isEmpty_drs r1]
      rcases h1 with h1 | h1
      · exact .inl ⟨vs, h1, rfl⟩
      · exact .inr (.inl ⟨vs, h1, rfl⟩)
    · cases e
end
end Mi

/-! Mi3: tests, argument lists, displays, slices, calls of built-in functions -/
namespace Mi
open PySem PySem.Spec L2

/-! ### tests -/
def tTru (f : SemE) : SemT := fun σ h => rb (f σ h) fun x h1 => match truO x h1 with
  | some b => .ok b h1
  | none => .bad
def tBl (f : SemE) : SemT := fun σ h => rb (f σ h) fun x h1 => match x with
  | .d (.bl b) => .ok b h1
  | _ => .bad
def tAn (f g : SemT) : SemT := fun σ h => rb (f σ h) fun b h1 => if b = true then g σ h1 else .ok false h1
def tOr' (f g : SemT) : SemT := fun σ h => rb (f σ h) fun b h1 => if b = true then .ok true h1 else g σ h1
def tNo (f : SemT) : SemT := fun σ h => rb (f σ h) fun b h1 => .ok (!b) h1
def eChain (o o' : Op2) (f g k : SemE) : SemE := fun σ h => rb (f σ h) fun x h1 => rb (g σ h1) fun y h2 => rb (ro (o x y h2)) fun z h3 => match z with
  | .d (.bl b) => if b = true then rb (k σ h3) fun w h4 => ro (o' y w h4) else .ok (.d (.bl false)) h3
  | _ => .bad
def eIf (t : SemT) (f g : SemE) : SemE := fun σ h => rb (t σ h) fun b h1 => if b = true then f σ h1 else g σ h1
def eAn (f g : SemE) : SemE := fun σ h => rb (f σ h) fun x h1 => match truO x h1 with
  | some b => if b = true then g σ h1 else .ok x h1
  | none => .bad
def eOr (f g : SemE) : SemE := fun σ h => rb (f σ h) fun x h1 => match truO x h1 with
  | some b => if b = true then .ok x h1 else g σ h1
  | none => .bad
def eNo (f : SemE) : SemE := fun σ h => rb (f σ h) fun x h1 => match truO x h1 with
  | some b => .ok (.d (.bl (!b))) h1
  | none => .bad
abbrev SW (X : Cx) (ct : CT) (W : WX) (e : Expr) (f : SemT) : Prop := PW X e (rdT X.K ct W f)
/-- the bool behind a value -/
theorem bl_of {K : PySem.W.Frag} {ct : CT} {m : List Addr} {ah : Hs} {H : Hp} {b : Bool} {v : V} (r : VlR K ct m ah H (.d (.bl b)) v) : v = .bl b := by
  cases r; rfl
section
variable {X : Cx} {ct : CT} {W : WX} {pos : Pos} {a b c : Expr} {f g k : SemE} {t u : SemT} {rest : List Expr}
theorem st_truth (ha : SE X ct W a f) (he : ∀ whole, isTrue a X.env whole = (do let v ← whole; standAt a.pos; holding [v] (truthy v)) := by intro _; rfl) : ST X ct W a (tTru f) :=
  PT.imp (pt_truth ha he) fun σV H Q ⟨m, ah, σ, hr, lr, p⟩ => ⟨m, ah, σ, hr, lr, (Po.bind (R := VlR X.K ct) p).imp fun v H1 ⟨m1, h1, x, hr1, e1, r1, p1⟩ => by
    dsimp only at p1
    cases e : truO x h1 with
    | none => rw [e] at p1; exact p1.elim
    | some k => rw [e] at p1; exact ⟨k, tru_of hr1 r1 e, p1 m1 H1 k hr1 (Ext.refl _ _ _) rfl⟩⟩
theorem tB_of {f : SemE} {σV : L2.St} {H : Hp} {Q : Bool → Hp → Prop} (h : rdT X.K ct W (tBl f) σV H Q) : rdE X.K ct W f σV H fun x H' => ∃ k, x = .bl k ∧ Q k H' := by
  obtain ⟨m, ah, σ, hr, lr, p⟩ := h
  refine ⟨m, ah, σ, hr, lr, (Po.bind (R := VlR X.K ct) p).imp fun v H1 ⟨m1, h1, x, hr1, e1, r1, p1⟩ => ?_⟩
  dsimp only at p1
  split at p1
  · rename_i b
    exact ⟨b, bl_of r1, p1 m1 H1 b hr1 (Ext.refl _ _ _) rfl⟩
  · exact p1.elim
theorem st_val (ha : SE X ct W a f) (he : ∀ whole, isTrue a X.env whole = (do let v ← whole; standAt a.pos; holding [v] (truthy v)) := by intro _; rfl) : ST X ct W a (tBl f) :=
  PT.imp (pt_val ha he) fun σV H Q h => tB_of h
theorem st_cmp {op : CmpOp} {o : Op2} (ho : OpR X (compareOp op) (rOp X.K ct o)) (ha : SE X ct W a f) (hb : SE X ct W b g) (hm : behindInMarks op b = false := by first | exact nomark _ | rfl | with_unfolding_all rfl) : ST X ct W (.Compare a [op] [b] pos) (tBl (eBin o f g)) :=
  PT.imp (pt_cmpR ho ha hb hm) fun σV H Q h => rd_bin (tB_of h)
theorem rd_chain {o o' : Op2} {σV : L2.St} {H : Hp} {Q : VK} (h : rdE X.K ct W (eChain o o' f g k) σV H Q) : tChain (rOp X.K ct o) (rOp X.K ct o') (rdE X.K ct W f) (rdE X.K ct W g) (rdE X.K ct W k) σV H Q := by
  obtain ⟨m, ah, σ, hr, lr, p⟩ := h
  refine ⟨m, ah, σ, hr, lr, (Po.bind (R := VlR X.K ct) p).imp fun v H1 ⟨m1, h1, x, hr1, e1, r1, p1⟩ => ?_⟩
  refine ⟨m1, h1, σ, hr1, lr.ext e1, (Po.bind (R := VlR X.K ct) p1).imp fun y H2 ⟨m2, h2, y', hr2, e2, r2, p2⟩ => ?_⟩
  refine ⟨m2, h2, x, y', hr2, r1.ext e2, r2, Pp.of (W := W) (σV := σV) ((Po.bind (R := VlR X.K ct) p2).imp fun z H3 ⟨m3, h3, z', hr3, e3, r3, p3⟩ => ?_)⟩
  dsimp only at p3
  split at p3
  · rename_i b
    refine ⟨b, bl_of r3, ?_⟩
    cases b with
    | false => exact p3 m3 H3 (.bl false) hr3 (Ext.refl _ _ _) (.bl false)
    | true =>
      refine ⟨m3, h3, σ, hr3, ((lr.ext e1).ext e2).ext e3, (Po.bind (R := VlR X.K ct) p3).imp fun w H4 ⟨m4, h4, w', hr4, e4, r4, p4⟩ => ?_⟩
      exact ⟨m4, h4, y', w', hr4, (r2.ext e3).ext e4, r4, Pp.of p4⟩
  · exact p3.elim
theorem se_chain {op op' : CmpOp} {o o' : Op2} (ho : OpR X (compareOp op) (rOp X.K ct o)) (ho' : OpR X (compareOp op') (rOp X.K ct o')) (ha : SE X ct W a f) (hb : SE X ct W b g) (hc : SE X ct W c k)
    (hm : lastMarks [op, op'] [b, c] = false := by with_unfolding_all rfl) : SE X ct W (.Compare a [op, op'] [b, c] pos) (eChain o o' f g k) := PE.imp (pe_chain ho ho' ha hb hc hm) fun _ _ _ h => rd_chain h
theorem st_chain {op op' : CmpOp} {o o' : Op2} (ho : OpR X (compareOp op) (rOp X.K ct o)) (ho' : OpR X (compareOp op') (rOp X.K ct o')) (ha : SE X ct W a f) (hb : SE X ct W b g) (hc : SE X ct W c k)
    (hm : lastMarks [op, op'] [b, c] = false := by with_unfolding_all rfl) : ST X ct W (.Compare a [op, op'] [b, c] pos) (tBl (eChain o o' f g k)) := PT.imp (pt_chain ho ho' ha hb hc hm) fun _ _ _ h => rd_chain (tB_of h)
theorem sw_and1 (ha : ST X ct W a t) : SW X ct W (.BoolOp .And [a] pos) t := pw_and1 ha
theorem sw_or1 (ha : ST X ct W a t) : SW X ct W (.BoolOp .Or [a] pos) t := pw_or1 ha
theorem sw_and (ha : ST X ct W a t) (hb : SW X ct W (.BoolOp .And (b :: rest) pos) u) : SW X ct W (.BoolOp .And (a :: b :: rest) pos) (tAn t u) :=
  PW.imp (pw_and ha hb) fun σV H Q ⟨m, ah, σ, hr, lr, p⟩ => ⟨m, ah, σ, hr, lr, (Po.bind (R := fun _ _ _ b c => b = c) p).imp fun v H1 ⟨m1, h1, x, hr1, e1, r1, p1⟩ => by
    subst r1
    dsimp only at p1
    cases x with
    | true => exact ⟨m1, h1, σ, hr1, lr.ext e1, p1⟩
    | false => exact p1 m1 H1 false hr1 (Ext.refl _ _ _) rfl⟩
theorem sw_or (ha : ST X ct W a t) (hb : SW X ct W (.BoolOp .Or (b :: rest) pos) u) : SW X ct W (.BoolOp .Or (a :: b :: rest) pos) (tOr' t u) :=
  PW.imp (pw_or ha hb) fun σV H Q ⟨m, ah, σ, hr, lr, p⟩ => ⟨m, ah, σ, hr, lr, (Po.bind (R := fun _ _ _ b c => b = c) p).imp fun v H1 ⟨m1, h1, x, hr1, e1, r1, p1⟩ => by
    subst r1
    dsimp only at p1
    cases x with
    | false => exact ⟨m1, h1, σ, hr1, lr.ext e1, p1⟩
    | true => exact p1 m1 H1 true hr1 (Ext.refl _ _ _) rfl⟩
theorem st_bool (h : SW X ct W a t) : ST X ct W a t := PW.pt h
theorem st_not (ha : ST X ct W a t) : ST X ct W (.UnaryOp .Not a pos) (tNo t) :=
  PT.imp (pt_not ha) fun σV H Q ⟨m, ah, σ, hr, lr, p⟩ => ⟨m, ah, σ, hr, lr, (Po.bind (R := fun _ _ _ b c => b = c) p).imp fun v H1 ⟨m1, h1, x, hr1, e1, r1, p1⟩ => by
    subst r1
    exact p1 m1 H1 _ hr1 (Ext.refl _ _ _) rfl⟩
theorem se_if (hc : ST X ct W c t) (ha : SE X ct W a f) (hb : SE X ct W b g) : SE X ct W (.IfExp c a b pos) (eIf t f g) :=
  PE.imp (pe_ifExp hc ha hb) fun σV H Q ⟨m, ah, σ, hr, lr, p⟩ => ⟨m, ah, σ, hr, lr, (Po.bind (R := fun _ _ _ b c => b = c) p).imp fun v H1 ⟨m1, h1, x, hr1, e1, r1, p1⟩ => by
    subst r1
    dsimp only at p1
    cases x with
    | true => exact ⟨m1, h1, σ, hr1, lr.ext e1, p1⟩
    | false => exact ⟨m1, h1, σ, hr1, lr.ext e1, p1⟩⟩
theorem se_one {op} (ha : SE X ct W a f) : SE X ct W (.BoolOp op [a] pos) f := pe_one ha
theorem se_and (ha : SE X ct W a f) (hb : SE X ct W (.BoolOp .And (b :: rest) pos) g) : SE X ct W (.BoolOp .And (a :: b :: rest) pos) (eAn f g) :=
  PE.imp (pe_andT ha hb) fun σV H Q ⟨m, ah, σ, hr, lr, p⟩ => ⟨m, ah, σ, hr, lr, (Po.bind (R := VlR X.K ct) p).imp fun v H1 ⟨m1, h1, x, hr1, e1, r1, p1⟩ => by
    dsimp only at p1
    cases e : truO x h1 with
    | none => rw [e] at p1; exact p1.elim
    | some k =>
      rw [e] at p1
      refine ⟨k, tru_of hr1 r1 e, ?_⟩
      cases k with
      | true => exact ⟨m1, h1, σ, hr1, lr.ext e1, p1⟩
      | false => exact p1 m1 H1 v hr1 (Ext.refl _ _ _) r1⟩
theorem se_or (ha : SE X ct W a f) (hb : SE X ct W (.BoolOp .Or (b :: rest) pos) g) : SE X ct W (.BoolOp .Or (a :: b :: rest) pos) (eOr f g) :=
  PE.imp (pe_orT ha hb) fun σV H Q ⟨m, ah, σ, hr, lr, p⟩ => ⟨m, ah, σ, hr, lr, (Po.bind (R := VlR X.K ct) p).imp fun v H1 ⟨m1, h1, x, hr1, e1, r1, p1⟩ => by
    dsimp only at p1
    cases e : truO x h1 with
    | none => rw [e] at p1; exact p1.elim
    | some k =>
      rw [e] at p1
      refine ⟨k, tru_of hr1 r1 e, ?_⟩
      cases k with
      | false => exact ⟨m1, h1, σ, hr1, lr.ext e1, p1⟩
      | true => exact p1 m1 H1 v hr1 (Ext.refl _ _ _) r1⟩
theorem se_not (ha : SE X ct W a f) : SE X ct W (.UnaryOp .Not a pos) (eNo f) :=
  PE.imp (pe_notT ha) fun σV H Q ⟨m, ah, σ, hr, lr, p⟩ => ⟨m, ah, σ, hr, lr, (Po.bind (R := VlR X.K ct) p).imp fun v H1 ⟨m1, h1, x, hr1, e1, r1, p1⟩ => by
    dsimp only at p1
    cases e : truO x h1 with
    | none => rw [e] at p1; exact p1.elim
    | some k =>
      rw [e] at p1
      exact ⟨k, tru_of hr1 r1 e, p1 m1 H1 _ hr1 (Ext.refl _ _ _) (.bl _)⟩⟩
end

/-! ### argument lists -/
def aNil : SemA := fun _ h => .ok [] h
def aCons (f : SemE) (g : SemA) : SemA := fun σ h => rb (f σ h) fun x h1 => rb (g σ h1) fun xs h2 => .ok (x :: xs) h2
section
variable {X : Cx} {ct : CT} {W : WX} {pos : Pos} {e : Expr} {es : List Expr} {f : SemE} {fs : SemA}
theorem sa_nil : SA X ct W [] aNil := PA.imp pa_nil fun σV H Q ⟨m, ah, σ, hr, lr, p⟩ => p m H [] hr (Ext.refl _ _ _) .nil
theorem sa_cons (ha : SE X ct W e f) (hb : SA X ct W es fs) (hs : starEach (e :: es) X.env = (false, eval e X.env) :: starEach es X.env := by rfl) : SA X ct W (e :: es) (aCons f fs) :=
  PA.imp (pa_cons ha hb hs) fun σV H Q ⟨m, ah, σ, hr, lr, p⟩ => ⟨m, ah, σ, hr, lr, (Po.bind (R := VlR X.K ct) p).imp fun v H1 ⟨m1, h1, x, hr1, e1, r1, p1⟩ =>
    ⟨m1, h1, σ, hr1, lr.ext e1, (Po.bind (R := VlRs X.K ct) p1).imp fun vs H2 ⟨m2, h2, xs, hr2, e2, r2, p2⟩ => p2 m2 H2 (v :: vs) hr2 (Ext.refl _ _ _) (.cons (r1.ext e2) r2)⟩⟩
end

/-! ### values become data -/
def toD (x : Vl) (h : Hs) : Option (D × Hs) := match x with
  | .d d => some (d, h)
  | .r k => (match h[k]? with
    | some (.lst xs) => some (.lv xs, h.set k .dead)
    | some (.dk xs) => some (.dk xs, h.set k .dead)
    | some (.dt xs) => some (.dt xs, h.set k .dead)
    | some (.ins C fs) => some (.ins C fs, h.set k .dead)
    | _ => none)
def toDs : List Vl → Hs → Option (List D × Hs)
  | [], h => some ([], h)
  | x :: xs, h => (toD x h).bind fun p => (toDs xs p.2).map fun q => (p.1 :: q.1, q.2)
section
variable {K : PySem.W.Frag} {ct : CT} {m : List Addr} {ah : Hs} {H : Hp}
theorem toD_sound (h : HR K ct m ah H) {x : Vl} {d : D} {ah' : Hs} {v : V} (e : toD x ah = some (d, ah')) (r : VlR K ct m ah H x v) : HR K ct m ah' H ∧ Ext m ah H m ah' H ∧ DR K ct (Sf m ah') H d v := by
  unfold toD at e
  split at e
  · cases e
    exact ⟨h, Ext.refl _ _ _, r⟩
  · rename_i k
    obtain ⟨a, h1, rfl⟩ := r
    obtain ⟨hr2, ex, s⟩ := h.freeze h1
    split at e
    · rename_i xs hk
      cases e
      obtain ⟨u, h2, h3⟩ := h.ob k a _ h1 hk
      cases h3 with
      | lst t => exact ⟨hr2, ex, .lv h2 s (t.mono ex.kp)⟩
    · rename_i xs hk
      cases e
      obtain ⟨u, h2, h3⟩ := h.ob k a _ h1 hk
      cases h3 with
      | dk t => exact ⟨hr2, ex, .dk h2 s (t.mono ex.kp)⟩
    · rename_i xs hk
      cases e
      obtain ⟨u, h2, h3⟩ := h.ob k a _ h1 hk
      cases h3 with
      | dt t => exact ⟨hr2, ex, .dt h2 s (t.mono ex.kp)⟩
    · rename_i C fs hk
      cases e
      obtain ⟨u, h2, h3⟩ := h.ob k a _ h1 hk
      cases h3 with
      | ins t => exact ⟨hr2, ex, .ins h2 s (t.mono ex.kp)⟩
    · cases e
theorem toDs_sound : ∀ {xs : List Vl} {ah : Hs} {ds : List D} {ah' : Hs} {vs : List V}, HR K ct m ah H → toDs xs ah = some (ds, ah') → VlRs K ct m ah H xs vs → HR K ct m ah' H ∧ Ext m ah H m ah' H ∧ DRs K ct (Sf m ah') H ds vs
  | [], ah, ds, ah', vs, h, e, r => by
    cases e
    cases r
    exact ⟨h, Ext.refl _ _ _, .nil⟩
  | x :: xs, ah, ds, ah', vs, h, e, r => by
    cases r with
    | cons r1 r2 =>
      unfold toDs at e
      cases e1 : toD x ah with
      | none => rw [e1] at e; cases e
      | some p =>
        obtain ⟨d, h1⟩ := p
        rw [e1] at e
        obtain ⟨hr1, ex1, t1⟩ := toD_sound h e1 r1
        cases e2 : toDs xs h1 with
        | none => rw [show ((some (d, h1)).bind fun p => (toDs xs p.2).map fun q => (p.1 :: q.1, q.2)) = ((toDs xs h1).map fun q => (d :: q.1, q.2)) from rfl, e2] at e; cases e
        | some q =>
          obtain ⟨qs, h2⟩ := q
          rw [show ((some (d, h1)).bind fun p => (toDs xs p.2).map fun q => (p.1 :: q.1, q.2)) = ((toDs xs h1).map fun q => (d :: q.1, q.2)) from rfl, e2] at e
          cases e
          obtain ⟨hr2, ex2, t2⟩ := toDs_sound hr1 e2 (r2.ext ex1)
          exact ⟨hr2, ex1.trans ex2, .cons (t1.mono ex2.kp) t2⟩
end
def eTup (fs : SemA) : SemE := fun σ h => rb (fs σ h) fun xs h1 => match toDs xs h1 with
  | some (ds, h2) => if ds.length ≤ 1000 then .ok (.d (.tup ds)) h2 else .bad
  | none => .bad
/-- a list that is never changed -/
def eLv (fs : SemA) : SemE := fun σ h => rb (fs σ h) fun xs h1 => match toDs xs h1 with
  | some (ds, h2) => if ds.length ≤ 1000 then .ok (.d (.lv ds)) h2 else .bad
  | none => .bad
/-- a list that may be changed -/
def eLst (fs : SemA) : SemE := fun σ h => rb (fs σ h) fun xs h1 => match toDs xs h1 with
  | some (ds, h2) => if ds.length ≤ 1000 then .ok (.r h2.length) (h2 ++ [.lst ds]) else .bad
  | none => .bad
def eDk0 : SemE := fun _ h => .ok (.r h.length) (h ++ [.dk []])
def eDt0 : SemE := fun _ h => .ok (.r h.length) (h ++ [.dt []])
section
variable {X : Cx} {ct : CT} {W : WX} {pos : Pos} {e : Expr} {es : List Expr} {f : SemE} {fs : SemA}
theorem le1000 {n : Nat} (h : n ≤ 1000) : n ≤ sizeLine := Nat.le_of_lt (small1000 h)
theorem se_tup {x1} (ha : SA X ct W es fs) : SE X ct W (.Tuple es x1 pos) (eTup fs) :=
  PE.imp (pe_tup ha) fun σV H Q ⟨m, ah, σ, hr, lr, p⟩ => ⟨m, ah, σ, hr, lr, (Po.bind (R := VlRs X.K ct) p).imp fun vs H1 ⟨m1, h1, xs, hr1, e1, r1, p1⟩ => by
    dsimp only at p1
    split at p1
    · rename_i ds h2 e2
      obtain ⟨hr2, ex2, t2⟩ := toDs_sound hr1 e2 r1
      split at p1
      · rename_i hl
        refine ⟨by rw [← t2.length]; exact le1000 hl, fun a ha => p1 m1 _ _ (hr2.pure (o := .tup vs) ha).1 (ex2.trans (hr2.pure (o := .tup vs) ha).2.1) (new_tup t2 (hr2.pure (o := .tup vs) ha).2.1.kp (hr2.freshS ha))⟩
      · exact p1.elim
    · exact p1.elim⟩
theorem se_lv (ha : SA X ct W es fs) : SE X ct W (.List es pos) (eLv fs) :=
  PE.imp (pe_lst ha) fun σV H Q ⟨m, ah, σ, hr, lr, p⟩ => ⟨m, ah, σ, hr, lr, (Po.bind (R := VlRs X.K ct) p).imp fun vs H1 ⟨m1, h1, xs, hr1, e1, r1, p1⟩ => by
    dsimp only at p1
    split at p1
    · rename_i ds h2 e2
      obtain ⟨hr2, ex2, t2⟩ := toDs_sound hr1 e2 r1
      split at p1
      · rename_i hl
        refine ⟨by rw [← t2.length]; exact le1000 hl, fun a ha => p1 m1 _ _ (hr2.pure (o := .lst vs) ha).1 (ex2.trans (hr2.pure (o := .lst vs) ha).2.1) (new_lv t2 (hr2.pure (o := .lst vs) ha).2.1.kp (hr2.freshS ha))⟩
      · exact p1.elim
    · exact p1.elim⟩
theorem at_new {K : PySem.W.Frag} {m : List Addr} {ah : Hs} {H : Hp} (h : HR K ct m ah H) {a : Addr} : (m ++ [a])[ah.length]? = some a := by
  rw [← h.len, List.getElem?_append_right (Nat.le_refl _), Nat.sub_self]; rfl
theorem se_lst (ha : SA X ct W es fs) : SE X ct W (.List es pos) (eLst fs) :=
  PE.imp (pe_lst ha) fun σV H Q ⟨m, ah, σ, hr, lr, p⟩ => ⟨m, ah, σ, hr, lr, (Po.bind (R := VlRs X.K ct) p).imp fun vs H1 ⟨m1, h1, xs, hr1, e1, r1, p1⟩ => by
    dsimp only at p1
    split at p1
    · rename_i ds h2 e2
      obtain ⟨hr2, ex2, t2⟩ := toDs_sound hr1 e2 r1
      split at p1
      · rename_i hl
        refine ⟨by rw [← t2.length]; exact le1000 hl, fun a ha => ?_⟩
        obtain ⟨hr3, ex3⟩ := hr2.alloc ha (OR.lst t2)
        exact p1 _ _ _ hr3 (ex2.trans ex3) ⟨a, at_new hr2, rfl⟩
      · exact p1.elim
    · exact p1.elim⟩
theorem se_dk0 : SE X ct W (.Dict [] [] pos) eDk0 :=
  PE.imp pe_dnewK fun σV H Q ⟨m, ah, σ, hr, lr, p⟩ a ha => by
    obtain ⟨hr3, ex3⟩ := hr.alloc ha (OR.dk (ct := ct) .nil)
    exact p _ _ _ hr3 ex3 ⟨a, at_new hr, rfl⟩
theorem se_dt0 : SE X ct W (.Dict [] [] pos) eDt0 :=
  PE.imp pe_dnewT fun σV H Q ⟨m, ah, σ, hr, lr, p⟩ a ha => by
    obtain ⟨hr3, ex3⟩ := hr.alloc ha (OR.dt (ct := ct) .nil)
    exact p _ _ _ hr3 ex3 ⟨a, at_new hr, rfl⟩
end

/-! ### slices -/
abbrev SemO := Lo → Hs → Res (Option Int)
def rdO (K : PySem.W.Frag) (ct : CT) (W : WX) (f : SemO) : TO := fun σV H Q => ∃ m ah σ, HR K ct m ah H ∧ LR K ct m ah H σ σV ∧ Po K ct W σV (fun _ _ _ b c => b = c) m ah H (f σ ah) Q
theorem PO.imp {X : Cx} {e : Option Expr} {t t' : TO} (h : PO X e t) (i : ∀ σ H Q, t' σ H Q → t σ H Q) : PO X e t' := ⟨fun pins s σ H Q I q => h.run pins s σ H Q I (i _ _ _ q)⟩
abbrev SO (X : Cx) (ct : CT) (W : WX) (e : Option Expr) (f : SemO) : Prop := PO X e (rdO X.K ct W f)
def oNone : SemO := fun _ h => .ok none h
def oSome (f : SemE) : SemO := fun σ h => rb (f σ h) fun x h1 => match x with
  | .d (.int i) => .ok (some i) h1
  | _ => .bad
def cutL {α : Type} (xs : List α) (lo hi : Option Int) : List α := (xs.drop (HT.sIx xs.length 0 lo)).take (HT.sIx xs.length xs.length hi - HT.sIx xs.length 0 lo)
def slO (x : Vl) (lo hi : Option Int) (h : Hs) : Option (Vl × Hs) := match x with
  | .d (.tup xs) => some (.d (.tup (cutL xs lo hi)), h)
  | .d (.str z) => if z.length ≤ sizeLine then some (.d (.str (Txt.slice z lo hi)), h) else none
  | x => (match lstOf x h with
    | some xs => some (.d (.lv (cutL xs lo hi)), h)
    | none => none)
def eSl (f : SemE) (lo hi : SemO) : SemE := fun σ h => rb (f σ h) fun x h1 => rb (lo σ h1) fun a h2 => rb (hi σ h2) fun b h3 => ro (slO x a b h3)
section
variable {X : Cx} {ct : CT} {W : WX} {pos p2 : Pos} {e : Expr} {lo hi : Option Expr} {f : SemE} {l u : SemO}
theorem so_none : SO X ct W none oNone := PO.imp po_none fun σV H Q ⟨m, ah, σ, hr, lr, p⟩ => p m H none hr (Ext.refl _ _ _) rfl
theorem so_some (h : SE X ct W e f) : SO X ct W (some e) (oSome f) := PO.imp (po_some h) fun σV H Q ⟨m, ah, σ, hr, lr, p⟩ => ⟨m, ah, σ, hr, lr, (Po.bind (R := VlR X.K ct) p).imp fun v H1 ⟨m1, h1, x, hr1, e1, r1, p1⟩ => by
  dsimp only at p1
  split at p1
  · cases r1
    exact ⟨_, rfl, p1 m1 H1 _ hr1 (Ext.refl _ _ _) rfl⟩
  · exact p1.elim⟩
theorem cut_drs {K : PySem.W.Frag} {S : Addr → Prop} {H : Hp} {d : List D} {v : List V} (r : DRs K ct S H d v) (lo hi : Option Int) : DRs K ct S H (cutL d lo hi) (cutV v lo hi) := by
  unfold cutL cutV
  rw [r.length]
  exact (r.drop _).take _
theorem cut_whole {α : Type} {xs : List α} {lo hi : Option Int} (h : HT.sIx xs.length 0 lo = 0 ∧ HT.sIx xs.length xs.length hi = xs.length) : cutL xs lo hi = xs := by
  unfold cutL
  rw [h.1, h.2]; simp
def rSlO (K : PySem.W.Frag) (ct : CT) : V → Option Int → Option Int → Hp → VK → Prop := fun x lo hi H Q => ∃ m ah a, HR K ct m ah H ∧ VlR K ct m ah H a x ∧ Pp K ct m ah H (slO a lo hi ah) Q
theorem sl_sound : SlR X (rSlO X.K ct) := by
  refine SlR.imp (sl_tupA.or (SlR.or C8.sl_txt sl_list)) fun x lo hi H Q ⟨m, ah, a, hr, ra, p⟩ => ?_
  unfold slO at p
  split at p
  · obtain ⟨l, vs, rfl, h1, r1⟩ := tup_of ra
    refine .inl ⟨l, vs, rfl, h1, fun hw => ?_, fun hw => p.new hr fun a ha k s => new_tup (cut_drs r1 _ _) k s⟩
    rw [← r1.length] at hw
    rw [cut_whole hw] at p
    exact p.same hr ra
  · cases ra
    split at p
    · rename_i hz
      exact .inr (.inl ⟨_, rfl, hz, p.same hr (.str _)⟩)
    · exact p.elim
  · split at p
    · rename_i xs e
      obtain ⟨l, vs, rfl, h1, r1⟩ := lst_of hr e ra
      exact .inr (.inr ⟨l, vs, rfl, .of h1, p.new hr fun a ha k s => new_lv (cut_drs r1 _ _) k s⟩)
    · exact p.elim
theorem se_slice (he : SE X ct W e f) (hl : SO X ct W lo l) (hh : SO X ct W hi u) : SE X ct W (.Subscript e (.Slice lo hi none p2) pos) (eSl f l u) :=
  PE.imp (pe_slice sl_sound he hl hh) fun σV H Q ⟨m, ah, σ, hr, lr, p⟩ => ⟨m, ah, σ, hr, lr, (Po.bind (R := VlR X.K ct) p).imp fun v H1 ⟨m1, h1, x, hr1, e1, r1, p1⟩ =>
    ⟨m1, h1, σ, hr1, lr.ext e1, (Po.bind (R := fun _ _ _ b c => b = c) p1).imp fun y H2 ⟨m2, h2, y', hr2, e2, r2, p2⟩ =>
      ⟨m2, h2, σ, hr2, (lr.ext e1).ext e2, (Po.bind (R := fun _ _ _ b c => b = c) p2).imp fun z H3 ⟨m3, h3, z', hr3, e3, r3, p3⟩ => by
        subst r2 r3
        exact ⟨m3, h3, x, hr3, (r1.ext e2).ext e3, Pp.of p3⟩⟩⟩⟩
end

/-! ### calls of what is built in -/
abbrev OpN := List Vl → Hs → Option (Vl × Hs)
def rN (K : PySem.W.Frag) (ct : CT) (op : OpN) : List V → Hp → VK → Prop := fun vs H Q => ∃ m ah xs, HR K ct m ah H ∧ VlRs K ct m ah H xs vs ∧ Pp K ct m ah H (op xs ah) Q
def eN (op : OpN) (fs : SemA) : SemE := fun σ h => rb (fs σ h) fun xs h1 => ro (op xs h1)
section
variable {X : Cx} {ct : CT} {W : WX} {pos p : Pos} {e : Expr} {es : List Expr} {fs : SemA} {op : OpN} {x : Str} {id T : String}
theorem rd_n {σV : L2.St} {H : Hp} {Q : VK} (h : rdE X.K ct W (eN op fs) σV H Q) : tCB (rN X.K ct op) (rdA X.K ct W fs) σV H Q := by
  obtain ⟨m, ah, σ, hr, lr, p⟩ := h
  refine ⟨m, ah, σ, hr, lr, (Po.bind (R := VlRs X.K ct) p).imp fun vs H1 ⟨m1, h1, xs, hr1, e1, r1, p1⟩ => ?_⟩
  exact ⟨m1, h1, xs, hr1, r1, Pp.of p1⟩
theorem se_callB (hc : CallR X (.builtin id) (rN X.K ct op)) (hg : Gl X x) (hm : X.mg x = none) (hv : bootBuiltins x = some (.builtin id)) (ha : SA X ct W (e :: es) fs) (hn : x ≠ "__name__" := by decide) (hdb : (x == ("__debug__" : Str)) = false := by decide)
    (he : starEach (e :: es) X.env = (false, eval e X.env) :: starEach es X.env := by rfl) (hpl : (backTo pos (starEach es X.env)).any (·.1) = false := by rfl) : SE X ct W (.Call (.Name x p) (e :: es) [] pos) (eN op fs) := PE.imp (pe_callB hc hg hm hv ha hn hdb he hpl) fun _ _ _ h => rd_n h
theorem se_callTy (hc : CallR X (.type T) (rN X.K ct op)) (hg : Gl X x) (hm : X.mg x = none) (hv : bootBuiltins x = some (.type T)) (ha : SA X ct W (e :: es) fs) (hn : x ≠ "__name__" := by decide) (hdb : (x == ("__debug__" : Str)) = false := by decide)
    (he : starEach (e :: es) X.env = (false, eval e X.env) :: starEach es X.env := by rfl) (hpl : (backTo pos (starEach es X.env)).any (·.1) = false := by rfl) : SE X ct W (.Call (.Name x p) (e :: es) [] pos) (eN op fs) := PE.imp (pe_callTy hc hg hm hv ha hn hdb he hpl) fun _ _ _ h => rd_n h
def nLen : OpN := fun xs h => match xs with
  | [.d (.str y)] => if y.length ≤ sizeLine then some (.d (.int y.length), h) else none
  | [x] => (match seqOf x h with
    | some ys => some (.d (.int ys.length), h)
    | none => none)
  | _ => none
theorem len_sound : CallR X (.builtin "len") (rN X.K ct nLen) := by
  refine CallR.imp call_len fun vs H Q ⟨m, ah, xs, hr, rs, p⟩ => ?_
  unfold nLen at p
  split at p
  · cases rs with
    | cons r t =>
      cases t
      cases r
      split at p
      · rename_i hl
        exact ⟨_, _, rfl, ⟨hl, rfl⟩, p.same hr (.int _)⟩
      · exact p.elim
  · cases rs with
    | cons r t =>
      cases t
      split at p
      · rename_i ys e
        obtain ⟨l, ws, rfl, h1, r1⟩ := seq_of hr e r
        refine ⟨_, _, rfl, h1.imp (fun z => ⟨ws, z, rfl⟩) (fun z => ⟨ws, z, rfl⟩), ?_⟩
        rw [← r1.length]
        exact p.same hr (.int _)
      · exact p.elim
  · exact p.elim
/-- list(x) that is never changed, that may be changed -/
def nListV : OpN := fun xs h => match xs with
  | [x] => (match seqOf x h with
    | some ys => some (.d (.lv ys), h)
    | none => (match x with
      | .d (.scr ys) => some (.d (.lv ys), h)
      | _ => none))
  | _ => none
def nListM : OpN := fun xs h => match xs with
  | [x] => (match seqOf x h with
    | some ys => some (.r h.length, h ++ [.lst ys])
    | none => none)
  | _ => none
theorem listV_sound : CallR X (.type "list") (rN X.K ct nListV) := by
  refine CallR.imp call_list_of fun vs H Q ⟨m, ah, xs, hr, rs, p⟩ => ?_
  unfold nListV at p
  split at p
  · cases rs with
    | cons r t =>
      cases t
      split at p
      · rename_i ys e
        obtain ⟨l, ws, rfl, h1, r1⟩ := seq_of hr e r
        exact ⟨l, ws, rfl, h1, p.new hr fun a ha k s => new_lv r1 k s⟩
      · split at p
        · cases r with
          | scr h1 r1 => exact ⟨_, _, rfl, .inl (h1.imp (fun ⟨⟨o, h⟩, _⟩ => .inr ⟨o, h⟩) id), p.new hr fun a ha k s => new_lv r1 k s⟩
        · exact p.elim
  · exact p.elim
theorem listM_sound : CallR X (.type "list") (rN X.K ct nListM) := by
  refine CallR.imp call_list_of fun vs H Q ⟨m, ah, xs, hr, rs, p⟩ => ?_
  unfold nListM at p
  split at p
  · cases rs with
    | cons r t =>
      cases t
      split at p
      · rename_i ys e
        obtain ⟨l, ws, rfl, h1, r1⟩ := seq_of hr e r
        refine ⟨l, ws, rfl, h1, fun a ha => ?_⟩
        obtain ⟨hr3, ex3⟩ := hr.alloc ha (OR.lst r1)
        exact p _ _ _ hr3 ex3 ⟨a, at_new hr, rfl⟩
      · exact p.elim
  · exact p.elim
def nTuple : OpN := fun xs h => match xs with
  | [x] => (match seqOf x h with
    | some ys => some (.d (.tup ys), h)
    | none => none)
  | _ => none
theorem tuple_sound : CallR X (.type "tuple") (rN X.K ct nTuple) := by
  refine CallR.imp call_tuple_of fun vs H Q ⟨m, ah, xs, hr, rs, p⟩ => ?_
  unfold nTuple at p
  split at p
  · cases rs with
    | cons r t =>
      cases t
      split at p
      · rename_i ys e
        unfold seqOf at e
        split at e
        · cases e
          obtain ⟨l, ws, rfl, h1, r1⟩ := tup_of r
          exact ⟨l, ws, rfl, .inr ⟨h1, p.same hr r⟩⟩
        · cases e
          cases r with
          | lv h1 s1 r1 => exact ⟨_, _, rfl, .inl ⟨.of h1, p.new hr fun a ha k s => new_tup r1 k s⟩⟩
        · rename_i k
          split at e
          · rename_i zs hk
            cases e
            obtain ⟨a, ws, _, rfl, h1, r1⟩ := hr.lstK hk r
            exact ⟨a, ws, rfl, .inl ⟨.of h1, p.new hr fun a ha k s => new_tup r1 k s⟩⟩
          · cases e
        · cases e
      · exact p.elim
  · exact p.elim
def nInt : OpN := fun xs h => match xs with
  | [.d (.int i)] => some (.d (.int i), h)
  | [.d (.bl k)] => some (.d (.int (if k then 1 else 0)), h)
  | _ => none
theorem int_sound : CallR X (.type "int") (rN X.K ct nInt) := by
  refine CallR.imp call_int1 fun vs H Q ⟨m, ah, xs, hr, rs, p⟩ => ?_
  unfold nInt at p
  split at p
  · cases rs with
    | cons r t => cases t; cases r; exact .inl ⟨_, rfl, p.same hr (.int _)⟩
  · cases rs with
    | cons r t => cases t; cases r; exact .inr ⟨_, rfl, p.same hr (.int _)⟩
  · exact p.elim
def nAbs : OpN := fun xs h => match xs with
  | [.d (.int i)] => some (.d (.int (if i < 0 then -i else i)), h)
  | _ => none
theorem abs_sound : CallR X (.builtin "abs") (rN X.K ct nAbs) := by
  refine CallR.imp call_abs fun vs H Q ⟨m, ah, xs, hr, rs, p⟩ => ?_
  unfold nAbs at p
  split at p
  · cases rs with
    | cons r t => cases t; cases r; exact ⟨_, rfl, p.same hr (.int _)⟩
  · exact p.elim
/-- the built-in type's name -/
def tyO (x : Vl) (h : Hs) : Option String := match x with
  | .d .non => some "NoneType" | .d (.bl _) => some "bool" | .d (.int _) => some "int" | .d (.str _) => some "str"
  | .d (.tup _) => some "tuple" | .d (.lv _) => some "list" | .d (.dk _) => some "dict" | .d (.dt _) => some "dict"
  | .r k => (match h[k]? with
    | some (.lst _) => some "list"
    | some (.dk _) => some "dict"
    | some (.dt _) => some "dict"
    | _ => none)
  | _ => none
theorem tyO_sound {K : PySem.W.Frag} {m : List Addr} {ah : Hs} {H : Hp} (hr : HR K ct m ah H) {x : Vl} {v : V} {t : String} (r : VlR K ct m ah H x v) (e : tyO x ah = some t) : TyX K H v (.type t) := by
  unfold tyO at e
  split at e
  · cases e; cases r; exact .base .non
  · cases e; cases r; exact .base (.bl _)
  · cases e; cases r; exact .base (.int _)
  · cases e; cases r; exact .base (.str _)
  · cases e
    cases r with
    | tup h1 h2 => exact .base (.tup h1.1)
  · cases e; cases r with | lv h1 _ _ => exact .base (.lst h1)
  · cases e; cases r with | dk h1 _ _ => exact .base (.dK h1)
  · cases e; cases r with | dt h1 _ _ => exact .base (.dT h1)
  · rename_i k
    obtain ⟨a, h1, rfl⟩ := r
    split at e
    · rename_i hk
      cases e
      obtain ⟨u, h2, h3⟩ := hr.ob k a _ h1 hk
      cases h3; exact .base (.lst h2)
    · rename_i hk
      cases e
      obtain ⟨u, h2, h3⟩ := hr.ob k a _ h1 hk
      cases h3; exact .base (.dK h2)
    · rename_i hk
      cases e
      obtain ⟨u, h2, h3⟩ := hr.ob k a _ h1 hk
      cases h3; exact .base (.dT h2)
    · cases e
  · cases e
end
end Mi

/-! Mi4: statements, targets, loops -/
namespace Mi
open PySem PySem.Spec L2

inductive Fl where
  | nx | ret (v : Vl) | brk | cnt
inductive RS where
  | ok (f : Fl) (σ : Lo) (h : Hs) | exc (e : Ex) (σ : Lo) (h : Hs) | bad
abbrev SemS := Lo → Hs → RS
def PoF (K : PySem.W.Frag) (ct : CT) (D : Ends) (f : Fl) (m : List Addr) (ah : Hs) (H : Hp) (σV : L2.St) : Prop := match f with
  | .nx => D.nx σV H
  | .brk => D.bk σV H
  | .cnt => D.ct σV H
  | .ret v => ∀ u, VlR K ct m ah H v u → D.rt u H
def PoS (K : PySem.W.Frag) (ct : CT) (W : WX) (D : Ends) (m : List Addr) (ah : Hs) (H : Hp) (r : RS) : Prop := match r with
  | .ok f σ' h => ∀ m' H' σV', HR K ct m' h H' → Ext m ah H m' h H' → LR K ct m' h H' σ' σV' → PoF K ct D f m' h H' σV'
  | .exc e σ' h => ∀ m' H' σV' cls d, HR K ct m' h H' → Ext m ah H m' h H' → LR K ct m' h H' σ' σV' → XR K ct (Sf m' h) H' e cls d → W cls d σV' H'
  | .bad => False
def rdS (K : PySem.W.Frag) (ct : CT) (W : WX) (f : SemS) : TS := fun D σV H => ∃ m ah σ, HR K ct m ah H ∧ LR K ct m ah H σ σV ∧ PoS K ct W D m ah H (f σ ah)
abbrev SS (X : Cx) (ct : CT) (W : WX) (st : Stmt) (f : SemS) : Prop := PS X st (rdS X.K ct W f)
abbrev SSs (X : Cx) (ct : CT) (W : WX) (st : List Stmt) (f : SemS) : Prop := PSs X st (rdS X.K ct W f)
/-- from an expression's result -/
def sb {α : Type} (r : Res α) (σ : Lo) (f : α → Hs → RS) : RS := match r with
  | .ok a h => f a h
  | .exc e h => .exc e σ h
  | .bad => .bad
@[simp] theorem sb_ok {α : Type} (a : α) (h : Hs) (σ : Lo) (f : α → Hs → RS) : sb (.ok a h) σ f = f a h := rfl
@[simp] theorem sb_exc {α : Type} (e : Ex) (h : Hs) (σ : Lo) (f : α → Hs → RS) : sb (.exc e h) σ f = .exc e σ h := rfl
@[simp] theorem sb_bad {α : Type} (σ : Lo) (f : α → Hs → RS) : sb .bad σ f = .bad := rfl
def ss (r : RS) (f : SemS) : RS := match r with
  | .ok .nx σ h => f σ h
  | r => r
@[simp] theorem ss_nx (σ : Lo) (h : Hs) (f : SemS) : ss (.ok .nx σ h) f = f σ h := rfl
@[simp] theorem ss_ret (v : Vl) (σ : Lo) (h : Hs) (f : SemS) : ss (.ok (.ret v) σ h) f = .ok (.ret v) σ h := rfl
@[simp] theorem ss_brk (σ : Lo) (h : Hs) (f : SemS) : ss (.ok .brk σ h) f = .ok .brk σ h := rfl
@[simp] theorem ss_cnt (σ : Lo) (h : Hs) (f : SemS) : ss (.ok .cnt σ h) f = .ok .cnt σ h := rfl
@[simp] theorem ss_exc (e : Ex) (σ : Lo) (h : Hs) (f : SemS) : ss (.exc e σ h) f = .exc e σ h := rfl
@[simp] theorem ss_bad (f : SemS) : ss .bad f = .bad := rfl
section
variable {K : PySem.W.Frag} {ct : CT} {W : WX} {D : Ends} {m m' : List Addr} {ah ah' : Hs} {H H' : Hp} {α β : Type}
theorem PoS.ext {r : RS} (p : PoS K ct W D m ah H r) (e : Ext m ah H m' ah' H') : PoS K ct W D m' ah' H' r := by
  cases r with
  | ok f σ h => exact fun m2 H2 σ2 h2 e2 l2 => p m2 H2 σ2 h2 (e.trans e2) l2
  | exc x σ h => exact fun m2 H2 σ2 c d h2 e2 l2 r2 => p m2 H2 σ2 c d h2 (e.trans e2) l2 r2
  | bad => exact p
/-- what a value is worth for the statement -/
theorem PoS.bind {R : List Addr → Hs → Hp → α → β → Prop} {r : Res α} {g : α → Hs → RS} {σ : Lo} {σV : L2.St} (lr : LR K ct m ah H σ σV) (p : PoS K ct W D m ah H (sb r σ g)) :
    Po K ct W σV R m ah H r (Mid K ct m ah H R fun m1 h1 H1 x => PoS K ct W D m1 h1 H1 (g x h1)) := by
  cases r with
  | ok x h => exact fun m2 H2 v h2 e2 r2 => ⟨m2, h, x, h2, e2, r2, PoS.ext (r := g x h) p e2⟩
  | exc x h => exact fun m2 H2 c d h2 e2 r2 => p m2 H2 σV c d h2 e2 (lr.ext e2) r2
  | bad => exact p
theorem PoS.nx {σ : Lo} {σV : L2.St} (hr : HR K ct m ah H) (lr : LR K ct m ah H σ σV) (p : PoS K ct W D m ah H (.ok .nx σ ah)) : D.nx σV H := p m H σV hr (Ext.refl _ _ _) lr
/-- another end, wherever the first one is met -/
theorem PoS.imp {D' : Ends} {r : RS} (p : PoS K ct W D m ah H r)
    (i : ∀ f σ' h m' H' σV', r = .ok f σ' h → HR K ct m' h H' → Ext m ah H m' h H' → LR K ct m' h H' σ' σV' → PoF K ct D f m' h H' σV' → PoF K ct D' f m' h H' σV') : PoS K ct W D' m ah H r := by
  cases r with
  | ok f σ h => exact fun m2 H2 σ2 h2 e2 l2 => i f σ h m2 H2 σ2 rfl h2 e2 l2 (p m2 H2 σ2 h2 e2 l2)
  | exc x σ h => exact p
  | bad => exact p
end

/-! ### blocks and small statements -/
def sNil : SemS := fun σ h => .ok .nx σ h
def sSq (f g : SemS) : SemS := fun σ h => ss (f σ h) g
def sEx (f : SemE) : SemS := fun σ h => sb (f σ h) σ fun _ h1 => .ok .nx σ h1
def sRt (f : SemE) : SemS := fun σ h => sb (f σ h) σ fun x h1 => .ok (.ret x) σ h1
def sRtN : SemS := fun σ h => .ok (.ret (.d .non)) σ h
def sIf (t : SemT) (f g : SemS) : SemS := fun σ h => sb (t σ h) σ fun b h1 => if b = true then f σ h1 else g σ h1
def sBrk : SemS := fun σ h => .ok .brk σ h
def sCnt : SemS := fun σ h => .ok .cnt σ h
def sBad : SemS := fun _ _ => .bad
/-- a list at a name is never changed from here on -/
def sFrz (i : Nat) : SemS := fun σ h => match σ[i]? with
  | some (some x) => (match toD x h with
    | some (d, h1) => .ok .nx (σ.set i (some (.d d))) h1
    | none => .bad)
  | _ => .bad
section
variable {X : Cx} {ct : CT} {W : WX} {pos : Pos} {e c : Expr} {f : SemE} {t : SemT} {st : Stmt} {rest a b : List Stmt} {u v : SemS}
theorem sss_nil : SSs X ct W [] sNil := PSs.imp pss_nil fun D σV H ⟨m, ah, σ, hr, lr, p⟩ => p.nx hr lr
theorem rd_seq {D : Ends} {σV : L2.St} {H : Hp} (h : rdS X.K ct W (sSq u v) D σV H) : tSeq (rdS X.K ct W u) (rdS X.K ct W v) D σV H := by
  obtain ⟨m, ah, σ, hr, lr, p⟩ := h
  refine ⟨m, ah, σ, hr, lr, ?_⟩
  unfold sSq at p
  cases e : u σ ah with
  | ok f σ' h =>
    rw [e] at p
    cases f with
    | nx => exact fun m2 H2 σ2 h2 e2 l2 => ⟨m2, h, σ', h2, l2, PoS.ext (r := v σ' h) p e2⟩
    | ret x => exact p
    | brk => exact p
    | cnt => exact p
  | exc x σ' h => rw [e] at p; exact p
  | bad => rw [e] at p; exact p.elim
theorem sss_cons (h1 : SS X ct W st u) (h2 : SSs X ct W rest v) : SSs X ct W (st :: rest) (sSq u v) := PSs.imp (pss_cons h1 h2) fun _ _ _ h => rd_seq h
theorem sss_one (h1 : SS X ct W st u) : SSs X ct W [st] u := pss_one h1
/-- a remark of ours ahead of a block: the list at slot i is frozen -/
theorem sss_frz {i : Nat} (h2 : SSs X ct W rest v) : SSs X ct W rest (sSq (sFrz i) v) := PSs.imp h2 fun D σV H ⟨m, ah, σ, hr, lr, p⟩ => by
  unfold sSq sFrz at p
  cases e : σ[i]? with
  | none => rw [e] at p; exact p.elim
  | some o =>
    cases o with
    | none => rw [e] at p; exact p.elim
    | some x =>
      rw [e] at p
      dsimp only at p
      cases e2 : toD x ah with
      | none => rw [e2] at p; exact p.elim
      | some q =>
        obtain ⟨d, h1⟩ := q
        rw [e2] at p
        obtain ⟨y, hy, r⟩ := lr.at_ i x e
        obtain ⟨hr1, ex1, r1⟩ := toD_sound hr e2 r
        have l1 : LR X.K ct m h1 H (σ.set i (some (.d d))) σV := by
          refine ⟨by rw [List.length_set]; exact lr.len, fun j z hz => ?_⟩
          by_cases q : i = j
          · subst q
            rw [List.getElem?_set_self (List.getElem?_eq_some_iff.mp e).1] at hz
            cases hz
            exact ⟨y, hy, r1⟩
          · rw [List.getElem?_set_ne q] at hz
            exact (lr.ext ex1).at_ j z hz
        exact ⟨m, h1, _, hr1, l1, PoS.ext (r := v (σ.set i (some (.d d))) h1) p ex1⟩
theorem sss_never {sts : List Stmt} : SSs X ct W sts sBad := PSs.imp pss_never fun D σV H ⟨m, ah, σ, hr, lr, p⟩ => p
theorem ss_never : SS X ct W st sBad := PS.imp ps_never fun D σV H ⟨m, ah, σ, hr, lr, p⟩ => p
theorem ss_pass : SS X ct W (.Pass pos) sNil := PS.imp ps_pass fun D σV H ⟨m, ah, σ, hr, lr, p⟩ => p.nx hr lr
theorem ss_break : SS X ct W (.Break pos) sBrk := PS.imp ps_break fun D σV H ⟨m, ah, σ, hr, lr, p⟩ => p m H σV hr (Ext.refl _ _ _) lr
theorem ss_continue : SS X ct W (.Continue pos) sCnt := PS.imp ps_continue fun D σV H ⟨m, ah, σ, hr, lr, p⟩ => p m H σV hr (Ext.refl _ _ _) lr
theorem ss_expr (he : SE X ct W e f) (hs : swapsWith e none pos.line X.env = pure false := by rfl) : SS X ct W (.Expr e pos) (sEx f) :=
  PS.imp (ps_expr he hs) fun D σV H ⟨m, ah, σ, hr, lr, p⟩ => ⟨m, ah, σ, hr, lr, (PoS.bind (R := VlR X.K ct) lr p).imp fun x H1 ⟨m1, h1, y, hr1, e1, r1, p1⟩ => PoS.nx hr1 (lr.ext e1) p1⟩
theorem ss_ret' (he : SE X ct W e f) : SS X ct W (.Return (some e) pos) (sRt f) :=
  PS.imp (ps_ret he) fun D σV H ⟨m, ah, σ, hr, lr, p⟩ => ⟨m, ah, σ, hr, lr, (PoS.bind (R := VlR X.K ct) lr p).imp fun x H1 ⟨m1, h1, y, hr1, e1, r1, p1⟩ => p1 m1 H1 σV hr1 (Ext.refl _ _ _) (lr.ext e1) x r1⟩
theorem ss_retN : SS X ct W (.Return none pos) sRtN := PS.imp ps_retN fun D σV H ⟨m, ah, σ, hr, lr, p⟩ => p m H σV hr (Ext.refl _ _ _) lr .non .non
theorem ss_if (hc : ST X ct W c t) (ha : SSs X ct W a u) (hb : SSs X ct W b v) : SS X ct W (.If c a b pos) (sIf t u v) :=
  PS.imp (ps_if hc ha hb) fun D σV H ⟨m, ah, σ, hr, lr, p⟩ => ⟨m, ah, σ, hr, lr, (PoS.bind (R := fun _ _ _ b c => b = c) lr p).imp fun x H1 ⟨m1, h1, y, hr1, e1, r1, p1⟩ => by
    subst r1
    dsimp only at p1
    cases y with
    | true => exact ⟨m1, h1, σ, hr1, lr.ext e1, p1⟩
    | false => exact ⟨m1, h1, σ, hr1, lr.ext e1, p1⟩⟩
end

/-! ### targets -/
abbrev SemG := Vl → Lo → Hs → Option (Lo × Hs)
abbrev SemGs := List D → Lo → Hs → Option (Lo × Hs)
def PoG (K : PySem.W.Frag) (ct : CT) (m : List Addr) (ah : Hs) (H : Hp) (o : Option (Lo × Hs)) (Q : L2.St → Hp → Prop) : Prop := match o with
  | some (σ', h) => ∀ m' H' σV', HR K ct m' h H' → Ext m ah H m' h H' → LR K ct m' h H' σ' σV' → Q σV' H'
  | none => False
def rdG (K : PySem.W.Frag) (ct : CT) (g : SemG) : TG := fun v σV H Q => ∃ m ah σ x, HR K ct m ah H ∧ LR K ct m ah H σ σV ∧ VlR K ct m ah H x v ∧ PoG K ct m ah H (g x σ ah) Q
def rdGs (K : PySem.W.Frag) (ct : CT) (g : SemGs) : TGs := fun vs σV H Q => ∃ m ah σ xs, HR K ct m ah H ∧ LR K ct m ah H σ σV ∧ DRs K ct (Sf m ah) H xs vs ∧ PoG K ct m ah H (g xs σ ah) Q
theorem PG.imp {X : Cx} {e : Expr} {t t' : TG} (h : PG X e t) (i : ∀ v σ H Q, t' v σ H Q → t v σ H Q) : PG X e t' := ⟨fun pins s σ H v u Q I r q => h.run pins s σ H v u Q I r (i _ _ _ _ q)⟩
theorem PGs.imp {X : Cx} {e : List Expr} {t t' : TGs} (h : PGs X e t) (i : ∀ v σ H Q, t' v σ H Q → t v σ H Q) : PGs X e t' := ⟨fun pins s σ H v u Q I r q => h.run pins s σ H v u Q I r (i _ _ _ _ q)⟩
abbrev SG (X : Cx) (ct : CT) (e : Expr) (g : SemG) : Prop := PG X e (rdG X.K ct g)
abbrev SGs (X : Cx) (ct : CT) (e : List Expr) (g : SemGs) : Prop := PGs X e (rdGs X.K ct g)
def gNm (i : Nat) : SemG := fun x σ h => some (σ.set i (some x), h)
def gNi : SemGs := fun xs σ h => match xs with
  | [] => some (σ, h)
  | _ => none
def gCo (g : SemG) (gs : SemGs) : SemGs := fun xs σ h => match xs with
  | x :: xs => (g (.d x) σ h).bind fun p => gs xs p.1 p.2
  | [] => none
def gTp (n : Nat) (gs : SemGs) : SemG := fun x σ h => match x with
  | .d (.tup xs) => if xs.length = n then gs xs σ h else none
  | _ => none
section
variable {X : Cx} {ct : CT} {W : WX} {pos : Pos} {e : Expr} {es : List Expr} {f : SemE} {g : SemG} {gs : SemGs}
theorem sg_name {i : Nat} {x : Str} (hN : X.N.Nodup) (hi : X.N[i]? = some x) (hx : Loc X.env.scope x) (hf : X.fn x = true ∨ X.env.scope.names.lookup x = some .local := by first | exact .inl rfl | exact .inr rfl | assumption) : SG X ct (.Name x pos) (gNm i) :=
  PG.imp (pg_name hN hi hx hf) fun v σV H Q ⟨m, ah, σ, x, hr, lr, r, p⟩ => p m H _ hr (Ext.refl _ _ _) (lr.set r i)
theorem sgs_nil : SGs X ct [] gNi := PGs.imp pgs_nil fun vs σV H Q ⟨m, ah, σ, xs, hr, lr, r, p⟩ => by
  unfold gNi at p
  split at p
  · cases r
    exact ⟨rfl, p m H _ hr (Ext.refl _ _ _) lr⟩
  · exact p.elim
theorem sgs_cons (h1 : SG X ct e g) (h2 : SGs X ct es gs) (hs : (assignEach (e :: es) X.env).map (·.2) = assign e X.env :: (assignEach es X.env).map (·.2) := by rfl) : SGs X ct (e :: es) (gCo g gs) :=
  PGs.imp (pgs_cons h1 h2 hs) fun vs σV H Q ⟨m, ah, σ, xs, hr, lr, r, p⟩ => by
    unfold gCo at p
    split at p
    · cases r with
      | cons r t =>
        refine ⟨_, _, rfl, m, ah, σ, .d _, hr, lr, r, ?_⟩
        cases q : g (.d _) σ ah with
        | none => rw [q] at p; exact p.elim
        | some z =>
          obtain ⟨σ', h'⟩ := z
          rw [q] at p
          refine fun m2 H2 σ2 h2 e2 l2 => ⟨m2, h', σ', _, h2, l2, t.mono e2.kp, ?_⟩
          dsimp only [Option.bind_some] at p
          revert p
          cases gs _ σ' h' with
          | none => exact fun p => p.elim
          | some z => exact fun p m3 H3 σ3 h3 e3 l3 => p m3 H3 σ3 h3 (e2.trans e3) l3
    · exact p.elim
theorem sg_tup {k n : Nat} (hc : X.calm = true) (h : SGs X ct es gs) (hn : (assignEach es X.env).length = n := by rfl) (hst : (assignEach es X.env).findIdx? (·.1) = none := by rfl) : SG X ct (.Tuple es k pos) (gTp n gs) :=
  PG.imp (pg_tup hc h hn hst) fun v σV H Q ⟨m, ah, σ, x, hr, lr, r, p⟩ => by
    unfold gTp at p
    split at p
    · obtain ⟨l, vs, rfl, h1, r1⟩ := tup_of r
      split at p
      · rename_i hl
        exact ⟨l, vs, rfl, h1, by rw [← r1.length]; exact hl, m, ah, σ, _, hr, lr, r1, p⟩
      · exact p.elim
    · exact p.elim
end
def sAs (f : SemE) (g : SemG) : SemS := fun σ h => sb (f σ h) σ fun x h1 => match g x σ h1 with
  | some (σ', h2) => .ok .nx σ' h2
  | none => .bad
section
variable {X : Cx} {ct : CT} {W : WX} {pos : Pos} {e tg : Expr} {es : List Expr} {f : SemE} {g : SemG} {gs : SemGs}
theorem rd_asg {D : Ends} {σV : L2.St} {H : Hp} (h : rdS X.K ct W (sAs f g) D σV H) : tAsg (rdE X.K ct W f) (rdG X.K ct g) D σV H := by
  obtain ⟨m, ah, σ, hr, lr, p⟩ := h
  refine ⟨m, ah, σ, hr, lr, (PoS.bind (R := VlR X.K ct) lr p).imp fun x H1 ⟨m1, h1, y, hr1, e1, r1, p1⟩ => ⟨m1, h1, σ, y, hr1, lr.ext e1, r1, ?_⟩⟩
  dsimp only at p1
  cases q : g y σ h1 with
  | none => rw [q] at p1; exact p1.elim
  | some z => rw [q] at p1; exact p1
theorem ss_asg (he : SE X ct W e f) (hg : SG X ct tg g) (hs : swapsWithSole [tg] e pos.line X.env = pure false := by rfl) (hw : swappedStores [tg] e X.env = pure none := by rfl)
    (h1 : (assignEach [tg] X.env).map (·.2) = [assign tg X.env] := by rfl) : SS X ct W (.Assign [tg] e pos) (sAs f g) := PS.imp (ps_asg he hg hs hw h1) fun _ _ _ h => rd_asg h
theorem ss_set {i : Nat} {x : Str} {pos' : Pos} (hN : X.N.Nodup) (hi : X.N[i]? = some x) (hx : Loc X.env.scope x) (he : SE X ct W e f) (hs : swapsWith e (some (.Name x pos')) pos.line X.env = pure false := by rfl) (hf : X.fn x = true ∨ X.env.scope.names.lookup x = some .local := by first | exact .inl rfl | exact .inr rfl | assumption) :
    SS X ct W (.Assign [.Name x pos'] e pos) (sAs f (gNm i)) := PS.imp (ps_set hN hi hx he hs hf) fun D σV H h => by
  obtain ⟨m, ah, σ, hr, lr, p⟩ := h
  exact ⟨m, ah, σ, hr, lr, (PoS.bind (R := VlR X.K ct) lr p).imp fun x H1 ⟨m1, h1, y, hr1, e1, r1, p1⟩ => p1 m1 H1 _ hr1 (Ext.refl _ _ _) ((lr.ext e1).set r1 i)⟩
end

/-! ### x op= e at a name -/
def rIp (K : PySem.W.Frag) (ct : CT) (op : Op2) : TIp := rOp K ct op
def sAu (i : Nat) (op : Op2) (f : SemE) : SemS := fun σ h => match σ[i]? with
  | some (some x) => sb (f σ h) σ fun y h1 => match op x y h1 with
    | some (z, h2) => .ok .nx (σ.set i (some z)) h2
    | none => .bad
  | _ => .bad
section
variable {X : Cx} {ct : CT} {W : WX} {pos pos' : Pos} {e : Expr} {f : SemE}
theorem ss_aug {i : Nat} {x : Str} {op : Operator} {o : Op2} (hN : X.N.Nodup) (hi : X.N[i]? = some x) (hx : Loc X.env.scope x) (he : SE X ct W e f) (ho : OpR X (inplaceOp op) (rOp X.K ct o))
    (hf : X.fn x = true ∨ X.env.scope.names.lookup x = some .local := by first | exact .inl rfl | exact .inr rfl | assumption) : SS X ct W (.AugAssign (.Name x pos') op e pos) (sAu i o f) :=
  PS.imp (ps_aug (ti := rOp X.K ct o) hN hi hx he ho hf) fun D σV H h => by
    obtain ⟨m, ah, σ, hr, lr, p⟩ := h
    unfold sAu at p
    cases q : σ[i]? with
    | none => rw [q] at p; exact p.elim
    | some z =>
      cases z with
      | none => rw [q] at p; exact p.elim
      | some z =>
        rw [q] at p
        obtain ⟨v, hv, rv⟩ := lr.at_ i z q
        refine ⟨v, hv, m, ah, σ, hr, lr, (PoS.bind (R := VlR X.K ct) lr p).imp fun y H1 ⟨m1, h1, y', hr1, e1, r1, p1⟩ => ⟨m1, h1, z, y', hr1, rv.ext e1, r1, ?_⟩⟩
        dsimp only at p1
        revert p1
        cases o z y' h1 with
        | none => exact fun p => p.elim
        | some w => exact fun p m2 H2 u h2 e2 r2 => p m2 H2 _ h2 e2 (((lr.ext e1).ext e2).set r2 i)
def oIAdd : Op2 := fun x y h => match x, y with
  | .d (.int i), .d (.int j) => some (.d (.int (i + j)), h)
  | .d (.str a), .d (.str b) => if a.length + b.length ≤ sizeLine then some (.d (.str (a ++ b)), h) else none
  | _, _ => none
theorem iadd_sound : OpR X (inplaceOp .Add) (rOp X.K ct oIAdd) := by
  refine OpR.imp (iop_add.or iop_add_str) fun x y H Q ⟨m, ah, a, b, hr, ra, rb, p⟩ => ?_
  unfold oIAdd at p
  split at p
  · cases ra; cases rb
    exact .inl ⟨_, _, rfl, rfl, p.same hr (.int _)⟩
  · cases ra; cases rb
    split at p
    · rename_i hc
      exact .inr ⟨_, _, rfl, rfl, hc, p.same hr (.str _)⟩
    · exact p.elim
  · exact p.elim
theorem isub_sound : OpR X (inplaceOp .Sub) (rOp X.K ct oSub) := OpR.imp iop_sub fun x y H Q ⟨m, ah, a, b, hr, ra, rb, p⟩ => by
  unfold oSub oI at p
  split at p
  · cases ra; cases rb
    exact ⟨_, _, rfl, rfl, p.same hr (.int _)⟩
  · exact p.elim
end

/-! ### what a for walks -/
abbrev SemI := Lo → Hs → Res (List D)
/-- the iterator hands out the data ds -/
def Wks (K : PySem.W.Frag) (ct : CT) (ds : List D) (m : List Addr) (ah : Hs) (H : Hp) (J : It) : Prop := ∀ m2 h2 H2, HR K ct m2 h2 H2 → Kp (Sf m ah) H (Sf m2 h2) H2 →
  (∀ i, ds.length ≤ i → J.stop i H2) ∧ ∀ (i : Nat) d, ds[i]? = some d → J.go i H2 ∧ ∀ x H3, J.yld i H2 x H3 → HR K ct m2 h2 H3 ∧ Ext m2 h2 H2 m2 h2 H3 ∧ DR K ct (Sf m2 h2) H3 d x
def rdI (K : PySem.W.Frag) (ct : CT) (W : WX) (f : SemI) : TI := fun σV H R => ∃ m ah σ, HR K ct m ah H ∧ LR K ct m ah H σ σV ∧ Po K ct W σV (fun m1 h1 H1 ds J => Wks K ct ds m1 h1 H1 J) m ah H (f σ ah) R
theorem PI.imp {X : Cx} {tg e : Expr} {t t' : TI} (h : PI X tg e t) (i : ∀ σ H Q, t' σ H Q → t σ H Q) : PI X tg e t' := ⟨fun pins s σ H R I q => h.run pins s σ H R I (i _ _ _ q)⟩
abbrev SI (X : Cx) (ct : CT) (W : WX) (tg e : Expr) (f : SemI) : Prop := PI X tg e (rdI X.K ct W f)
theorem Wks.ext {K : PySem.W.Frag} {ct : CT} {ds : List D} {m m' : List Addr} {ah ah' : Hs} {H H' : Hp} {J : It} (w : Wks K ct ds m ah H J) (e : Ext m ah H m' ah' H') : Wks K ct ds m' ah' H' J := fun m2 h2 H2 hr e2 => w m2 h2 H2 hr (e.kp.trans e2)
/-- the data of a list or tuple that is never changed -/
def pureSeq (x : Vl) : Option (List D) := match x with
  | .d (.tup xs) => some xs
  | .d (.lv xs) => some xs
  | _ => none
def pureLst (x : Vl) : Option (List D) := match x with
  | .d (.lv xs) => some xs
  | _ => none
def pureTup (x : Vl) : Option (List D) := match x with
  | .d (.tup xs) => some xs
  | _ => none
def iOf (p : Vl → Option (List D)) (f : SemE) : SemI := fun σ h => rb (f σ h) fun x h1 => match p x with
  | some xs => .ok xs h1
  | none => .bad
abbrev iLs (f : SemE) : SemI := iOf pureLst f
abbrev iTu (f : SemE) : SemI := iOf pureTup f
def rngD (lo : Int) (n : Nat) : List D := (List.range n).map fun (i : Nat) => D.int (lo + i)
def iR1 (f : SemE) : SemI := fun σ h => rb (f σ h) fun x h1 => match x with
  | .d (.int j) => if j < 2 ^ 62 ∧ -(2 ^ 62) ≤ j then .ok (rngD 0 j.toNat) h1 else .bad
  | _ => .bad
def iR2 (f g : SemE) : SemI := fun σ h => rb (f σ h) fun x h1 => rb (g σ h1) fun y h2 => match x, y with
  | .d (.int i), .d (.int j) => if (-(2 ^ 62) ≤ i ∧ i < 2 ^ 62) ∧ -(2 ^ 62) ≤ j ∧ j < 2 ^ 62 then .ok (rngD i (j - i).toNat) h2 else .bad
  | _, _ => .bad
theorem rngD_get (lo : Int) (n i : Nat) : (rngD lo n)[i]? = if i < n then some (D.int (lo + i)) else none := by
  unfold rngD
  rw [List.getElem?_map]
  by_cases h : i < n
  · rw [List.getElem?_range h, if_pos h]; rfl
  · rw [List.getElem?_eq_none (by simpa using h), if_neg h]; rfl
theorem rngD_len (lo : Int) (n : Nat) : (rngD lo n).length = n := by simp [rngD]
section
variable {K : PySem.W.Frag} {ct : CT} {m : List Addr} {ah : Hs} {H : Hp}
theorem wks_rng (lo : Int) (n : Nat) : Wks K ct (rngD lo n) m ah H (Itr lo n) := fun m2 h2 H2 hr ex => by
  refine ⟨fun i hi => by rw [rngD_len] at hi; exact hi, fun i d hd => ?_⟩
  rw [rngD_get] at hd
  split at hd
  · rename_i hi
    cases hd
    refine ⟨hi, fun x H3 hy => ?_⟩
    obtain ⟨rfl, rfl⟩ := hy
    exact ⟨hr, Ext.refl _ _ _, .int _⟩
  · cases hd
end
theorem pureLst_of {K : PySem.W.Frag} {ct : CT} {m : List Addr} {ah : Hs} {H : Hp} {x : Vl} {ds : List D} {v : V} (e : pureLst x = some ds) (r : VlR K ct m ah H x v) : ∃ a vs, v = .ref a ∧ (H a = some (.lst vs) ∨ ∃ o, H a = some (.frz o (.lst vs))) ∧ Sf m ah a ∧ DRs K ct (Sf m ah) H ds vs := by
  unfold pureLst at e
  split at e
  · cases e
    cases r with
    | lv h s t => exact ⟨_, _, rfl, .inl h, s, t⟩
  · cases e
end Mi

/-! Mi5: what a for walks; loops -/
namespace Mi
open PySem PySem.Spec L2

section
variable {K : PySem.W.Frag} {ct : CT} {m : List Addr} {ah : Hs} {H : Hp}
theorem sqL_uniq {a : Addr} {xs ys : List V} (h : H a = some (.lst xs) ∨ ∃ o, H a = some (.frz o (.lst xs))) : SqL K H a xs := h.elim (fun h => .of h) fun ⟨o, h⟩ => .inl (.inr ⟨o, h⟩)
/-- a yield that is told of every list that may be read there -/
theorem wks_list {a : Addr} {ds : List D} {vs : List V} (h : H a = some (.lst vs) ∨ ∃ o, H a = some (.frz o (.lst vs))) (s : Sf m ah a) (r : DRs K ct (Sf m ah) H ds vs) : Wks K ct ds m ah H (Itl K a) := fun m2 h2 H2 hr ex => by
  have h' : SqL K H2 a vs := sqL_uniq (ys := vs) (h.imp (fun h => (ex _ _ h s).1) fun ⟨o, h⟩ => ⟨o, (ex _ _ h s).1⟩)
  have r' := r.mono ex
  refine ⟨fun i hi => ⟨vs, h', by rw [← r.length]; exact hi⟩, fun i d hd => ?_⟩
  obtain ⟨y, hy, ry⟩ := r'.get hd
  refine ⟨⟨vs, y, h', hy⟩, fun x H3 hx => ?_⟩
  obtain ⟨rfl, hx⟩ := hx
  have e := hx vs h'
  rw [hy] at e
  cases e
  exact ⟨hr, Ext.refl _ _ _, ry⟩
theorem sqT_ext {S S' : Addr → Prop} {H' : Hp} {a : Addr} {vs : List V} (k : Kp S H S' H') (h : H a = some (.tup vs) ∧ S a) : H' a = some (.tup vs) ∧ S' a := k _ _ h.1 h.2
theorem sqT_of {S : Addr → Prop} {a : Addr} {vs : List V} (h : H a = some (.tup vs) ∧ S a) : SqT K H a vs := .inl (.inl h.1)
theorem wks_tup {a : Addr} {ds : List D} {vs : List V} (h : H a = some (.tup vs) ∧ Sf m ah a) (r : DRs K ct (Sf m ah) H ds vs) : Wks K ct ds m ah H (Itt K a) := fun m2 h2 H2 hr ex => by
  have h' : SqT K H2 a vs := sqT_of (sqT_ext ex h)
  have r' := r.mono ex
  refine ⟨fun i hi => ⟨vs, h', by rw [← r.length]; exact hi⟩, fun i d hd => ?_⟩
  obtain ⟨y, hy, ry⟩ := r'.get hd
  refine ⟨⟨vs, y, h', hy⟩, fun x H3 hx => ?_⟩
  obtain ⟨rfl, hx⟩ := hx
  have e := hx vs h'
  rw [hy] at e
  cases e
  exact ⟨hr, Ext.refl _ _ _, ry⟩
def enumD (ds : List D) : List D := (List.range ds.length).map fun (i : Nat) => D.tup [.int (i : Nat), ds.getD i .non]
theorem enumD_get (ds : List D) (i : Nat) : (enumD ds)[i]? = (ds[i]?).map fun d => D.tup [.int (i : Nat), d] := by
  unfold enumD
  rw [List.getElem?_map]
  by_cases h : i < ds.length
  · rw [List.getElem?_range h, List.getElem?_eq_getElem h]
    simp [List.getD, List.getElem?_eq_getElem h]
  · rw [List.getElem?_eq_none (by simpa using h), List.getElem?_eq_none (by omega)]; rfl
theorem enumD_len (ds : List D) : (enumD ds).length = ds.length := by simp [enumD]
/-- a new pair -/
theorem pair_new {m2 : List Addr} {h2 : Hs} {H2 : Hp} (hr : HR K ct m2 h2 H2) {T : Addr} (hT : H2 T = none) {x y : V} {d e : D} (rx : DR K ct (Sf m2 h2) H2 d x) (ry : DR K ct (Sf m2 h2) H2 e y) :
    HR K ct m2 h2 (upd H2 T (.tup [x, y])) ∧ Ext m2 h2 H2 m2 h2 (upd H2 T (.tup [x, y])) ∧ DR K ct (Sf m2 h2) (upd H2 T (.tup [x, y])) (.tup [d, e]) (.ref T) :=
  ⟨(hr.pure (o := .tup [x, y]) hT).1, (hr.pure (o := .tup [x, y]) hT).2.1, new_tup (.cons rx (.cons ry .nil)) (hr.pure (o := .tup [x, y]) hT).2.1.kp (hr.freshS hT)⟩
theorem wks_enum {a : Addr} {ds : List D} {vs : List V} (h : H a = some (.lst vs) ∨ ∃ o, H a = some (.frz o (.lst vs))) (s : Sf m ah a) (r : DRs K ct (Sf m ah) H ds vs) : Wks K ct (enumD ds) m ah H (Ite K a) := fun m2 h2 H2 hr ex => by
  have h' : SqL K H2 a vs := sqL_uniq (ys := vs) (h.imp (fun h => (ex _ _ h s).1) fun ⟨o, h⟩ => ⟨o, (ex _ _ h s).1⟩)
  have r' := r.mono ex
  refine ⟨fun i hi => ⟨vs, h', by rw [← r.length]; rw [enumD_len] at hi; exact hi⟩, fun i d hd => ?_⟩
  rw [enumD_get] at hd
  cases q : ds[i]? with
  | none => rw [q] at hd; cases hd
  | some d0 =>
    rw [q] at hd; cases hd
    obtain ⟨y, hy, ry⟩ := r'.get q
    refine ⟨⟨vs, y, h', hy⟩, fun x H3 hx => ?_⟩
    obtain ⟨T, x1, rfl, hT, rfl, hx⟩ := hx
    have e := hx vs h'
    rw [hy] at e
    cases e
    exact pair_new hr hT (.int _) ry
def zipD (xs ys : List D) : List D := List.zipWith (fun x y => D.tup [x, y]) xs ys
theorem zipD_get {xs ys : List D} {i : Nat} {d : D} (h : (zipD xs ys)[i]? = some d) : ∃ x y, xs[i]? = some x ∧ ys[i]? = some y ∧ d = .tup [x, y] := by
  unfold zipD at h
  rw [List.getElem?_zipWith] at h
  split at h
  · rename_i x y hx hy
    cases h
    exact ⟨x, y, hx, hy, rfl⟩
  · cases h
theorem zipD_len (xs ys : List D) : (zipD xs ys).length = min xs.length ys.length := by simp [zipD]
theorem wks_zip {a b : Addr} {ds es : List D} {vs ws : List V} (h : H a = some (.lst vs) ∨ ∃ o, H a = some (.frz o (.lst vs))) (s : Sf m ah a) (r : DRs K ct (Sf m ah) H ds vs)
    (g : H b = some (.lst ws) ∨ ∃ o, H b = some (.frz o (.lst ws))) (s2 : Sf m ah b) (r2 : DRs K ct (Sf m ah) H es ws) : Wks K ct (zipD ds es) m ah H (Itz K a b) := fun m2 h2 H2 hr ex => by
  have h' : SqL K H2 a vs := sqL_uniq (ys := vs) (h.imp (fun h => (ex _ _ h s).1) fun ⟨o, h⟩ => ⟨o, (ex _ _ h s).1⟩)
  have g' : SqL K H2 b ws := sqL_uniq (ys := ws) (g.imp (fun h => (ex _ _ h s2).1) fun ⟨o, h⟩ => ⟨o, (ex _ _ h s2).1⟩)
  have r' := r.mono ex
  have r2' := r2.mono ex
  refine ⟨fun i hi => ⟨vs, ws, h', g', by rw [zipD_len, r.length, r2.length] at hi; omega⟩, fun i d hd => ?_⟩
  obtain ⟨x0, y0, h1, h2', rfl⟩ := zipD_get hd
  obtain ⟨x, hx, rx⟩ := r'.get h1
  obtain ⟨y, hy, ry⟩ := r2'.get h2'
  refine ⟨⟨vs, ws, x, y, h', g', hx, hy⟩, fun z H3 hz => ?_⟩
  obtain ⟨T, x1, y1, rfl, hT, rfl, f1, f2⟩ := hz
  have e1 := f1 vs h'
  have e2 := f2 ws g'
  rw [hx] at e1
  rw [hy] at e2
  cases e1; cases e2
  exact pair_new hr hT rx ry
theorem wks_zipT {a b : Addr} {ds es : List D} {vs ws : List V} (h : H a = some (.tup vs) ∧ Sf m ah a) (r : DRs K ct (Sf m ah) H ds vs)
    (g : H b = some (.tup ws) ∧ Sf m ah b) (r2 : DRs K ct (Sf m ah) H es ws) : Wks K ct (zipD ds es) m ah H (RZ.ItzT K a b) := fun m2 h2 H2 hr ex => by
  have h' : SqT K H2 a vs := sqT_of (sqT_ext ex h)
  have g' : SqT K H2 b ws := sqT_of (sqT_ext ex g)
  have r' := r.mono ex
  have r2' := r2.mono ex
  refine ⟨fun i hi => ⟨vs, ws, h', g', by rw [zipD_len, r.length, r2.length] at hi; omega⟩, fun i d hd => ?_⟩
  obtain ⟨x0, y0, h1, h2', rfl⟩ := zipD_get hd
  obtain ⟨x, hx, rx⟩ := r'.get h1
  obtain ⟨y, hy, ry⟩ := r2'.get h2'
  refine ⟨⟨vs, ws, x, y, h', g', hx, hy⟩, fun z H3 hz => ?_⟩
  obtain ⟨T, x1, y1, rfl, hT, rfl, f1, f2⟩ := hz
  have e1 := f1 vs h'
  have e2 := f2 ws g'
  rw [hx] at e1
  rw [hy] at e2
  cases e1; cases e2
  exact pair_new hr hT rx ry
end
def strD (x : Str) : List D := x.cps.toList.map fun c => D.str ⟨#[c]⟩
theorem wks_str {K : PySem.W.Frag} {ct : CT} {m : List Addr} {ah : Hs} {H : Hp} (x : Str) : Wks K ct (strD x) m ah H (Its x) := fun m2 h2 H2 hr ex => by
  refine ⟨fun i hi => by unfold strD at hi; rw [List.length_map, Array.length_toList] at hi; exact hi, fun i d hd => ?_⟩
  unfold strD at hd
  rw [List.getElem?_map, Array.getElem?_toList] at hd
  cases q : x.cps[i]? with
  | none => rw [q] at hd; cases hd
  | some c =>
    rw [q] at hd; cases hd
    refine ⟨(Array.getElem?_eq_some_iff.mp q).1, fun v H3 hv => ?_⟩
    obtain ⟨rfl, c', hc, rfl⟩ := hv
    rw [q] at hc; cases hc
    exact ⟨hr, Ext.refl _ _ _, .str _⟩
def iEn (f : SemA) : SemI := fun σ h => rb (f σ h) fun xs h1 => match xs with
  | [x] => (match pureLst x with
    | some ds => .ok (enumD ds) h1
    | none => .bad)
  | _ => .bad
def iZp (f : SemA) : SemI := fun σ h => rb (f σ h) fun xs h1 => match xs with
  | [x, y] => (match pureLst x, pureLst y with
    | some ds, some es => .ok (zipD ds es) h1
    | _, _ => (match pureTup x, pureTup y with
      | some ds, some es => .ok (zipD ds es) h1
      | _, _ => .bad))
  | _ => .bad
def iSt (f : SemE) : SemI := fun σ h => rb (f σ h) fun x h1 => match x with
  | .d (.str z) => .ok (strD z) h1
  | _ => .bad
/-- a small number, told without reckoning on its sign -/
def smI (j : Int) : Bool := Nat.ble j.natAbs 1000000000
theorem smI_ok {j : Int} (h : smI j = true) : j < 2 ^ 62 ∧ -(2 ^ 62) ≤ j := by
  have := Nat.le_of_ble_eq_true h
  omega
def iA1 (f : SemA) : SemI := fun σ h => rb (f σ h) fun xs h1 => match xs with
  | [.d (.int j)] => if smI j = true then .ok (rngD 0 j.toNat) h1 else .bad
  | _ => .bad
def iA2 (f : SemA) : SemI := fun σ h => rb (f σ h) fun xs h1 => match xs with
  | [.d (.int i), .d (.int j)] => if smI i = true ∧ smI j = true then .ok (rngD i (j - i).toNat) h1 else .bad
  | _ => .bad
section
variable {X : Cx} {ct : CT} {W : WX} {tg e e2 : Expr} {f : SemE} {fs : SemA} {p pos tpos : Pos} {elts : List Expr} {kk : Nat}
theorem si_list (he : SE X ct W e f) : SI X ct W tg e (iLs f) :=
  PI.imp (pi_list he) fun σV H R ⟨m, ah, σ, hr, lr, p⟩ => ⟨m, ah, σ, hr, lr, (Po.bind (R := VlR X.K ct) p).imp fun v H1 ⟨m1, h1, x, hr1, e1, r1, p1⟩ => by
    dsimp only at p1
    split at p1
    · rename_i ds q
      obtain ⟨a, vs, rfl, h, s, r⟩ := pureLst_of q r1
      exact ⟨a, rfl, ⟨vs, sqL_uniq (ys := vs) h⟩, p1 m1 H1 _ hr1 (Ext.refl _ _ _) (wks_list h s r)⟩
    · exact p1.elim⟩
theorem si_tup (he : SE X ct W e f) : SI X ct W tg e (iTu f) :=
  PI.imp (pi_tup he) fun σV H R ⟨m, ah, σ, hr, lr, p⟩ => ⟨m, ah, σ, hr, lr, (Po.bind (R := VlR X.K ct) p).imp fun v H1 ⟨m1, h1, x, hr1, e1, r1, p1⟩ => by
    dsimp only at p1
    split at p1
    · rename_i ds q
      unfold pureTup at q
      split at q
      · cases q
        cases r1 with
        | tup h r => exact ⟨_, rfl, ⟨_, sqT_of h⟩, p1 m1 H1 _ hr1 (Ext.refl _ _ _) (wks_tup h r)⟩
      · cases q
    · exact p1.elim⟩
theorem si_rng1 (hg : Gl X "range") (hm : X.mg "range" = none) (ha : SA X ct W [e] fs) (hs : starEach [e] X.env = [(false, eval e X.env)] := by rfl) : SI X ct W tg (.Call (.Name "range" p) [e] [] pos) (iA1 fs) :=
  PI.imp (pi_range1 hg hm ha hs) fun σV H R ⟨m, ah, σ, hr, lr, p⟩ => ⟨m, ah, σ, hr, lr, (Po.bind (R := VlRs X.K ct) p).imp fun vs H1 ⟨m1, h1, x, hr1, e1, r1, p1⟩ => by
    dsimp only at p1
    split at p1
    · rename_i j
      cases r1 with
      | cons r t =>
        cases t; cases r
        split at p1
        · rename_i hj
          exact ⟨j, rfl, (smI_ok hj).2, (smI_ok hj).1, p1 m1 H1 _ hr1 (Ext.refl _ _ _) (wks_rng 0 _)⟩
        · exact p1.elim
    · exact p1.elim⟩
theorem si_rng2 (hg : Gl X "range") (hm : X.mg "range" = none) (ha : SA X ct W [e, e2] fs) (hs : starEach [e, e2] X.env = [(false, eval e X.env), (false, eval e2 X.env)] := by rfl) (hs2 : starEach [e2] X.env = [(false, eval e2 X.env)] := by rfl) :
    SI X ct W tg (.Call (.Name "range" p) [e, e2] [] pos) (iA2 fs) :=
  PI.imp (pi_range2 hg hm ha hs hs2) fun σV H R ⟨m, ah, σ, hr, lr, p⟩ => ⟨m, ah, σ, hr, lr, (Po.bind (R := VlRs X.K ct) p).imp fun vs H1 ⟨m1, h1, x, hr1, e1, r1, p1⟩ => by
    dsimp only at p1
    split at p1
    · rename_i i j
      cases r1 with
      | cons r t =>
        cases t with
        | cons r2 t =>
          cases t; cases r; cases r2
          split at p1
          · rename_i hj
            exact ⟨i, j, rfl, ⟨(smI_ok hj.1).2, (smI_ok hj.1).1, (smI_ok hj.2).2, (smI_ok hj.2).1⟩, p1 m1 H1 _ hr1 (Ext.refl _ _ _) (wks_rng i _)⟩
          · exact p1.elim
    · exact p1.elim⟩
theorem si_enum (hg : Gl X "enumerate") (hm : X.mg "enumerate" = none) (ha : SA X ct W [e] fs) (hs : starEach [e] X.env = [(false, eval e X.env)] := by rfl) : SI X ct W (.Tuple elts kk tpos) (.Call (.Name "enumerate" p) [e] [] pos) (iEn fs) :=
  PI.imp (pi_enum hg hm ha hs) fun σV H R ⟨m, ah, σ, hr, lr, p⟩ => ⟨m, ah, σ, hr, lr, (Po.bind (R := VlRs X.K ct) p).imp fun vs H1 ⟨m1, h1, x, hr1, e1, r1, p1⟩ => by
    dsimp only at p1
    split at p1
    · cases r1 with
      | cons r t =>
        cases t
        split at p1
        · rename_i ds q
          obtain ⟨a, vs, rfl, h, s, r⟩ := pureLst_of q r
          exact ⟨a, vs, rfl, sqL_uniq (ys := vs) h, p1 m1 H1 _ hr1 (Ext.refl _ _ _) (wks_enum h s r)⟩
        · exact p1.elim
    · exact p1.elim⟩
theorem si_zip (hg : Gl X "zip") (hm : X.mg "zip" = none) (ha : SA X ct W [e, e2] fs)
    (hs : starEach [e, e2] X.env = (false, eval e X.env) :: starEach [e2] X.env := by rfl) (hpl : (backTo pos (starEach [e2] X.env)).any (·.1) = false := by rfl) :
    SI X ct W (.Tuple elts kk tpos) (.Call (.Name "zip" p) [e, e2] [] pos) (iZp fs) :=
  PI.imp (RZ.pi_zipA hg hm ha hs hpl) fun σV H R ⟨m, ah, σ, hr, lr, p⟩ => ⟨m, ah, σ, hr, lr, (Po.bind (R := VlRs X.K ct) p).imp fun vs H1 ⟨m1, h1, x, hr1, e1, r1, p1⟩ => by
    dsimp only at p1
    split at p1
    · cases r1 with
      | cons r t =>
        cases t with
        | cons r2 t =>
          cases t
          split at p1
          · rename_i ds es q1 q2
            obtain ⟨a, vs, rfl, h, s, r⟩ := pureLst_of q1 r
            obtain ⟨b, ws, rfl, h2, s2, r2⟩ := pureLst_of q2 r2
            exact ⟨a, b, vs, ws, rfl, .inl ⟨sqL_uniq (ys := vs) h, sqL_uniq (ys := ws) h2, p1 m1 H1 _ hr1 (Ext.refl _ _ _) (wks_zip h s r h2 s2 r2)⟩⟩
          · split at p1
            · rename_i ds es q1 q2
              unfold pureTup at q1 q2
              split at q1
              · cases q1
                split at q2
                · cases q2
                  cases r with
                  | tup h r =>
                    cases r2 with
                    | tup h2 r2 => exact ⟨_, _, _, _, rfl, .inr ⟨sqT_of h, sqT_of h2, p1 m1 H1 _ hr1 (Ext.refl _ _ _) (wks_zipT h r h2 r2)⟩⟩
                · cases q2
              · cases q1
            · exact p1.elim
    · exact p1.elim⟩
theorem si_str (he : SE X ct W e f) : SI X ct W tg e (iSt f) :=
  PI.imp (pi_str he) fun σV H R ⟨m, ah, σ, hr, lr, p⟩ => ⟨m, ah, σ, hr, lr, (Po.bind (R := VlR X.K ct) p).imp fun v H1 ⟨m1, h1, x, hr1, e1, r1, p1⟩ => by
    dsimp only at p1
    split at p1
    · cases r1
      exact ⟨_, rfl, p1 m1 H1 _ hr1 (Ext.refl _ _ _) (wks_str _)⟩
    · exact p1.elim⟩
end

/-! ### for -/
/-- forget the objects from the n-th on -/
def clr (n : Nat) (σ : Lo) : Lo := σ.map fun o => match o with
  | some (.r k) => if k < n then some (.r k) else none
  | o => o
def forL (g : SemG) (body : SemS) : List D → Lo → Hs → RS
  | [], σ, h => .ok .nx σ h
  | d :: ds, σ, h => match g (.d d) σ h with
    | none => .bad
    | some (σ1, h1) => match body σ1 h1 with
      | .ok .nx σ2 h2 => forL g body ds (clr h.length σ2) (h2.take h.length)
      | .ok .cnt σ2 h2 => forL g body ds (clr h.length σ2) (h2.take h.length)
      | .ok .brk σ2 h2 => .ok .nx (clr h.length σ2) (h2.take h.length)
      | .ok (.ret v) σ2 h2 => .ok (.ret v) σ2 h2
      | .exc e σ2 h2 => .exc e σ2 h2
      | .bad => .bad
def sFor (it : SemI) (g : SemG) (body : SemS) : SemS := fun σ h => sb (it σ h) σ fun ds h1 => forL g body ds σ h1
/-- .. where new objects outlive a turn -/
def forN (g : SemG) (body : SemS) : List D → Lo → Hs → RS
  | [], σ, h => .ok .nx σ h
  | d :: ds, σ, h => match g (.d d) σ h with
    | none => .bad
    | some (σ1, h1) => match body σ1 h1 with
      | .ok .nx σ2 h2 => forN g body ds σ2 h2
      | .ok .cnt σ2 h2 => forN g body ds σ2 h2
      | .ok .brk σ2 h2 => .ok .nx σ2 h2
      | .ok (.ret v) σ2 h2 => .ok (.ret v) σ2 h2
      | .exc e σ2 h2 => .exc e σ2 h2
      | .bad => .bad
def sForN (it : SemI) (g : SemG) (body : SemS) : SemS := fun σ h => sb (it σ h) σ fun ds h1 => forN g body ds σ h1
section
variable {K : PySem.W.Frag} {ct : CT} {W : WX} {m m' : List Addr} {ah ah' : Hs} {H H' : Hp}
theorem LR.clr {σ : Lo} {σV : L2.St} (hr : HR K ct m' ah' H') (e : Ext m ah H m' ah' H') (hl : m.length = ah.length) (lr : LR K ct m' ah' H' σ σV) : LR K ct m (ah'.take ah.length) H' (clr ah.length σ) σV := by
  refine ⟨by unfold Mi.clr; rw [List.length_map]; exact lr.len, fun i x hx => ?_⟩
  unfold Mi.clr at hx
  rw [List.getElem?_map] at hx
  have kp := (hr.trim m.length).2
  have em : m'.take m.length = m := by
    obtain ⟨t, rfl⟩ := e.pre
    rw [List.take_left' rfl]
  rw [em, hl] at kp
  cases q : σ[i]? with
  | none => rw [q] at hx; cases hx
  | some o =>
    rw [q] at hx
    cases o with
    | none => simp at hx
    | some y =>
      obtain ⟨v, hv, rv⟩ := lr.at_ i y q
      cases y with
      | d y =>
        simp only [Option.map_some, Option.some.injEq] at hx
        subst hx
        exact ⟨v, hv, DR.mono kp rv⟩
      | r k =>
        simp only [Option.map_some, Option.some.injEq] at hx
        split at hx
        · rename_i hk
          cases hx
          obtain ⟨a, ha, rfl⟩ := rv
          refine ⟨_, hv, a, ?_, rfl⟩
          obtain ⟨t, rfl⟩ := e.pre
          rw [List.getElem?_append_left (by rw [hl]; exact hk)] at ha
          exact ha
        · cases hx
theorem HR.trim' (hr : HR K ct m ah H) (h' : HR K ct m' ah' H') (e : Ext m ah H m' ah' H') : HR K ct m (ah'.take ah.length) H' ∧ Ext m ah H m (ah'.take ah.length) H' := by
  rw [← hr.len]
  exact ⟨HR.trimmed h' e, Ext.trimmed h' e⟩
end
section
variable {X : Cx} {ct : CT} {W : WX} {pos : Pos} {tg iter : Expr} {body : List Stmt} {it : SemI} {g : SemG} {u : SemS}
theorem rd_for {D : Ends} {σV : L2.St} {H : Hp} (h : rdS X.K ct W (sFor it g u) D σV H) : tFor (rdI X.K ct W it) (rdG X.K ct g) (rdS X.K ct W u) D σV H := by
  obtain ⟨m, ah, σ, hr, lr, p⟩ := h
  refine ⟨m, ah, σ, hr, lr, (PoS.bind (R := fun m1 h1 H1 ds J => Wks X.K ct ds m1 h1 H1 J) lr p).imp fun J H1 ⟨m1, h1, ds, hr1, e1, w1, p1⟩ => ?_⟩
  dsimp only at p1 w1
  refine ⟨fun i n σV H => n = ds.length - i ∧ i ≤ ds.length ∧ ∃ m2 h2 σ2, HR X.K ct m2 h2 H ∧ LR X.K ct m2 h2 H σ2 σV ∧ Ext m1 h1 H1 m2 h2 H ∧ PoS X.K ct W D m2 h2 H (forL g u (ds.drop i) σ2 h2),
    ⟨ds.length, by simp, Nat.zero_le _, m1, h1, σ, hr1, lr.ext e1, Ext.refl _ _ _, by rw [List.drop_zero]; exact p1⟩, ?_⟩
  rintro i n σV2 H2 ⟨rfl, hi, m2, h2, σ2, hr2, l2, e2, p2⟩
  obtain ⟨ws, wg⟩ := w1 m2 h2 H2 hr2 e2.kp
  by_cases hlt : i < ds.length
  · rw [List.drop_eq_getElem_cons hlt] at p2
    obtain ⟨go, wy⟩ := wg i _ (List.getElem?_eq_getElem hlt)
    refine .inr ⟨go, fun σV3 H3 => ∃ m3 h3 σ3, HR X.K ct m3 h3 H3 ∧ LR X.K ct m3 h3 H3 σ3 σV3 ∧ Ext m1 h1 H1 m3 h3 H3 ∧ PoS X.K ct W D m3 h3 H3 (forL g u (ds.drop (i + 1)) σ3 h3),
      fun σV3 H3 ⟨m3, h3, σ3, q1, q2, q3, q4⟩ => ⟨ds.length - (i + 1), by omega, rfl, hlt, m3, h3, σ3, q1, q2, q3, q4⟩, fun x H3 hy => ?_⟩
    obtain ⟨hr3, e3, rd⟩ := wy x H3 hy
    refine ⟨m2, h2, σ2, .d _, hr3, l2.ext e3, rd, ?_⟩
    rw [forL] at p2
    cases q : g (.d ds[i]) σ2 h2 with
    | none => rw [q] at p2; exact p2.elim
    | some z =>
      obtain ⟨σ4, h4⟩ := z
      rw [q] at p2
      dsimp only at p2
      refine fun m4 H4 σV4 hr4 e4 l4 => ⟨m4, h4, σ4, hr4, l4, ?_⟩
      have e14 := (e2.trans e3).trans e4
      cases q2 : u σ4 h4 with
      | bad => rw [q2] at p2; exact p2.elim
      | exc e σ5 h5 =>
        rw [q2] at p2
        exact fun m5 H5 σV5 c d hr5 e5 l5 x5 => p2 m5 H5 σV5 c d hr5 ((e3.trans e4).trans e5) l5 x5
      | ok f σ5 h5 =>
        rw [q2] at p2
        cases f with
        | nx =>
          refine fun m5 H5 σV5 hr5 e5 l5 => ?_
          obtain ⟨hr6, e6⟩ := HR.trim' hr2 hr5 ((e3.trans e4).trans e5)
          exact ⟨m2, _, _, hr6, LR.clr hr5 ((e3.trans e4).trans e5) hr2.len l5, e2.trans e6, PoS.ext p2 e6⟩
        | cnt =>
          refine fun m5 H5 σV5 hr5 e5 l5 => ?_
          obtain ⟨hr6, e6⟩ := HR.trim' hr2 hr5 ((e3.trans e4).trans e5)
          exact ⟨m2, _, _, hr6, LR.clr hr5 ((e3.trans e4).trans e5) hr2.len l5, e2.trans e6, PoS.ext p2 e6⟩
        | brk =>
          refine fun m5 H5 σV5 hr5 e5 l5 => ?_
          obtain ⟨hr6, e6⟩ := HR.trim' hr2 hr5 ((e3.trans e4).trans e5)
          exact p2 m2 H5 σV5 hr6 e6 (LR.clr hr5 ((e3.trans e4).trans e5) hr2.len l5)
        | ret v => exact fun m5 H5 σV5 hr5 e5 l5 => p2 m5 H5 σV5 hr5 ((e3.trans e4).trans e5) l5
  · have e : i = ds.length := by omega
    subst e
    rw [List.drop_length] at p2
    exact .inl ⟨ws _ (Nat.le_refl _), PoS.nx hr2 l2 p2⟩
theorem ss_for (hp : PassesOwn (model X.prog X.w) X.A X.env X.xe) (hc : X.calm = true) (hi : SI X ct W tg iter it) (hg : SG X ct tg g) (hb : SSs X ct W body u)
    (hs : ∀ x, foldedSetIterable iter X.env x = pure x := by intro _; rfl) : SS X ct W (.For tg iter body [] pos) (sFor it g u) := PS.imp (ps_for hp hc hi hg hb hs) fun _ _ _ h => rd_for h
theorem rd_forN {D : Ends} {σV : L2.St} {H : Hp} (h : rdS X.K ct W (sForN it g u) D σV H) : tFor (rdI X.K ct W it) (rdG X.K ct g) (rdS X.K ct W u) D σV H := by
  obtain ⟨m, ah, σ, hr, lr, p⟩ := h
  refine ⟨m, ah, σ, hr, lr, (PoS.bind (R := fun m1 h1 H1 ds J => Wks X.K ct ds m1 h1 H1 J) lr p).imp fun J H1 ⟨m1, h1, ds, hr1, e1, w1, p1⟩ => ?_⟩
  dsimp only at p1 w1
  refine ⟨fun i n σV H => n = ds.length - i ∧ i ≤ ds.length ∧ ∃ m2 h2 σ2, HR X.K ct m2 h2 H ∧ LR X.K ct m2 h2 H σ2 σV ∧ Ext m1 h1 H1 m2 h2 H ∧ PoS X.K ct W D m2 h2 H (forN g u (ds.drop i) σ2 h2),
    ⟨ds.length, by simp, Nat.zero_le _, m1, h1, σ, hr1, lr.ext e1, Ext.refl _ _ _, by rw [List.drop_zero]; exact p1⟩, ?_⟩
  rintro i n σV2 H2 ⟨rfl, hi, m2, h2, σ2, hr2, l2, e2, p2⟩
  obtain ⟨ws, wg⟩ := w1 m2 h2 H2 hr2 e2.kp
  by_cases hlt : i < ds.length
  · rw [List.drop_eq_getElem_cons hlt] at p2
    obtain ⟨go, wy⟩ := wg i _ (List.getElem?_eq_getElem hlt)
    refine .inr ⟨go, fun σV3 H3 => ∃ m3 h3 σ3, HR X.K ct m3 h3 H3 ∧ LR X.K ct m3 h3 H3 σ3 σV3 ∧ Ext m1 h1 H1 m3 h3 H3 ∧ PoS X.K ct W D m3 h3 H3 (forN g u (ds.drop (i + 1)) σ3 h3),
      fun σV3 H3 ⟨m3, h3, σ3, q1, q2, q3, q4⟩ => ⟨ds.length - (i + 1), by omega, rfl, hlt, m3, h3, σ3, q1, q2, q3, q4⟩, fun x H3 hy => ?_⟩
    obtain ⟨hr3, e3, rd⟩ := wy x H3 hy
    refine ⟨m2, h2, σ2, .d _, hr3, l2.ext e3, rd, ?_⟩
    rw [forN] at p2
    cases q : g (.d ds[i]) σ2 h2 with
    | none => rw [q] at p2; exact p2.elim
    | some z =>
      obtain ⟨σ4, h4⟩ := z
      rw [q] at p2
      dsimp only at p2
      refine fun m4 H4 σV4 hr4 e4 l4 => ⟨m4, h4, σ4, hr4, l4, ?_⟩
      cases q2 : u σ4 h4 with
      | bad => rw [q2] at p2; exact p2.elim
      | exc e σ5 h5 =>
        rw [q2] at p2
        exact fun m5 H5 σV5 c d hr5 e5 l5 x5 => p2 m5 H5 σV5 c d hr5 ((e3.trans e4).trans e5) l5 x5
      | ok f σ5 h5 =>
        rw [q2] at p2
        cases f with
        | nx => exact fun m5 H5 σV5 hr5 e5 l5 => ⟨m5, h5, σ5, hr5, l5, e2.trans ((e3.trans e4).trans e5), PoS.ext p2 ((e3.trans e4).trans e5)⟩
        | cnt => exact fun m5 H5 σV5 hr5 e5 l5 => ⟨m5, h5, σ5, hr5, l5, e2.trans ((e3.trans e4).trans e5), PoS.ext p2 ((e3.trans e4).trans e5)⟩
        | brk => exact fun m5 H5 σV5 hr5 e5 l5 => p2 m5 H5 σV5 hr5 ((e3.trans e4).trans e5) l5
        | ret v => exact fun m5 H5 σV5 hr5 e5 l5 => p2 m5 H5 σV5 hr5 ((e3.trans e4).trans e5) l5
  · have e : i = ds.length := by omega
    subst e
    rw [List.drop_length] at p2
    exact .inl ⟨ws _ (Nat.le_refl _), PoS.nx hr2 l2 p2⟩
theorem ss_forN (hp : PassesOwn (model X.prog X.w) X.A X.env X.xe) (hc : X.calm = true) (hi : SI X ct W tg iter it) (hg : SG X ct tg g) (hb : SSs X ct W body u)
    (hs : ∀ x, foldedSetIterable iter X.env x = pure x := by intro _; rfl) : SS X ct W (.For tg iter body [] pos) (sForN it g u) := PS.imp (ps_for hp hc hi hg hb hs) fun _ _ _ h => rd_forN h
end

/-! ### while -/
def whL (t : SemT) (body : SemS) : Nat → Lo → Hs → RS
  | 0, _, _ => .bad
  | n + 1, σ, h => sb (t σ h) σ fun b h1 => if b = true then (match body σ h1 with
      | .ok .nx σ2 h2 => whL t body n (clr h.length σ2) (h2.take h.length)
      | .ok .cnt σ2 h2 => whL t body n (clr h.length σ2) (h2.take h.length)
      | .ok .brk σ2 h2 => .ok .nx (clr h.length σ2) (h2.take h.length)
      | .ok (.ret v) σ2 h2 => .ok (.ret v) σ2 h2
      | .exc e σ2 h2 => .exc e σ2 h2
      | .bad => .bad) else .ok .nx σ h1
/-- as many turns as anything may ask -/
def most : Nat := 10 ^ 30
def sWh (t : SemT) (body : SemS) : SemS := whL t body most
theorem whL_more {t : SemT} {body : SemS} : ∀ (n k : Nat) (σ : Lo) (h : Hs), whL t body n σ h ≠ .bad → whL t body (n + k) σ h = whL t body n σ h
  | 0, k, σ, h, hb => absurd rfl hb
  | n + 1, k, σ, h, hb => by
    rw [show n + 1 + k = (n + k) + 1 by omega, whL, whL]
    rw [whL] at hb
    cases e : t σ h with
    | bad => rfl
    | exc x h1 => rfl
    | ok b h1 =>
      rw [e] at hb
      simp only [sb_ok] at hb ⊢
      cases b with
      | false => rfl
      | true =>
        simp only [if_true] at hb ⊢
        cases e2 : body σ h1 with
        | bad => rfl
        | exc x σ2 h2 => rfl
        | ok f σ2 h2 =>
          rw [e2] at hb
          cases f with
          | nx => exact whL_more n k _ _ hb
          | cnt => exact whL_more n k _ _ hb
          | brk => rfl
          | ret v => rfl
/-- a while comes to an end in n turns -/
theorem sWh_of {t : SemT} {body : SemS} {n : Nat} {σ : Lo} {h : Hs} {r : RS} (e : whL t body n σ h = r) (hr : r ≠ .bad) (hn : n ≤ most) : sWh t body σ h = r := by
  unfold sWh
  obtain ⟨k, hk⟩ : ∃ k, most = n + k := ⟨most - n, by omega⟩
  rw [hk, whL_more n k σ h (by rw [e]; exact hr), e]
section
variable {X : Cx} {ct : CT} {W : WX} {pos : Pos} {c : Expr} {body : List Stmt} {t : SemT} {u : SemS}
theorem rd_while {D : Ends} {σV : L2.St} {H : Hp} (h : rdS X.K ct W (sWh t u) D σV H) : tWhile (rdT X.K ct W t) (rdS X.K ct W u) D σV H := by
  obtain ⟨m, ah, σ, hr, lr, p⟩ := h
  refine ⟨fun n σV H => ∃ m2 h2 σ2, HR X.K ct m2 h2 H ∧ LR X.K ct m2 h2 H σ2 σV ∧ PoS X.K ct W D m2 h2 H (whL t u n σ2 h2), ⟨most, m, ah, σ, hr, lr, p⟩, ?_⟩
  rintro n σV2 H2 ⟨m2, h2, σ2, hr2, l2, p2⟩
  cases n with
  | zero => exact p2.elim
  | succ n =>
    rw [whL] at p2
    refine ⟨m2, h2, σ2, hr2, l2, ?_⟩
    cases e : t σ2 h2 with
    | bad => rw [e] at p2; exact p2.elim
    | exc x h3 => rw [e] at p2; exact fun m3 H3 c d hr3 e3 x3 => p2 m3 H3 σV2 c d hr3 e3 (l2.ext e3) x3
    | ok b h3 =>
      rw [e] at p2
      simp only [sb_ok] at p2
      refine fun m3 H3 b' hr3 e3 r3 => ?_
      subst r3
      cases b with
      | false => exact p2 m3 H3 σV2 hr3 e3 (l2.ext e3)
      | true =>
        refine ⟨fun σV4 H4 => ∃ m4 h4 σ4, HR X.K ct m4 h4 H4 ∧ LR X.K ct m4 h4 H4 σ4 σV4 ∧ PoS X.K ct W D m4 h4 H4 (whL t u n σ4 h4), fun σV4 H4 q => ⟨n, Nat.lt_succ_self _, q⟩, m3, h3, σ2, hr3, l2.ext e3, ?_⟩
        simp only [if_true] at p2
        cases q2 : u σ2 h3 with
        | bad => rw [q2] at p2; exact p2.elim
        | exc e σ5 h5 =>
          rw [q2] at p2
          exact fun m5 H5 σV5 c d hr5 e5 l5 x5 => p2 m5 H5 σV5 c d hr5 (e3.trans e5) l5 x5
        | ok f σ5 h5 =>
          rw [q2] at p2
          cases f with
          | nx =>
            refine fun m5 H5 σV5 hr5 e5 l5 => ?_
            obtain ⟨hr6, e6⟩ := HR.trim' hr2 hr5 (e3.trans e5)
            exact ⟨m2, _, _, hr6, LR.clr hr5 (e3.trans e5) hr2.len l5, PoS.ext p2 e6⟩
          | cnt =>
            refine fun m5 H5 σV5 hr5 e5 l5 => ?_
            obtain ⟨hr6, e6⟩ := HR.trim' hr2 hr5 (e3.trans e5)
            exact ⟨m2, _, _, hr6, LR.clr hr5 (e3.trans e5) hr2.len l5, PoS.ext p2 e6⟩
          | brk =>
            refine fun m5 H5 σV5 hr5 e5 l5 => ?_
            obtain ⟨hr6, e6⟩ := HR.trim' hr2 hr5 (e3.trans e5)
            exact p2 m2 H5 σV5 hr6 e6 (LR.clr hr5 (e3.trans e5) hr2.len l5)
          | ret v => exact fun m5 H5 σV5 hr5 e5 l5 => p2 m5 H5 σV5 hr5 (e3.trans e5) l5
theorem ss_while (hp : PassesOwn (model X.prog X.w) X.A X.env X.xe) (hc : ST X ct W c t) (hb : SSs X ct W body u) : SS X ct W (.While c body [] pos) (sWh t u) := PS.imp (ps_while hp hc hb) fun _ _ _ h => rd_while h
end
end Mi

/-! Mi6: defs and their calls, instances -/
namespace Mi
open PySem PySem.Spec L2

/-! ### calls that know that no repr is under way -/
structure Room (k : Nat) (A : Around) : Prop extends L2.Room k A where
  gd : A.guards = some []
theorem Room.mono {j k : Nat} {A : Around} (r : Room k A) (h : j ≤ k) : Room j A := ⟨r.toRoom.mono h, r.gd⟩
theorem Room.units {k : Nat} {A : Around} (r : Room k A) : A.units + 64 < cLine := r.toRoom.units
theorem Room.units0 {k : Nat} {A : Around} (r : Room k A) : A.units < cLine := r.toRoom.units0
theorem Room.depth {k : Nat} {A : Around} (r : Room k A) : A.depth < recursionLimit := r.toRoom.depth
theorem Room.deeper {k : Nat} {A : Around} (r : Room (k + 1) A) (env : Env) : Room k (A.deeper env) := ⟨r.toRoom.deeper env, r.gd⟩
theorem make_guards {A : Around} {C : Addr} {us : List Value} {kw : List (Str × Value)} (h : A.guards = some []) : (A.under (.builtin "type.__call__" ⟨.ref C :: us, kw⟩)).guards = some [] := by
  show pushGuards (Code.guards (.builtin "type.__call__" ⟨.ref C :: us, kw⟩)) A.guards = some []
  rw [h, show Code.guards (.builtin "type.__call__" ⟨.ref C :: us, kw⟩) = [] by simp [Code.guards, Code.isGuard, guardIds]]
  rfl
theorem Room.make {k : Nat} {A : Around} (r : Room (k + 1) A) (C : Addr) (us : List Value) (kw : List (Str × Value)) : Room k (A.under (.builtin "type.__call__" ⟨.ref C :: us, kw⟩)) := ⟨r.toRoom.make C us kw, make_guards r.gd⟩
structure FnOk (P : Program) (w : World) (K : PySem.W.Frag) (mg : Str → Option Value) (base : Heap) (CX : CXT) (k : Nat) (f : Addr) (fd : FuncData) (ps : List Str) (sp : Sp) : Prop where
  len : ∀ vs H Q E, sp vs H Q E → vs.length = ps.length
  run : ∀ (A : Around) (outer : List Env) (s : Shared) (H : Hp) (args : Args) (us : List Value) (vs : List V) (Q : VK) (E : XK), Room k A → Env0 P w K mg base A outer s H → BindsTo s fd args (ps.zip us) → Vals vs us → sp vs H Q E → codeAny (model P w) A (.call (.ref f) args) (CR CX outer P w H s Q E) s
/-- a def keeps its promise if its body does -/
theorem fun_ok {P : Program} {w : World} {K : PySem.W.Frag} {mg : Str → Option Value} {base : Heap} {x qual : Str} {params : Arguments} {body : List Stmt} {scope : Scope} {dvs : List V} {kws : List (Str × V)} {f : Addr} {fd : FuncData} {CX : CXT} {N ps : List Str} {k : Nat} {sp : Sp}
    (F : FunD K x qual params body scope dvs kws f fd) (S : FnScope N ps scope) (len : ∀ vs H Q E, sp vs H Q E → vs.length = ps.length)
    (hbody : ∀ (cdv : Value) (A : Around) (outer : List Env) (s : Shared) (H : Hp) (vs : List V) (Q : VK) (E : XK), Room k (A.deeper (PyProof.Rows.envOfC qual scope s.heap.objs.size f cdv)) → sp vs H Q E →
      ∃ t, PSs (cxOf CX P w K mg base N qual scope f cdv A outer s H E) body t ∧ t { nx := fun _ H' => Q .non H', rt := Q } (L2.start N vs) H) : FnOk P w K mg base CX (k + 1) f fd ps sp := by
  obtain ⟨oc, od, dV, kV, doc, pm, an, cdv, ct, osl, rfl, lk, hcd, _, _⟩ := F.ex
  refine ⟨len, fun A outer s H args us vs Q E hr e0 hb r hsp => ?_⟩
  have l0 := len _ _ _ _ hsp
  have kin : K.In s.heap := e0.mod.kin.keeps fun b o e => (e0.bs b o e).1
  have nolim : s.heap.NoLimit := e0.mod.nolimit.keeps fun b o e => (e0.bs b o e).1
  have kinds : ∀ y ∈ ps.zip us, scope.names.lookup y.1 = some .local ∨ (scope.names.lookup y.1 = some .cell ∧ ((cellsFrom (s.heap.objs.size + 1) scope.names []).lookup y.1).isSome = true) := fun ⟨n, v⟩ hy =>
    (S.par n (List.of_mem_zip hy).1).imp id fun q => ⟨q, PySem.W.cellsFrom_some _ _ _ (.inl q)⟩
  refine codeAny_call_function hr.depth (kin _ _ lk) rfl S.co S.gen rfl (PySem.W.codeRec_of kin hcd) (hb _ _ _ _ (wpAny_newFunctionEnv_cells S.kind kinds fun env he s1 y => ?_))
  subst he
  refine ⟨nolim.keeps y.toInCall.keep, codeAny_func ?_⟩
  obtain ⟨t, ht, hq⟩ := hbody cdv A outer s H vs Q E (hr.deeper _) hsp
  have I0 : Inv (cxOf CX P w K mg base N qual scope f cdv A outer s H E) [] (L2.start N vs) H s1 := inv_start S hr.hd e0 l0 r y
  refine wpAny_mono (ht.run [] s1 (L2.start N vs) H _ I0 hq) (fun fl s' z => ?_) fun e s' z => z
  have done : ∀ {σ' : L2.St} {H' : Hp} {v : V} {u : Value}, Inv (cxOf CX P w K mg base N qual scope f cdv A outer s H E) [] σ' H' s' → RelV v u → Q v H' → CE outer P w H s Q u s' := fun {σ' H' v u} J rv q => ⟨v, H', J.os, J.bare, J.base, J.hok, rv, q⟩
  cases fl with
  | ret u => obtain ⟨v, σ', H', J, rv, q⟩ := z; exact done J rv q
  | next => obtain ⟨σ', H', J, q⟩ := z; exact done (v := V.non) (u := Value.none) J rfl q
  | brk => obtain ⟨_, _, _, q⟩ := z; exact q.elim
  | cont => obtain ⟨_, _, _, q⟩ := z; exact q.elim
theorem run_fnG {X : Cx} {CX : CXT} {k : Nat} {f : Addr} {fd : FuncData} {ps : List Str} {sp : Sp} {dvs : List V} {ds : List Value} {E : L2.St → XK} {pins : List (Addr × Obj)} {σ : L2.St} {H : Hp} {s : Shared} {Q : VK} {us : List Value} {vs : List V}
    (F : FnOk X.prog X.w X.K X.mg X.base CX k f fd ps sp) (hr : Room k X.A) (hb : Binds X.K fd ps ds) (hd : Vals dvs ds) (hx : PassesAt CX X σ (E σ)) (I : Inv X pins σ H s) (r : Vals vs us) (h : sp (vs ++ dvs) H Q (E σ)) : wpAny (model X.prog X.w) X.A (PySem.call (.ref f) us) (EP X pins σ Q) X.xe s := by
  have r2 : Vals (vs ++ dvs) (us ++ ds) := r.append hd
  have l2 : (us ++ ds).length = ps.length := by rw [← r2.length]; exact F.len _ _ _ _ h
  refine wpAny_call (codeAny_mono (F.run X.A X.stack s H ⟨us, []⟩ (us ++ ds) (vs ++ dvs) Q (E σ) hr I.env0 (hb s us I.kIn l2) r2 h) fun r s' q => ?_)
  cases r with
  | error e => exact hx pins H s e s' I q
  | ok fl => cases fl <;> first | exact I.after q | exact False.elim q

abbrev CallT := Nat → List Vl → Hs → Res Vl
structure MDef where
  np : Nat
  ns : Nat
  keep : Bool
  body : CallT → SemS
def startL (n : Nat) (xs : List Vl) : Lo := xs.map some ++ List.replicate (n - xs.length) none
/-- what a def hands back: data, or (keep) the changeable object itself -/
def retV (keep : Bool) (n0 : Nat) (v : Vl) (h : Hs) : Res Vl := match keep with
  | false => (match toD v h with
    | some (d, h') => .ok (.d d) (h'.take n0)
    | none => .bad)
  | true => (match v with
    | .d x => .ok (.d x) (h.take n0)
    | .r k => if k < n0 then .ok (.r k) (h.take n0) else (match h[k]? with
      | some o => .ok (.r n0) (h.take n0 ++ [o])
      | none => .bad))
def fin (keep : Bool) (n0 : Nat) (r : RS) : Res Vl := match r with
  | .ok .nx _ h => .ok (.d .non) (h.take n0)
  | .ok (.ret v) _ h => retV keep n0 v h
  | .exc e _ h => .exc e (h.take n0)
  | _ => .bad
def runD (md : MDef) (call : CallT) (xs : List Vl) (h : Hs) : Res Vl := if xs.length = md.np then fin md.keep h.length (md.body call (startL md.ns xs) h) else .bad
def callF (defs : List MDef) : Nat → CallT
  | 0 => fun _ _ _ => .bad
  | n + 1 => fun i xs h => match defs[i]? with
    | none => .bad
    | some md => runD md (callF defs n) xs h
theorem callF_len {defs : List MDef} {n i : Nat} {xs : List Vl} {h : Hs} {md : MDef} (hd : defs[i]? = some md) (hb : callF defs n i xs h ≠ .bad) : xs.length = md.np := by
  cases n with
  | zero => exact absurd rfl hb
  | succ n =>
    unfold callF at hb
    rw [hd] at hb
    dsimp only at hb
    unfold runD at hb
    by_cases e : xs.length = md.np
    · exact e
    · rw [if_neg e] at hb; exact absurd rfl hb
/-- what a caller is promised of def i -/
def spC (K : PySem.W.Frag) (ct : CT) (call : CallT) (i : Nat) : Sp := fun vs H Q E => ∃ m ah xs, HR K ct m ah H ∧ VlRs K ct m ah H xs vs ∧ Po K ct (fun c d _ H' => E c d H') [] (VlR K ct) m ah H (call i xs ah) Q

section
variable {K : PySem.W.Frag} {ct : CT} {W : WX} {m m' : List Addr} {ah ah' : Hs} {H H' : Hp}
theorem LR.start {xs : List Vl} {vs : List V} {N : List Str} (r : VlRs K ct m ah H xs vs) (hl : xs.length ≤ N.length) : LR K ct m ah H (startL N.length xs) (L2.start N vs) := by
  have hv : xs.length = vs.length := r.length
  unfold startL L2.start
  refine ⟨by simp [hv], fun i x hx => ?_⟩
  by_cases hi : i < xs.length
  · rw [List.getElem?_append_left (by simpa using hi), List.getElem?_map] at hx
    rw [List.getElem?_append_left (by simpa [← hv] using hi), List.getElem?_map]
    have get : ∀ {xs : List Vl} {vs : List V} {i : Nat} {x : Vl}, VlRs K ct m ah H xs vs → xs[i]? = some x → ∃ v, vs[i]? = some v ∧ VlR K ct m ah H x v := by
      intro xs vs i x r
      induction r generalizing i with
      | nil => intro e; simp at e
      | cons r t ih =>
        intro e
        cases i with
        | zero => simp at e; subst e; exact ⟨_, rfl, r⟩
        | succ i => simpa using ih (i := i) (by simpa using e)
    cases q : xs[i]? with
    | none => rw [q] at hx; cases hx
    | some y =>
      rw [q] at hx; cases hx
      obtain ⟨v, h1, h2⟩ := get r q
      exact ⟨v, by rw [h1]; rfl, h2⟩
  · rw [List.getElem?_append_right (by simpa using hi)] at hx
    rw [List.getElem?_replicate] at hx
    split at hx <;> cases hx
theorem fin_sound {keep : Bool} {E : XK} {r : RS} {Q : VK} (hr0 : HR K ct m ah H) (p : Po K ct (fun c d _ H' => E c d H') [] (VlR K ct) m ah H (fin keep ah.length r) Q) :
    PoS K ct (fun c d _ H' => E c d H') { nx := fun _ H' => Q .non H', rt := Q } m ah H r := by
  cases r with
  | bad => exact p
  | exc e σ h =>
    refine fun m1 H1 σV c d hr ex lr x => ?_
    obtain ⟨hr2, ex2⟩ := HR.trim' hr0 hr ex
    refine p m H1 c d hr2 ex2 ?_
    obtain ⟨x1, vs, x2, x3⟩ := x
    have kp := (hr.trim m.length).2
    obtain ⟨t, rfl⟩ := ex.pre
    rw [List.take_left' rfl, hr0.len] at kp
    exact ⟨x1, vs, x2.mono kp, x3.imp id fun ⟨dx, y1, y2, y3⟩ => ⟨dx, y1, (kp _ _ y2 y3).1, (kp _ _ y2 y3).2⟩⟩
  | ok f σ h =>
    cases f with
    | brk => exact p.elim
    | cnt => exact p.elim
    | nx =>
      refine fun m1 H1 σV hr ex lr => ?_
      obtain ⟨hr2, ex2⟩ := HR.trim' hr0 hr ex
      exact p m H1 .non hr2 ex2 .non
    | ret v =>
      refine fun m1 H1 σV hr ex lr u ru => ?_
      obtain ⟨hr2, ex2⟩ := HR.trim' hr0 hr ex
      have kp := (hr.trim m.length).2
      obtain ⟨t, et⟩ := ex.pre
      rw [et, List.take_left' rfl, hr0.len, ← et] at kp
      unfold fin retV at p
      cases keep with
      | false =>
        dsimp only at p
        cases e : toD v h with
        | none => rw [e] at p; exact p.elim
        | some q =>
          obtain ⟨d, h1⟩ := q
          rw [e] at p
          obtain ⟨hr3, ex3, r3⟩ := toD_sound hr e ru
          obtain ⟨hr4, ex4⟩ := HR.trim' hr0 hr3 (ex.trans ex3)
          have kp2 := (hr3.trim m.length).2
          rw [et, List.take_left' rfl, hr0.len, ← et] at kp2
          exact p m H1 u hr4 ex4 (DR.mono kp2 r3)
      | true =>
        dsimp only at p
        cases v with
        | d x => exact p m H1 u hr2 ex2 (DR.mono kp ru)
        | r k =>
          obtain ⟨a, ha, rfl⟩ := ru
          dsimp only at p
          split at p
          · rename_i hk
            refine p m H1 (.ref a) hr2 ex2 ⟨a, ?_, rfl⟩
            rw [et, List.getElem?_append_left (by rw [hr0.len]; exact hk)] at ha
            exact ha
          · rename_i hk
            obtain ⟨o, w, e2, hw, ow⟩ := hr.there ha
            rw [e2] at p
            dsimp only at p
            -- the new object, known at the end of the caller's
            have hm1 : ∀ (j : Nat) (b : Addr), m[j]? = some b → m1[j]? = some b := fun j b hb => ex.at hb
            have nin : ∀ j : Nat, m[j]? ≠ some a := fun j hj => by
              have := hr.inj _ _ _ (hm1 j a hj) ha
              have hj2 := (List.getElem?_eq_some_iff.mp hj).1
              rw [hr0.len] at hj2
              omega
            have lt : (h.take ah.length).length = m.length := by rw [← hr2.len]
            have lv : ∀ b, Lv (m ++ [a]) (h.take ah.length ++ [o]) b → Lv m1 h b := fun b ⟨j, q, f1, f2, f3⟩ => by
              by_cases hj : j < m.length
              · rw [List.getElem?_append_left hj] at f1
                rw [List.getElem?_append_left (by rw [lt]; exact hj), List.getElem?_take, if_pos (by rw [← hr0.len]; exact hj)] at f2
                exact ⟨j, q, hm1 j b f1, f2, f3⟩
              · rw [List.getElem?_append_right (by omega)] at f1
                rw [List.getElem?_append_right (by rw [lt]; omega), lt] at f2
                have z : j - m.length = 0 := by
                  have := (List.getElem?_eq_some_iff.mp f1).1
                  simpa using this
                rw [z] at f1 f2
                have f1' : a = b := by simpa using f1
                have f2' : o = q := by simpa using f2
                subst f1' f2'
                exact ⟨k, o, ha, e2, f3⟩
            have kp3 : Kp (Sf m1 h) H1 (Sf (m ++ [a]) (h.take ah.length ++ [o])) H1 := fun b q e s => ⟨e, fun l => s (lv b l)⟩
            have hr5 : HR K ct (m ++ [a]) (h.take ah.length ++ [o]) H1 := by
              refine ⟨by rw [List.length_append, List.length_append, lt]; rfl, fun i j b f1 f2 => ?_, fun j b q f1 f2 => ?_⟩
              · by_cases hi : i < m.length
                · rw [List.getElem?_append_left hi] at f1
                  by_cases hj : j < m.length
                  · rw [List.getElem?_append_left hj] at f2
                    exact hr0.inj _ _ _ f1 f2
                  · rw [List.getElem?_append_right (by omega)] at f2
                    have z : j - m.length = 0 := by
                      have := (List.getElem?_eq_some_iff.mp f2).1
                      simpa using this
                    rw [z] at f2
                    have : a = b := by simpa using f2
                    subst this
                    exact absurd f1 (nin i)
                · rw [List.getElem?_append_right (by omega)] at f1
                  have z : i - m.length = 0 := by
                    have := (List.getElem?_eq_some_iff.mp f1).1
                    simpa using this
                  rw [z] at f1
                  have : a = b := by simpa using f1
                  subst this
                  by_cases hj : j < m.length
                  · rw [List.getElem?_append_left hj] at f2
                    exact absurd f2 (nin j)
                  · have := (List.getElem?_eq_some_iff.mp f2).1
                    rw [List.length_append, List.length_singleton] at this
                    omega
              · by_cases hj : j < m.length
                · rw [List.getElem?_append_left hj] at f1
                  rw [List.getElem?_append_left (by rw [lt]; exact hj), List.getElem?_take, if_pos (by rw [← hr0.len]; exact hj)] at f2
                  obtain ⟨v, g1, g2⟩ := hr.ob j b q (hm1 j b f1) f2
                  exact ⟨v, g1, g2.mono kp3⟩
                · rw [List.getElem?_append_right (by omega)] at f1
                  rw [List.getElem?_append_right (by rw [lt]; omega), lt] at f2
                  have z : j - m.length = 0 := by
                    have := (List.getElem?_eq_some_iff.mp f1).1
                    simpa using this
                  rw [z] at f1 f2
                  have f1' : a = b := by simpa using f1
                  have f2' : o = q := by simpa using f2
                  subst f1' f2'
                  exact ⟨w, hw, ow.mono kp3⟩
            refine p (m ++ [a]) H1 (.ref a) hr5 ⟨⟨[a], rfl⟩, ex.kp.trans kp3⟩ ⟨a, ?_, rfl⟩
            rw [← hr0.len, List.getElem?_append_right (Nat.le_refl _), Nat.sub_self]; rfl
end

/-! ### all defs keep their promises -/
/-- one def: where it stands, its names, its parameters -/
structure Fn where
  f : Addr
  fd : FuncData
  ps : List Str
structure CallOk (P : Program) (w : World) (K : PySem.W.Frag) (mg : Str → Option Value) (base : Heap) (ct : CT) (fns : List Fn) (call : CallT) (n : Nat) : Prop where
  ok : ∀ (i : Nat) F, fns[i]? = some F → FnOk P w K mg base (L2.CX P w) (2 * n + 1) F.f F.fd F.ps (spC K ct call i)
/-- one def's body means what its MDef says -/
structure BodyOk (P : Program) (w : World) (K : PySem.W.Frag) (mg : Str → Option Value) (base : Heap) (ct : CT) (fns : List Fn) (F : Fn) (md : MDef) : Prop where
  ex : ∃ (x qual : Str) (params : Arguments) (body : List Stmt) (scope : Scope) (dvs : List V) (kws : List (Str × V)) (N : List Str), FunD K x qual params body scope dvs kws F.f F.fd ∧ FnScope N F.ps scope ∧ F.ps.length = md.np ∧ N.length = md.ns ∧ md.np ≤ md.ns ∧
    ∀ (call : CallT) (n : Nat), CallOk P w K mg base ct fns call n → ∀ (cdv : Value) (A : Around) (outer : List Env) (s : Shared) (H : Hp) (E : XK), Room (2 * n + 2) (A.deeper (PyProof.Rows.envOfC qual scope s.heap.objs.size F.f cdv)) →
      SSs (cxOf (L2.CX P w) P w K mg base N qual scope F.f cdv A outer s H E) ct (fun c d _ H' => E c d H') body (md.body call)
theorem all_ok {P : Program} {w : World} {K : PySem.W.Frag} {mg : Str → Option Value} {base : Heap} {ct : CT} {fns : List Fn} {defs : List MDef} (hl : fns.length = defs.length)
    (hb : ∀ (i : Nat) F md, fns[i]? = some F → defs[i]? = some md → BodyOk P w K mg base ct fns F md) : ∀ n, CallOk P w K mg base ct fns (callF defs n) n
  | 0 => ⟨fun i F _ => ⟨fun vs H Q E ⟨_, _, _, _, _, p⟩ => p.elim, fun A outer s H args us vs Q E hr e0 hb r ⟨_, _, _, _, _, p⟩ => p.elim⟩⟩
  | n + 1 => ⟨fun i F hF => by
    have hi : i < defs.length := by rw [← hl]; exact (List.getElem?_eq_some_iff.mp hF).1
    have hd : defs[i]? = some defs[i] := List.getElem?_eq_getElem hi
    obtain ⟨x, qual, params, body, scope, dvs, kws, N, FD, sc, e1, e2, e3, hB⟩ := (hb i F _ hF hd).ex
    have ih := all_ok hl hb n
    have len : ∀ {xs : List Vl} {h : Hs}, callF defs (n + 1) i xs h ≠ .bad → xs.length = F.ps.length := fun q => by rw [e1]; exact callF_len hd q
    have nb : ∀ {K : PySem.W.Frag} {W : WX} {m : List Addr} {ah : Hs} {H : Hp} {Q : VK} {r : Res Vl}, Po K ct W [] (VlR K ct) m ah H r Q → r ≠ .bad := fun p e => by subst e; exact p
    refine fun_ok (k := 2 * n + 2) FD sc (fun vs H Q E ⟨m, ah, xs, hr, rs, p⟩ => by rw [← rs.length]; exact len (nb p)) fun cdv A outer s H vs Q E hr ⟨m, ah, xs, h1, rs, p⟩ => ?_
    have hx : xs.length = defs[i].np := callF_len hd (nb p)
    unfold callF at p
    rw [hd] at p
    dsimp only at p
    unfold runD at p
    rw [if_pos hx] at p
    refine ⟨_, hB (callF defs n) n ih cdv A outer s H E hr, m, ah, startL defs[i].ns xs, h1, ?_, fin_sound h1 p⟩
    rw [← e2]
    exact LR.start rs (by omega)⟩

/-! ### calls -/
def eCl (call : CallT) (i : Nat) (ds : List D) (fs : SemA) : SemE := fun σ h => rb (fs σ h) fun xs h1 => call i (xs ++ ds.map Vl.d) h1
theorem VlRs.append {K : PySem.W.Frag} {ct : CT} {m : List Addr} {ah : Hs} {H : Hp} : ∀ {xs vs ys ws}, VlRs K ct m ah H xs vs → VlRs K ct m ah H ys ws → VlRs K ct m ah H (xs ++ ys) (vs ++ ws)
  | _, _, _, _, .nil, s => s
  | _, _, _, _, .cons r t, s => .cons r (VlRs.append t s)
/-- the defaults that fill up: data that stands in no heap -/
def Dfl (K : PySem.W.Frag) (ct : CT) (ds : List D) (dvs : List V) : Prop := ∀ m ah H, VlRs K ct m ah H (ds.map Vl.d) dvs
theorem Dfl.nil {K : PySem.W.Frag} {ct : CT} : Dfl K ct [] [] := fun _ _ _ => .nil
theorem Po.stil {α β : Type} {K : PySem.W.Frag} {ct : CT} {W : WX} {σV : L2.St} {R : List Addr → Hs → Hp → α → β → Prop} {m : List Addr} {ah : Hs} {H : Hp} {r : Res α} {Q : β → Hp → Prop} (p : Po K ct W σV R m ah H r Q) : Po K ct (fun c d _ H' => W c d σV H') [] R m ah H r Q := by
  cases r with
  | ok x h => exact p
  | exc x h => exact p
  | bad => exact p
section
variable {X : Cx} {ct : CT} {W : WX} {pos p apos : Pos} {e o : Expr} {es : List Expr} {f : SemE} {fs : SemA} {call : CallT} {n i : Nat} {F : Fn} {x : Str} {ds : List D} {dvs : List V} {dus : List Value} {fns : List Fn}
theorem run_cl {pins : List (Addr × Obj)} {σ : L2.St} {H : Hp} {s : Shared} {Q : VK} {us : List Value} {vs : List V} (co : CallOk X.prog X.w X.K X.mg X.base ct fns call n) (hF : fns[i]? = some F) (hr : Room (2 * n + 1) X.A) (hb : Binds X.K F.fd F.ps dus) (hd : Vals dvs dus) (tk : Takes X W)
    (I : Inv X pins σ H s) (r : Vals vs us) (h : spC X.K ct call i (vs ++ dvs) H Q (WE W σ)) : wpAny (model X.prog X.w) X.A (PySem.call (.ref F.f) us) (EP X pins σ Q) X.xe s :=
  run_fnG (E := WE W) (co.ok i F hF) hr hb hd (passAt tk σ) I r h
theorem se_call (co : CallOk X.prog X.w X.K X.mg X.base ct fns call n) (tk : Takes X W) (hr : Room (2 * n + 1) X.A) (hF : fns[i]? = some F) (hg : Gl X x) (hm : X.mg x = some (.ref F.f)) (hk : PySem.W.keepIn X.K (.ref F.f) = true) (hb : Binds X.K F.fd F.ps dus) (hd : Vals dvs dus) (hq : Dfl X.K ct ds dvs)
    (ha : SA X ct W (e :: es) fs) (hdb : (x == ("__debug__" : Str)) = false := by decide) (he : starEach (e :: es) X.env = (false, eval e X.env) :: starEach es X.env := by rfl) (hpl : (backTo pos (starEach es X.env)).any (·.1) = false := by rfl) :
    SE X ct W (.Call (.Name x p) (e :: es) [] pos) (eCl call i ds fs) := by
  refine ⟨fun pins s σV H Q I ⟨m, ah, σ, hr0, lr, p⟩ => ?_⟩
  refine wpAny_Call_Name_kw (ld_glob I hg hm ?_ hdb)
  refine PySem.W.callWith_K (h₀ := X.base) I.ok.mod.kin hk (thn (ha.run pos pins s σV H _ I ⟨m, ah, σ, hr0, lr, Po.bind (R := VlRs X.K ct) p⟩) fun us s1 ⟨vs, H1, I1, r, m1, h1, xs, hr1, e1, r1, p1⟩ => ⟨I1.kIn, ?_⟩) he hpl
  exact run_cl co hF hr hb hd tk I1 r ⟨m1, h1, _, hr1, r1.append (hq _ _ _), Po.stil p1⟩
theorem se_call0 (co : CallOk X.prog X.w X.K X.mg X.base ct fns call n) (tk : Takes X W) (hr : Room (2 * n + 1) X.A) (hF : fns[i]? = some F) (hg : Gl X x) (hm : X.mg x = some (.ref F.f)) (hk : PySem.W.keepIn X.K (.ref F.f) = true) (hb : Binds X.K F.fd F.ps dus) (hd : Vals dvs dus) (hq : Dfl X.K ct ds dvs)
    (hdb : (x == ("__debug__" : Str)) = false := by decide) : SE X ct W (.Call (.Name x p) [] [] pos) (eCl call i ds aNil) := by
  refine ⟨fun pins s σV H Q I ⟨m, ah, σ, hr0, lr, p⟩ => ?_⟩
  refine wpAny_Call_Name_kw (ld_glob I hg hm ?_ hdb)
  refine PySem.W.callWith_K0 I.kIn hk ?_
  exact run_cl (us := []) (vs := []) co hF hr hb hd tk I .nil ⟨m, ah, _, hr0, VlRs.append .nil (hq _ _ _), Po.stil p⟩
/-- the instance behind a value -/
def insOf (x : Vl) (h : Hs) : Option (Nat × List (Nat × D)) := match x with
  | .d (.ins C fs) => some (C, fs)
  | .r k => (match h[k]? with
    | some (.ins C fs) => some (C, fs)
    | _ => none)
  | _ => none
theorem ins_of {K : PySem.W.Frag} {m : List Addr} {ah : Hs} {H : Hp} (h : HR K ct m ah H) {x : Vl} {C : Nat} {fs : List (Nat × D)} {v : V} (e : insOf x ah = some (C, fs)) (r : VlR K ct m ah H x v) : ∃ a dx vs, v = .ref a ∧ H a = some (.ins (ct.ca C) dx vs) ∧ DRf K ct (Sf m ah) H fs vs := by
  unfold insOf at e
  split at e
  · cases e
    cases r with
    | ins h1 _ h2 => exact ⟨_, _, _, rfl, h1, h2⟩
  · rename_i k
    split at e
    · rename_i C' fs' hk
      cases e
      obtain ⟨a, h1, rfl⟩ := r
      obtain ⟨u, h2, h3⟩ := h.ob k a _ h1 hk
      cases h3 with
      | ins t => exact ⟨a, _, _, rfl, h2, t⟩
    · cases e
  · cases e
theorem lookup_drf {K : PySem.W.Frag} {S : Addr → Prop} {H : Hp} {n : Nat} : ∀ {fs : List (Nat × D)} {vs : List (Str × V)}, DRf K ct S H fs vs → (∀ d, fs.lookup n = some d → ∃ v, vs.lookup (ct.nm n) = some v ∧ DR K ct S H d v) ∧ (fs.lookup n = none → vs.lookup (ct.nm n) = none)
  | _, _, .nil => ⟨fun d e => (by cases e), fun _ => rfl⟩
  | _, _, .cons (n := k) (d := d0) (v := v0) r t => by
    obtain ⟨i1, i2⟩ := lookup_drf (n := n) t
    by_cases q : n = k
    · subst q
      have b1 : (n == n) = true := beq_self_eq_true n
      have b2 : (ct.nm n == ct.nm n) = true := beq_self_eq_true _
      refine ⟨fun d e => ?_, fun e => ?_⟩
      · simp only [List.lookup, b1] at e
        cases e
        exact ⟨_, by simp only [List.lookup, b2], r⟩
      · simp only [List.lookup, b1] at e
        cases e
    · have b1 : (n == k) = false := beq_eq_false_iff_ne.mpr q
      have b2 : (ct.nm n == ct.nm k) = false := beq_eq_false_iff_ne.mpr fun z => q (ct.inj _ _ z)
      refine ⟨fun d e => ?_, fun e => ?_⟩
      · simp only [List.lookup, b1] at e
        obtain ⟨v, h1, h2⟩ := i1 d e
        exact ⟨v, by simp only [List.lookup, b2]; exact h1, h2⟩
      · simp only [List.lookup, b1] at e
        simp only [List.lookup, b2]; exact i2 e
theorem lookup_none {K : PySem.W.Frag} {S : Addr → Prop} {H : Hp} {mm : Str} (hn : ∀ n, ct.nm n ≠ mm) : ∀ {fs : List (Nat × D)} {vs : List (Str × V)}, DRf K ct S H fs vs → vs.lookup mm = none
  | _, _, .nil => rfl
  | _, _, .cons (n := k) r t => by
    have b : (mm == ct.nm k) = false := beq_eq_false_iff_ne.mpr fun z => hn k z.symm
    simp only [List.lookup, b]
    exact lookup_none hn t
def putN (n : Nat) (d : D) : List (Nat × D) → List (Nat × D)
  | [] => [(n, d)]
  | (k, x) :: r => if k = n then (k, d) :: r else (k, x) :: putN n d r
theorem putN_drf {K : PySem.W.Frag} {S : Addr → Prop} {H : Hp} {n : Nat} {d : D} {v : V} (r : DR K ct S H d v) : ∀ {fs : List (Nat × D)} {vs : List (Str × V)}, DRf K ct S H fs vs → DRf K ct S H (putN n d fs) (putF (ct.nm n) v vs)
  | _, _, .nil => .cons r .nil
  | _, _, .cons (n := k) r0 t => by
    unfold putN putF
    by_cases q : k = n
    · subst q
      rw [if_pos rfl, if_pos rfl]
      exact .cons r t
    · rw [if_neg q, if_neg fun z => q (ct.inj _ _ z)]
      exact .cons r0 (putN_drf r t)
/-- e.f -/
def eFd (ok : Nat → Bool) (n : Nat) (f : SemE) : SemE := fun σ h => rb (f σ h) fun x h1 => match insOf x h1 with
  | some (C, fs) => if ok C = true then (match fs.lookup n with
    | some d => .ok (.d d) h1
    | none => .bad) else .bad
  | none => .bad
theorem se_fld {ok : Nat → Bool} {k : Nat} {fl : Str} (he : SE X ct W e f) (hf : ct.nm k = fl) (hok : ∀ C, ok C = true → Cls X.K (ct.ca C) ∧ NoAttr X.K (ct.ca C) fl) (hb : attributeBase e fl X.env (eval e X.env) = eval e X.env := by rfl) : SE X ct W (.Attribute e fl pos) (eFd ok k f) := by
  subst hf
  exact PE.imp (pe_fld he hb) fun σV H Q ⟨m, ah, σ, hr, lr, p⟩ => ⟨m, ah, σ, hr, lr, (Po.bind (R := VlR X.K ct) p).imp fun v H1 ⟨m1, h1, x, hr1, e1, r1, p1⟩ => by
    dsimp only at p1
    cases q : insOf x h1 with
    | none => rw [q] at p1; exact p1.elim
    | some z =>
      obtain ⟨C, fs⟩ := z
      rw [q] at p1
      dsimp only at p1
      split at p1
      · rename_i hc
        obtain ⟨a, dx, vs, rfl, h2, r2⟩ := ins_of hr1 q r1
        cases q2 : fs.lookup k with
        | none => rw [q2] at p1; exact p1.elim
        | some d =>
          rw [q2] at p1
          obtain ⟨v, h3, r3⟩ := (lookup_drf r2).1 d q2
          exact ⟨a, _, dx, vs, v, rfl, h2, (hok C hc).1, (hok C hc).2, h3, p1 m1 H1 v hr1 (Ext.refl _ _ _) r3⟩
      · exact p1.elim⟩
/-- self.f = e -/
def sFd (ok : Nat → Bool) (n : Nat) (f : SemE) (g : SemE) : SemS := fun σ h => sb (g σ h) σ fun y h1 => match toD y h1 with
  | none => .bad
  | some (d, h2) => sb (f σ h2) σ fun x h3 => match x with
    | .r k => (match h3[k]? with
      | some (.ins C fs) => if ok C = true ∧ fs.length < 900 then .ok .nx σ (h3.set k (.ins C (putN n d fs))) else .bad
      | _ => .bad)
    | _ => .bad
theorem ss_fld {ok : Nat → Bool} {k : Nat} {fl : Str} {g : SemE} {pos' : Pos} (he : SE X ct W o f) (hv : SE X ct W e g) (hf : ct.nm k = fl) (hok : ∀ C, ok C = true → Cls X.K (ct.ca C) ∧ NoAttr X.K (ct.ca C) fl)
    (hs : swapsWith e (some (.Attribute o fl pos')) pos.line X.env = pure false := by rfl) : SS X ct W (.Assign [.Attribute o fl pos'] e pos) (sFd ok k f g) := by
  subst hf
  exact PS.imp (ps_fld he hv hs) fun D σV H ⟨m, ah, σ, hr, lr, p⟩ => ⟨m, ah, σ, hr, lr, (PoS.bind (R := VlR X.K ct) lr p).imp fun y H1 ⟨m1, h1, y', hr1, e1, r1, p1⟩ => by
    dsimp only at p1
    cases q : toD y' h1 with
    | none => rw [q] at p1; exact p1.elim
    | some z =>
      obtain ⟨d, h2⟩ := z
      rw [q] at p1
      dsimp only at p1
      obtain ⟨hr2, e2, r2⟩ := toD_sound hr1 q r1
      have l2 := (lr.ext e1).ext e2
      refine ⟨m1, h2, σ, hr2, l2, (PoS.bind (R := VlR X.K ct) l2 (PoS.ext (r := sb (f σ h2) σ fun x h3 => _) p1 e2)).imp fun x H2 ⟨m3, h3, x', hr3, e3, r3, p3⟩ => ?_⟩
      dsimp only at p3
      split at p3
      · rename_i k0
        split at p3
        · rename_i C fs hk
          split at p3
          · rename_i hc
            obtain ⟨a, ha, rfl⟩ := r3
            obtain ⟨u, h4, h5⟩ := hr3.ob k0 a _ ha hk
            cases h5 with
            | ins t =>
              have t2 := putN_drf (n := k) (r2.mono e3.kp) t
              obtain ⟨hr6, e6⟩ := hr3.write ha hk (by simp) (OR.ins t2)
              refine ⟨a, _, _, _, rfl, h4, (hok C hc.1).1, (hok C hc.1).2, by rw [← t.length]; exact Nat.lt_trans hc.2 (by decide), ?_⟩
              exact p3 m3 _ σV hr6 e6 ((l2.ext e3).ext e6)
          · exact p3.elim
        · exact p3.elim
      · exact p3.elim⟩
/-- o.m(..) of an instance of class C -/
def eMe (call : CallT) (i C : Nat) (ds : List D) (f : SemE) (fs : SemA) : SemE := fun σ h => rb (f σ h) fun x h1 => match insOf x h1 with
  | some (C', _) => if C' = C then rb (fs σ h1) fun xs h2 => call i (x :: (xs ++ ds.map Vl.d)) h2 else .bad
  | none => .bad
theorem se_meth {mm : Str} {C : Nat} {pl : Sem Bool} (co : CallOk X.prog X.w X.K X.mg X.base ct fns call n) (tk : Takes X W) (hr : Room (2 * n + 1) X.A) (hF : fns[i]? = some F) (he : SE X ct W o f) (c : Cls X.K (ct.ca C)) (hm : Meth X.K (ct.ca C) mm F.f) (hn : ∀ n, ct.nm n ≠ mm)
    (hb : Binds X.K F.fd F.ps dus) (hd : Vals dvs dus) (hq : Dfl X.K ct ds dvs) (ha : SA X ct W (e :: es) fs)
    (hst : starEach (e :: es) X.env = (false, eval e X.env) :: starEach es X.env := by rfl) (hpl : (backTo pos (starEach es X.env)).any (·.1) = false := by rfl)
    (ht : eval (.Call (.Attribute o mm apos) (e :: es) [] pos) X.env = (do
      let ov ← eval o X.env
      standAt apos.atName
      let (f, first) ← holding [ov] (getMethod ov mm pl)
      callWith pos f first (backTo pos (starEach (e :: es) X.env)) (backToKw pos (keywordEach [] X.env))) := by rfl) :
    SE X ct W (.Call (.Attribute o mm apos) (e :: es) [] pos) (eMe call i C ds f fs) := by
  refine ⟨fun pins s σV H Q I ⟨m, ah, σ, hr0, lr, p⟩ => ?_⟩
  refine PySem.W.methodCall_KW (pl := pl) (thn (he.run pins s σV H _ I ⟨m, ah, σ, hr0, lr, Po.bind (R := VlR X.K ct) p⟩) fun u s1 ⟨v, H1, I1, rx, m1, h1, x, hr1, e1, r1, p1⟩ => ?_) ht
  dsimp only at p1
  cases q : insOf x h1 with
  | none => rw [q] at p1; exact p1.elim
  | some z =>
    obtain ⟨C', fl⟩ := z
    rw [q] at p1
    dsimp only at p1
    split at p1
    · rename_i hC
      subst hC
      obtain ⟨a, dx, vs, rfl, h2, r2⟩ := ins_of hr1 q r1
      obtain rfl : u = Value.ref a := rx
      refine getmeth_ok I1 h2 c hm (lookup_none hn r2) ?_
      refine PySem.W.callWith_K (first := [.ref a]) (h₀ := X.base) I.ok.mod.kin hm.kp (thn (ha.run pos pins s1 σV H1 _ I1 ⟨m1, h1, σ, hr1, lr.ext e1, Po.bind (R := VlRs X.K ct) p1⟩) fun us s2 ⟨ws, H2, I2, r, m2, h2', xs, hr2, e2, r3, p2⟩ => ⟨I2.kIn, ?_⟩) hst hpl
      exact run_cl (us := .ref a :: us) (vs := .ref a :: ws) co hF hr hb hd tk I2 (.cons rfl r) ⟨m2, h2', _, hr2, .cons (r1.ext e2) (r3.append (hq _ _ _)), Po.stil p2⟩
    · exact p1.elim
theorem se_meth0 {mm : Str} {C : Nat} {pl : Sem Bool} (co : CallOk X.prog X.w X.K X.mg X.base ct fns call n) (tk : Takes X W) (hr : Room (2 * n + 1) X.A) (hF : fns[i]? = some F) (he : SE X ct W o f) (c : Cls X.K (ct.ca C)) (hm : Meth X.K (ct.ca C) mm F.f) (hn : ∀ n, ct.nm n ≠ mm)
    (hb : Binds X.K F.fd F.ps dus) (hd : Vals dvs dus) (hq : Dfl X.K ct ds dvs)
    (ht : eval (.Call (.Attribute o mm apos) [] [] pos) X.env = (do
      let ov ← eval o X.env
      standAt apos.atName
      let (f, first) ← holding [ov] (getMethod ov mm pl)
      callWith pos f first (backTo pos (starEach [] X.env)) (backToKw pos (keywordEach [] X.env))) := by rfl) :
    SE X ct W (.Call (.Attribute o mm apos) [] [] pos) (eMe call i C ds f aNil) := by
  refine ⟨fun pins s σV H Q I ⟨m, ah, σ, hr0, lr, p⟩ => ?_⟩
  refine PySem.W.methodCall_KW (pl := pl) (thn (he.run pins s σV H _ I ⟨m, ah, σ, hr0, lr, Po.bind (R := VlR X.K ct) p⟩) fun u s1 ⟨v, H1, I1, rx, m1, h1, x, hr1, e1, r1, p1⟩ => ?_) ht
  dsimp only at p1
  cases q : insOf x h1 with
  | none => rw [q] at p1; exact p1.elim
  | some z =>
    obtain ⟨C', fl⟩ := z
    rw [q] at p1
    dsimp only at p1
    split at p1
    · rename_i hC
      subst hC
      obtain ⟨a, dx, vs, rfl, h2, r2⟩ := ins_of hr1 q r1
      obtain rfl : u = Value.ref a := rx
      refine getmeth_ok I1 h2 c hm (lookup_none hn r2) ?_
      refine PySem.W.callWith_K0 (first := [.ref a]) I1.kIn hm.kp ?_
      exact run_cl (us := [.ref a]) (vs := [.ref a]) co hF hr hb hd tk I1 (.cons rfl .nil) ⟨m1, h1, _, hr1, .cons r1 (VlRs.append .nil (hq _ _ _)), Po.stil p1⟩
    · exact p1.elim
/-- C(..) -/
def mkI (call : CallT) (i C : Nat) (xs : List Vl) (h : Hs) : Res Vl := match call i (.r h.length :: xs) (h ++ [.ins C []]) with
  | .ok (.d .non) h2 => (match h2[h.length]? with
    | some (.ins C' fs) => .ok (.d (.ins C' fs)) (h2.take h.length)
    | _ => .bad)
  | .exc e h2 => .exc e (h2.take h.length)
  | _ => .bad
def eMk (call : CallT) (i C : Nat) (ds : List D) (fs : SemA) : SemE := fun σ h => rb (fs σ h) fun xs h1 => mkI call i C (xs ++ ds.map Vl.d) h1
theorem run_makeS {pins : List (Addr × Obj)} {σ : L2.St} {H : Hp} {s : Shared} {Q : VK} {us : List Value} {vs : List V} {C f : Addr} {k : Nat} {fd : FuncData} {ps : List Str} {sp : Sp} {CX : CXT} {E : XK} (M : Mk X.K C f) (F : FnOk X.prog X.w X.K X.mg X.base CX k f fd ps sp) (hr : Room (k + 1) X.A) (hb : Binds X.K fd ps dus) (hd : Vals dvs dus)
    (hx : PassesAt CX X σ E) (I : Inv X pins σ H s) (r : Vals vs us)
    (h : ∀ x dx, H x = none → H dx = none → dx ≠ x → sp (.ref x :: (vs ++ dvs)) (upd (upd H dx (.own x)) x (.ins C dx [])) (fun v H2 => v = .non ∧ Q (.ref x) H2) E) :
    wpAny (model X.prog X.w) X.A (PySem.call (.ref C) us) (EP X pins σ Q) X.xe s := by
  have hq := h (s.heap.objs.size + 1) s.heap.objs.size (I.hok.fresh (Nat.le_succ _)) (I.hok.fresh (Nat.le_refl _)) (Nat.ne_of_lt (Nat.lt_succ_self _))
  have I2 := Inv.made (C := C) I
  have r2 : Vals (V.ref (s.heap.objs.size + 1) :: (vs ++ dvs)) (Value.ref (s.heap.objs.size + 1) :: (us ++ dus)) := .cons rfl (r.append hd)
  have hl : (Value.ref (s.heap.objs.size + 1) :: us ++ dus).length = ps.length := by
    have e := r2.length
    rw [F.len _ _ _ _ hq] at e
    exact e.symm
  refine wpAny_call (make_map (f := f) I.kIn M.makes M.init (beq_iff_eq.mp M.fn) (codeAny_mono (F.run _ X.stack _ _ ⟨Value.ref (s.heap.objs.size + 1) :: us, []⟩ (Value.ref (s.heap.objs.size + 1) :: (us ++ dus)) _ _ E (hr.make C us [])
    (I2.env0.make C us []) (hb _ (Value.ref (s.heap.objs.size + 1) :: us) I2.kIn hl) r2 hq) fun r s' hq' => ?_))
  cases r with
  | error e => exact hx pins _ _ e s' I2 hq'
  | ok fl =>
    cases fl with
    | ret u =>
      obtain ⟨v, H', I3, rv, ev, q3⟩ := I2.after hq'
      subst ev
      exact ⟨rv, ⟨V.ref (s.heap.objs.size + 1), H', I3, rfl, q3⟩⟩
    | next => exact False.elim hq'
    | brk => exact False.elim hq'
    | cont => exact False.elim hq'
theorem mkI_sound {K : PySem.W.Frag} {m : List Addr} {ah : Hs} {H : Hp} {xs : List Vl} {vs : List V} {Q : VK} {E : XK} {C : Nat} (hr : HR K ct m ah H) (rs : VlRs K ct m ah H xs vs) (p : Po K ct (fun c d _ H' => E c d H') [] (VlR K ct) m ah H (mkI call i C xs ah) Q) :
    ∀ x dx, H x = none → H dx = none → dx ≠ x → spC K ct call i (.ref x :: vs) (upd (upd H dx (.own x)) x (.ins (ct.ca C) dx [])) (fun v H2 => v = .non ∧ Q (.ref x) H2) E := by
  intro x dx hx hdx ne
  obtain ⟨hr1, e1⟩ := hr.more (upd_more (o := .own x) hdx)
  have hx1 : upd H dx (.own x) x = none := by rw [upd_ne ne.symm]; exact hx
  obtain ⟨hr2, e2⟩ := hr1.alloc hx1 (OR.ins (ct := ct) (C := C) (dx := dx) .nil)
  have e12 := e1.trans e2
  refine ⟨_, _, .r ah.length :: xs, hr2, .cons ⟨x, at_new hr1, rfl⟩ (rs.ext e12), ?_⟩
  unfold mkI at p
  cases q : call i (.r ah.length :: xs) (ah ++ [.ins C []]) with
  | bad => rw [q] at p; exact p.elim
  | exc ex h2 =>
    rw [q] at p
    refine fun m3 H3 c d hr3 e3 x3 => ?_
    obtain ⟨hr4, e4⟩ := HR.trim' hr hr3 (e12.trans e3)
    refine p m H3 c d hr4 e4 ?_
    obtain ⟨x1, ws, x2, x3⟩ := x3
    have kp := (hr3.trim m.length).2
    obtain ⟨t, rfl⟩ := (e12.trans e3).pre
    rw [List.take_left' rfl, hr.len] at kp
    exact ⟨x1, ws, x2.mono kp, x3.imp id fun ⟨dx, y1, y2, y3⟩ => ⟨dx, y1, (kp _ _ y2 y3).1, (kp _ _ y2 y3).2⟩⟩
  | ok v h2 =>
    rw [q] at p
    cases v with
    | r k => exact p.elim
    | d v =>
      cases v with
      | non =>
        dsimp only at p
        refine fun m3 H3 w hr3 e3 rw3 => ?_
        cases rw3
        refine ⟨rfl, ?_⟩
        have hx3 : m3[ah.length]? = some x := e3.at (at_new hr1)
        cases q2 : h2[ah.length]? with
        | none => rw [q2] at p; exact p.elim
        | some o =>
          rw [q2] at p
          cases o with
          | ins C' fs =>
            dsimp only at p
            obtain ⟨u, h4, h5⟩ := hr3.ob _ x _ hx3 q2
            cases h5 with
            | ins t =>
              obtain ⟨hr4, e4⟩ := HR.trim' hr hr3 (e12.trans e3)
              have kp := (hr3.trim m.length).2
              obtain ⟨tt, et⟩ := (e12.trans e3).pre
              rw [et, List.take_left' rfl, hr.len, ← et] at kp
              refine p m H3 (.ref x) hr4 e4 (.ins h4 (fun ⟨j, o, f1, f2, f3⟩ => ?_) (t.mono kp))
              have := hr3.inj _ _ _ ((e12.trans e3).at f1) hx3
              have hj := (List.getElem?_eq_some_iff.mp f1).1
              rw [hr.len] at hj
              omega
          | _ => exact p.elim
      | _ => exact p.elim
theorem se_make {C : Nat} (co : CallOk X.prog X.w X.K X.mg X.base ct fns call n) (tk : Takes X W) (hr : Room (2 * n + 2) X.A) (hF : fns[i]? = some F) (M : Mk X.K (ct.ca C) F.f) (hg : Gl X x) (hm : X.mg x = some (.ref (ct.ca C))) (hb : Binds X.K F.fd F.ps dus) (hd : Vals dvs dus) (hq : Dfl X.K ct ds dvs)
    (ha : SA X ct W (e :: es) fs) (hdb : (x == ("__debug__" : Str)) = false := by decide) (he : starEach (e :: es) X.env = (false, eval e X.env) :: starEach es X.env := by rfl) (hpl : (backTo pos (starEach es X.env)).any (·.1) = false := by rfl) :
    SE X ct W (.Call (.Name x p) (e :: es) [] pos) (eMk call i C ds fs) := by
  refine ⟨fun pins s σV H Q I ⟨m, ah, σ, hr0, lr, p⟩ => ?_⟩
  refine wpAny_Call_Name_kw (ld_glob I hg hm ?_ hdb)
  refine PySem.W.callWith_K (h₀ := X.base) I.ok.mod.kin M.kp (thn (ha.run pos pins s σV H _ I ⟨m, ah, σ, hr0, lr, Po.bind (R := VlRs X.K ct) p⟩) fun us s1 ⟨vs, H1, I1, r, m1, h1, xs, hr1, e1, r1, p1⟩ => ⟨I1.kIn, ?_⟩) he hpl
  exact run_makeS (E := WE W σV) M (co.ok i F hF) hr hb hd (passAt tk σV) I1 r (mkI_sound hr1 (r1.append (hq _ _ _)) (Po.stil p1))
theorem se_make0 {C : Nat} (co : CallOk X.prog X.w X.K X.mg X.base ct fns call n) (tk : Takes X W) (hr : Room (2 * n + 2) X.A) (hF : fns[i]? = some F) (M : Mk X.K (ct.ca C) F.f) (hg : Gl X x) (hm : X.mg x = some (.ref (ct.ca C))) (hb : Binds X.K F.fd F.ps dus) (hd : Vals dvs dus) (hq : Dfl X.K ct ds dvs)
    (hdb : (x == ("__debug__" : Str)) = false := by decide) : SE X ct W (.Call (.Name x p) [] [] pos) (eMk call i C ds aNil) := by
  refine ⟨fun pins s σV H Q I ⟨m, ah, σ, hr0, lr, p⟩ => ?_⟩
  refine wpAny_Call_Name_kw (ld_glob I hg hm ?_ hdb)
  refine PySem.W.callWith_K0 I.kIn M.kp ?_
  exact run_makeS (us := []) (vs := []) (E := WE W σV) M (co.ok i F hF) hr hb hd (passAt tk σV) I .nil (mkI_sound hr0 (VlRs.append .nil (hq _ _ _)) (Po.stil p))
end
end Mi

/-! Mi7: list comprehensions -/
namespace Mi
open PySem PySem.Spec L2

def wipeL (σ : Lo) : List Nat → Lo
  | [] => σ
  | v :: vs => (wipeL σ vs).set v none
abbrev W0 : WX := fun _ _ _ _ => False
section
variable {K : PySem.W.Frag} {ct : CT} {m : List Addr} {ah : Hs} {H : Hp}
theorem LR.none {σ : Lo} {σV : L2.St} (lr : LR K ct m ah H σ σV) (i : Nat) : LR K ct m ah H (σ.set i Option.none) (σV.set i Option.none) := by
  refine ⟨by rw [List.length_set, List.length_set, lr.len], fun j y hy => ?_⟩
  by_cases e : i = j
  · subst e
    by_cases hi : i < σ.length
    · rw [List.getElem?_set_self hi] at hy; cases hy
    · rw [List.getElem?_eq_none (by rw [List.length_set]; omega)] at hy; cases hy
  · rw [List.getElem?_set_ne e] at hy ⊢
    exact lr.at_ j y hy
theorem LR.wipe {σ : Lo} {σV : L2.St} (lr : LR K ct m ah H σ σV) : ∀ vs : List Nat, LR K ct m ah H (wipeL σ vs) (L2.wipe σV vs)
  | [] => lr
  | v :: vs => (LR.wipe lr vs).none v
theorem wipe_set {σV : L2.St} {i : Nat} {x : Option V} : ∀ {vs : List Nat}, L2.wipe (σV.set i x) vs = if i ∈ vs then L2.wipe σV vs else (L2.wipe σV vs).set i x
  | [] => by simp [L2.wipe]
  | v :: vs => by
    unfold L2.wipe
    rw [wipe_set (vs := vs)]
    by_cases h : i ∈ vs
    · rw [if_pos h, if_pos (List.mem_cons_of_mem _ h)]
    · rw [if_neg h]
      by_cases e : i = v
      · subst e
        rw [if_pos List.mem_cons_self, List.set_set]
      · rw [if_neg (by simp [e, h])]
        rw [List.set_comm _ _ e]
end
/-! ### targets of a block's own names -/
def PoGc (K : PySem.W.Frag) (ct : CT) (vs : List Nat) (σ0 : L2.St) (m : List Addr) (ah : Hs) (H : Hp) (o : Option (Lo × Hs)) (Q : L2.St → Hp → Prop) : Prop := match o with
  | some (σ', h) => ∀ m' H' σV', HR K ct m' h H' → Ext m ah H m' h H' → LR K ct m' h H' σ' σV' → L2.wipe σV' vs = L2.wipe σ0 vs → Q σV' H'
  | none => False
def rdGc (K : PySem.W.Frag) (ct : CT) (vs : List Nat) (g : SemG) : TG := fun v σV H Q => ∃ m ah σ x, HR K ct m ah H ∧ LR K ct m ah H σ σV ∧ VlR K ct m ah H x v ∧ PoGc K ct vs σV m ah H (g x σ ah) Q
def rdGsc (K : PySem.W.Frag) (ct : CT) (vs : List Nat) (g : SemGs) : TGs := fun ws σV H Q => ∃ m ah σ xs, HR K ct m ah H ∧ LR K ct m ah H σ σV ∧ DRs K ct (Sf m ah) H xs ws ∧ PoGc K ct vs σV m ah H (g xs σ ah) Q
abbrev SGc (X : Cx) (ct : CT) (vs : List Nat) (e : Expr) (g : SemG) : Prop := PG X e (rdGc X.K ct vs g)
abbrev SGsc (X : Cx) (ct : CT) (vs : List Nat) (e : List Expr) (g : SemGs) : Prop := PGs X e (rdGsc X.K ct vs g)
section
variable {X : Cx} {ct : CT} {pos : Pos} {e : Expr} {es : List Expr} {g : SemG} {gs : SemGs} {vs : List Nat}
theorem sgc_name {i : Nat} {x : Str} (hN : X.N.Nodup) (hi : X.N[i]? = some x) (hx : Loc X.env.scope x) (hm : i ∈ vs) (hf : X.fn x = true ∨ X.env.scope.names.lookup x = some .local := by first | exact .inl rfl | exact .inr rfl | assumption) : SGc X ct vs (.Name x pos) (gNm i) :=
  PG.imp (pg_name hN hi hx hf) fun v σV H Q ⟨m, ah, σ, x, hr, lr, r, p⟩ => p m H _ hr (Ext.refl _ _ _) (lr.set r i) (by rw [wipe_set, if_pos hm])
theorem sgsc_nil : SGsc X ct vs [] gNi := PGs.imp pgs_nil fun ws σV H Q ⟨m, ah, σ, xs, hr, lr, r, p⟩ => by
  unfold gNi at p
  split at p
  · cases r
    exact ⟨rfl, p m H _ hr (Ext.refl _ _ _) lr rfl⟩
  · exact p.elim
theorem sgsc_cons (h1 : SGc X ct vs e g) (h2 : SGsc X ct vs es gs) (hs : (assignEach (e :: es) X.env).map (·.2) = assign e X.env :: (assignEach es X.env).map (·.2) := by rfl) : SGsc X ct vs (e :: es) (gCo g gs) :=
  PGs.imp (pgs_cons h1 h2 hs) fun ws σV H Q ⟨m, ah, σ, xs, hr, lr, r, p⟩ => by
    unfold gCo at p
    split at p
    · cases r with
      | cons r t =>
        refine ⟨_, _, rfl, m, ah, σ, .d _, hr, lr, r, ?_⟩
        cases q : g (.d _) σ ah with
        | none => rw [q] at p; exact p.elim
        | some z =>
          obtain ⟨σ', h'⟩ := z
          rw [q] at p
          refine fun m2 H2 σ2 h2 e2 l2 w2 => ⟨m2, h', σ', _, h2, l2, t.mono e2.kp, ?_⟩
          dsimp only [Option.bind_some] at p
          revert p
          cases gs _ σ' h' with
          | none => exact fun p => p.elim
          | some z => exact fun p m3 H3 σ3 h3 e3 l3 w3 => p m3 H3 σ3 h3 (e2.trans e3) l3 (w3.trans w2)
    · exact p.elim
theorem sgc_tup {k n : Nat} (hc : X.calm = true) (h : SGsc X ct vs es gs) (hn : (assignEach es X.env).length = n := by rfl) (hst : (assignEach es X.env).findIdx? (·.1) = none := by rfl) : SGc X ct vs (.Tuple es k pos) (gTp n gs) :=
  PG.imp (pg_tup hc h hn hst) fun v σV H Q ⟨m, ah, σ, x, hr, lr, r, p⟩ => by
    unfold gTp at p
    split at p
    · obtain ⟨l, ws, rfl, h1, r1⟩ := tup_of r
      split at p
      · rename_i hl
        exact ⟨l, ws, rfl, h1, by rw [← r1.length]; exact hl, m, ah, σ, _, hr, lr, r1, p⟩
      · exact p.elim
    · exact p.elim
end
/-! ### the tests of a clause -/
abbrev SPT (X : Cx) (ct : CT) (W : WX) (es : List Expr) (f : SemT) : Prop := PTs X es (rdT X.K ct W f)
theorem PTs.imp {X : Cx} {e : List Expr} {t t' : TT} (h : PTs X e t) (i : ∀ σ H Q, t' σ H Q → t σ H Q) : PTs X e t' := ⟨fun pins s σ H Q I q => h.run pins s σ H Q I (i _ _ _ q)⟩
def tYs : SemT := fun _ h => .ok true h
theorem spt_nil {X : Cx} {ct : CT} {W : WX} : SPT X ct W [] tYs := PTs.imp pts_nil fun σV H Q ⟨m, ah, σ, hr, lr, p⟩ => p m H true hr (Ext.refl _ _ _) rfl
theorem spt_one {X : Cx} {ct : CT} {W : WX} {c : Expr} {t : SemT} (h : ST X ct W c t) : SPT X ct W [c] t := pts_one h

/-! ### what is made -/
def cmpAdd (n0 : Nat) (y : Vl) (h : Hs) : Option Hs := match toD y h with
  | some (d, h') => (match h'[n0]? with
    | some (.lst acc) => if acc.length < sizeLine then some ((h'.set n0 (.lst (acc ++ [d]))).take (n0 + 1)) else none
    | _ => none)
  | none => none
def cmpL (vs : List Nat) (g : SemG) (t : SemT) (f : SemE) (n0 : Nat) : List D → Lo → Hs → Option Hs
  | [], _, h => some h
  | d :: ds, σ, h => match g (.d d) (wipeL σ vs) h with
    | none => none
    | some (σ1, h1) => match t σ1 h1 with
      | .ok b h2 => if b = true then (match f σ1 h2 with
          | .ok y h3 => (match cmpAdd n0 y h3 with
            | some h4 => cmpL vs g t f n0 ds σ h4
            | none => none)
          | _ => none)
        else cmpL vs g t f n0 ds σ (h2.take (n0 + 1))
      | _ => none
def lcEnd (mu : Bool) (n0 : Nat) (h : Hs) : Res Vl := match mu with
  | true => .ok (.r n0) h
  | false => (match h[n0]? with
    | some (.lst acc) => .ok (.d (.lv acc)) (h.take n0)
    | _ => .bad)
def eLc (mu : Bool) (vs : List Nat) (it : SemI) (g : SemG) (t : SemT) (f : SemE) : SemE := fun σ h => rb (it σ h) fun ds h1 => match cmpL vs g t f h1.length ds σ (h1 ++ [.lst []]) with
  | some h2 => lcEnd mu h1.length h2
  | none => .bad
/-- [f for g in it if t for g1 in it1 if t1] -/
def cm2L (vs vs1 : List Nat) (g : SemG) (t : SemT) (it1 : SemI) (g1 : SemG) (t1 : SemT) (f : SemE) (n0 : Nat) : List D → Lo → Hs → Option Hs
  | [], _, h => some h
  | d :: ds, σ, h => match g (.d d) (wipeL σ vs) h with
    | none => none
    | some (σ1, h1) => match t σ1 h1 with
      | .ok b h2 => if b = true then (match it1 σ1 h2 with
          | .ok es h3 => (match cmpL vs1 g1 t1 f n0 es (clr (n0 + 1) σ1) (h3.take (n0 + 1)) with
            | some h4 => cm2L vs vs1 g t it1 g1 t1 f n0 ds σ h4
            | none => none)
          | _ => none)
        else cm2L vs vs1 g t it1 g1 t1 f n0 ds σ (h2.take (n0 + 1))
      | _ => none
def eLc2 (mu : Bool) (vs vs1 : List Nat) (it : SemI) (g : SemG) (t : SemT) (it1 : SemI) (g1 : SemG) (t1 : SemT) (f : SemE) : SemE := fun σ h => rb (it σ h) fun ds h1 => match cm2L vs vs1 g t it1 g1 t1 f h1.length ds σ (h1 ++ [.lst []]) with
  | some h2 => lcEnd mu h1.length h2
  | none => .bad

section
variable {K : PySem.W.Frag} {ct : CT} {m m' : List Addr} {ah ah' : Hs} {H H' : Hp}
/-- one more -/
theorem cmpAdd_sound {Dd : Addr} {h : Hs} (hr1 : HR K ct m ah H) (hrA : HR K ct (m ++ [Dd]) ah' H') {m5 : List Addr} {h5 : Hs} {H5 : Hp} (hr5 : HR K ct m5 h5 H5) (e5 : Ext (m ++ [Dd]) ah' H' m5 h5 H5) (hl : ah'.length = ah.length + 1) {y : Vl} {v : V} (r : VlR K ct m5 h5 H5 y v) (q : cmpAdd ah.length y h5 = some h) :
    ∃ acc, H5 Dd = some (.lst acc) ∧ acc.length < sizeLine ∧ HR K ct (m ++ [Dd]) h (upd H5 Dd (.lst (acc ++ [v]))) ∧ Ext (m ++ [Dd]) ah' H' (m ++ [Dd]) h (upd H5 Dd (.lst (acc ++ [v]))) := by
  unfold cmpAdd at q
  cases q1 : toD y h5 with
  | none => rw [q1] at q; cases q
  | some z =>
    obtain ⟨d, h6⟩ := z
    rw [q1] at q
    dsimp only at q
    obtain ⟨hr6, e6, r6⟩ := toD_sound hr5 q1 r
    have hD : m5[ah.length]? = some Dd := e5.at (at_new hr1)
    cases q2 : h6[ah.length]? with
    | none => rw [q2] at q; cases q
    | some o =>
      rw [q2] at q
      cases o with
      | lst acc =>
        dsimp only at q
        split at q
        · rename_i hz
          cases q
          obtain ⟨u, hu, ou⟩ := hr6.ob _ _ _ hD q2
          cases ou with
          | lst t =>
            obtain ⟨hr7, e7⟩ := hr6.write hD q2 (by simp) (OR.lst (t.append (.cons r6 .nil)))
            obtain ⟨hr8, e8⟩ := HR.trim' hrA hr7 ((e5.trans e6).trans e7)
            rw [hl] at hr8 e8
            exact ⟨_, hu, by rw [← t.length]; exact hz, hr8, e8⟩
        · cases q
      | _ => cases q
/-- the list is made -/
theorem lcEnd_sound {W : WX} {σV : L2.St} {Dd : Addr} {h : Hs} {mu : Bool} {Q : VK} (hr1 : HR K ct m ah H) (hD : H Dd = none) (hr : HR K ct (m ++ [Dd]) h H') (e : Ext m ah H (m ++ [Dd]) h H') (p : Po K ct W σV (VlR K ct) m ah H (lcEnd mu ah.length h) Q) : Q (.ref Dd) H' := by
  cases mu with
  | true => exact p _ H' _ hr e ⟨Dd, at_new hr1, rfl⟩
  | false =>
    unfold lcEnd at p
    dsimp only at p
    cases q : h[ah.length]? with
    | none => rw [q] at p; exact p.elim
    | some o =>
      rw [q] at p
      cases o with
      | lst acc =>
        dsimp only at p
        obtain ⟨u, hu, ou⟩ := hr.ob _ _ _ (at_new hr1) q
        cases ou with
        | lst t =>
          obtain ⟨hr2, e2⟩ := HR.trim' hr1 hr e
          have kp := (hr.trim m.length).2
          rw [List.take_left' rfl, hr1.len] at kp
          exact p m H' _ hr2 e2 (.lv hu (fun ⟨j, o, f1, f2, f3⟩ => hr1.fresh hD j f1) (t.mono kp))
      | _ => exact p.elim
end

section
variable {X : Cx} {ct : CT} {W : WX} {pos : Pos} {it it1 : SemI} {g g1 : SemG} {t t1 : SemT} {f : SemE} {vs vs1 : List Nat} {mu : Bool}
theorem wipe_wipe (σV : L2.St) (us : List Nat) : L2.wipe (L2.wipe σV us) us = L2.wipe σV us := by
  have key : ∀ (us : List Nat) (τ : L2.St), (∀ v ∈ us, τ[v]? = none ∨ τ[v]? = some Option.none) → L2.wipe τ us = τ := by
    intro us
    induction us with
    | nil => intro τ _; rfl
    | cons v us ih =>
      intro τ hτ
      unfold L2.wipe
      rw [ih τ fun w hw => hτ w (List.mem_cons_of_mem _ hw)]
      rcases hτ v List.mem_cons_self with z | z
      · rw [List.set_eq_of_length_le (List.getElem?_eq_none_iff.mp z)]
      · apply List.ext_getElem?
        intro j
        by_cases e : v = j
        · subst e; rw [List.getElem?_set_self (List.getElem?_eq_some_iff.mp z).1, z]
        · rw [List.getElem?_set_ne e]
  refine key us _ fun v hv => ?_
  cases e : (L2.wipe σV us)[v]? with
  | none => exact .inl rfl
  | some o =>
    cases o with
    | none => exact .inr rfl
    | some y => exact absurd hv (wipe_some e).2
theorem rd_lc {σV : L2.St} {H : Hp} {Q : VK} (h : rdE X.K ct W (eLc mu vs it g t f) σV H Q) : tLc (rdI X.K ct W it) (rdGc X.K ct vs g) (rdT X.K ct W0 t) (rdE X.K ct W0 f) vs σV H Q := by
  obtain ⟨m, ah, σ, hr, lr, p⟩ := h
  refine ⟨m, ah, σ, hr, lr, (Po.bind (R := fun m1 h1 H1 ds J => Wks X.K ct ds m1 h1 H1 J) p).imp fun J H1 ⟨m1, h1, ds, hr1, e1, w1, p1⟩ Dd hD => ?_⟩
  dsimp only at p1 w1
  cases q : cmpL vs g t f h1.length ds σ (h1 ++ [.lst []]) with
  | none => rw [q] at p1; exact p1.elim
  | some hE =>
    rw [q] at p1
    dsimp only at p1
    obtain ⟨hrA, eA⟩ := hr1.alloc hD (OR.lst (ct := ct) .nil)
    have lrA := (lr.ext e1).ext eA
    refine ⟨fun i n H => n = ds.length - i ∧ i ≤ ds.length ∧ ∃ h2, HR X.K ct (m1 ++ [Dd]) h2 H ∧ Ext (m1 ++ [Dd]) (h1 ++ [.lst []]) (upd H1 Dd (.lst [])) (m1 ++ [Dd]) h2 H ∧ cmpL vs g t f h1.length (ds.drop i) σ h2 = some hE,
      ⟨ds.length, by simp, Nat.zero_le _, _, hrA, Ext.refl _ _ _, by rw [List.drop_zero]; exact q⟩, ?_⟩
    rintro i n H2 ⟨rfl, hi, h2, hr2, e2, q2⟩
    obtain ⟨ws, wg⟩ := w1 _ h2 H2 hr2 (eA.trans e2).kp
    by_cases hlt : i < ds.length
    · rw [List.drop_eq_getElem_cons hlt] at q2
      obtain ⟨go, wy⟩ := wg i _ (List.getElem?_eq_getElem hlt)
      refine .inr ⟨go, fun H3 => ∃ h3, HR X.K ct (m1 ++ [Dd]) h3 H3 ∧ Ext (m1 ++ [Dd]) (h1 ++ [.lst []]) (upd H1 Dd (.lst [])) (m1 ++ [Dd]) h3 H3 ∧ cmpL vs g t f h1.length (ds.drop (i + 1)) σ h3 = some hE,
        fun H3 ⟨h3, a1, a2, a3⟩ => ⟨ds.length - (i + 1), by omega, rfl, hlt, h3, a1, a2, a3⟩, fun x H3 hy => ?_⟩
      obtain ⟨hr3, e3, rd⟩ := wy x H3 hy
      refine ⟨_, h2, _, .d _, hr3, ((lrA.ext e2).ext e3).wipe vs, rd, ?_⟩
      rw [cmpL] at q2
      cases q3 : g (.d ds[i]) (wipeL σ vs) h2 with
      | none => rw [q3] at q2; cases q2
      | some z =>
        obtain ⟨σ4, h4⟩ := z
        rw [q3] at q2
        dsimp only at q2
        refine fun m4 H4 σV4 hr4 e4 l4 w4 => ⟨w4.trans ?_, m4, h4, σ4, hr4, l4, ?_⟩
        · exact wipe_wipe _ _
        cases q4 : t σ4 h4 with
        | bad => rw [q4] at q2; cases q2
        | exc e h5 => rw [q4] at q2; cases q2
        | ok b h5 =>
          rw [q4] at q2
          dsimp only at q2
          refine fun m5 H5 b' hr5 e5 rb5 => ?_
          subst rb5
          have e25 := (e3.trans e4).trans e5
          cases b with
          | false =>
            rw [if_neg Bool.false_ne_true] at q2
            obtain ⟨hr6, e6⟩ := HR.trim' hr2 hr5 e25
            have hl : h2.length = h1.length + 1 := by rw [← hr2.len, ← hr1.len, List.length_append]; rfl
            rw [hl] at hr6 e6
            exact ⟨_, hr6, e2.trans e6, q2⟩
          | true =>
            rw [if_pos rfl] at q2
            refine ⟨m5, h5, σ4, hr5, l4.ext e5, ?_⟩
            cases q5 : f σ4 h5 with
            | bad => rw [q5] at q2; cases q2
            | exc e h6 => rw [q5] at q2; cases q2
            | ok y h6 =>
              rw [q5] at q2
              dsimp only at q2
              cases q6 : cmpAdd h1.length y h6 with
              | none => rw [q6] at q2; cases q2
              | some h7 =>
                rw [q6] at q2
                dsimp only at q2
                refine fun m6 H6 v hr6 e6 r6 => ?_
                have hl : h2.length = h1.length + 1 := by rw [← hr2.len, ← hr1.len, List.length_append]; rfl
                obtain ⟨acc, a1, a2, a3, a4⟩ := cmpAdd_sound hr1 hr2 hr6 (e25.trans e6) hl r6 q6
                exact ⟨acc, a1, a2, h7, a3, e2.trans a4, q2⟩
    · have e : i = ds.length := by omega
      subst e
      rw [List.drop_length, cmpL] at q2
      cases q2
      exact .inl ⟨ws _ (Nat.le_refl _), lcEnd_sound hr1 hD hr2 (eA.trans e2) p1⟩
theorem rd_lc2 {σV : L2.St} {H : Hp} {Q : VK} (h : rdE X.K ct W (eLc2 mu vs vs1 it g t it1 g1 t1 f) σV H Q) : tLc2 (rdI X.K ct W it) (rdGc X.K ct vs g) (rdT X.K ct W0 t) (rdI X.K ct W0 it1) (rdGc X.K ct vs1 g1) (rdT X.K ct W0 t1) (rdE X.K ct W0 f) vs vs1 σV H Q := by
  obtain ⟨m, ah, σ, hr, lr, p⟩ := h
  refine ⟨m, ah, σ, hr, lr, (Po.bind (R := fun m1 h1 H1 ds J => Wks X.K ct ds m1 h1 H1 J) p).imp fun J H1 ⟨m1, h1, ds, hr1, e1, w1, p1⟩ Dd hD => ?_⟩
  dsimp only at p1 w1
  cases q : cm2L vs vs1 g t it1 g1 t1 f h1.length ds σ (h1 ++ [.lst []]) with
  | none => rw [q] at p1; exact p1.elim
  | some hE =>
    rw [q] at p1
    dsimp only at p1
    obtain ⟨hrA, eA⟩ := hr1.alloc hD (OR.lst (ct := ct) .nil)
    have lrA := (lr.ext e1).ext eA
    refine ⟨fun i n H => n = ds.length - i ∧ i ≤ ds.length ∧ ∃ h2, HR X.K ct (m1 ++ [Dd]) h2 H ∧ Ext (m1 ++ [Dd]) (h1 ++ [.lst []]) (upd H1 Dd (.lst [])) (m1 ++ [Dd]) h2 H ∧ cm2L vs vs1 g t it1 g1 t1 f h1.length (ds.drop i) σ h2 = some hE,
      ⟨ds.length, by simp, Nat.zero_le _, _, hrA, Ext.refl _ _ _, by rw [List.drop_zero]; exact q⟩, ?_⟩
    rintro i n H2 ⟨rfl, hi, h2, hr2, e2, q2⟩
    have hl2 : h2.length = h1.length + 1 := by rw [← hr2.len, ← hr1.len, List.length_append]; rfl
    obtain ⟨ws, wg⟩ := w1 _ h2 H2 hr2 (eA.trans e2).kp
    by_cases hlt : i < ds.length
    · rw [List.drop_eq_getElem_cons hlt] at q2
      obtain ⟨go, wy⟩ := wg i _ (List.getElem?_eq_getElem hlt)
      refine .inr ⟨go, fun H3 => ∃ h3, HR X.K ct (m1 ++ [Dd]) h3 H3 ∧ Ext (m1 ++ [Dd]) (h1 ++ [.lst []]) (upd H1 Dd (.lst [])) (m1 ++ [Dd]) h3 H3 ∧ cm2L vs vs1 g t it1 g1 t1 f h1.length (ds.drop (i + 1)) σ h3 = some hE,
        fun H3 ⟨h3, a1, a2, a3⟩ => ⟨ds.length - (i + 1), by omega, rfl, hlt, h3, a1, a2, a3⟩, fun x H3 hy => ?_⟩
      obtain ⟨hr3, e3, rd⟩ := wy x H3 hy
      refine ⟨_, h2, _, .d _, hr3, ((lrA.ext e2).ext e3).wipe vs, rd, ?_⟩
      rw [cm2L] at q2
      cases q3 : g (.d ds[i]) (wipeL σ vs) h2 with
      | none => rw [q3] at q2; cases q2
      | some z =>
        obtain ⟨σ4, h4⟩ := z
        rw [q3] at q2
        dsimp only at q2
        refine fun m4 H4 σV4 hr4 e4 l4 w4 => ⟨w4.trans (wipe_wipe _ _), m4, h4, σ4, hr4, l4, ?_⟩
        cases q4 : t σ4 h4 with
        | bad => rw [q4] at q2; cases q2
        | exc e h5 => rw [q4] at q2; cases q2
        | ok b h5 =>
          rw [q4] at q2
          dsimp only at q2
          refine fun m5 H5 b' hr5 e5 rb5 => ?_
          subst rb5
          have e25 := (e3.trans e4).trans e5
          cases b with
          | false =>
            rw [if_neg Bool.false_ne_true] at q2
            obtain ⟨hr6, e6⟩ := HR.trim' hr2 hr5 e25
            rw [hl2] at hr6 e6
            exact ⟨_, hr6, e2.trans e6, q2⟩
          | true =>
            rw [if_pos rfl] at q2
            have l5 := l4.ext e5
            refine ⟨m5, h5, σ4, hr5, l5, ?_⟩
            cases q5 : it1 σ4 h5 with
            | bad => rw [q5] at q2; cases q2
            | exc e h6 => rw [q5] at q2; cases q2
            | ok es h6 =>
              rw [q5] at q2
              dsimp only at q2
              cases q6 : cmpL vs1 g1 t1 f h1.length es (clr (h1.length + 1) σ4) (h6.take (h1.length + 1)) with
              | none => rw [q6] at q2; cases q2
              | some h7 =>
                rw [q6] at q2
                dsimp only at q2
                refine fun m6 H6 J1 hr6 e6 w6 => ?_
                have e26 := e25.trans e6
                obtain ⟨hrB, eB⟩ := HR.trim' hr2 hr6 e26
                rw [hl2] at hrB eB
                have kpB : Kp (Sf m6 h6) H6 (Sf (m1 ++ [Dd]) (h6.take (h1.length + 1))) H6 := by
                  have := (hr6.trim (m1 ++ [Dd]).length).2
                  obtain ⟨tt, et⟩ := e26.pre
                  rw [et, List.take_left' rfl, hr2.len, hl2, ← et] at this
                  exact this
                have lB : LR X.K ct (m1 ++ [Dd]) (h6.take (h1.length + 1)) H6 (clr (h1.length + 1) σ4) σV4 := by
                  have := LR.clr hr6 e26 hr2.len (l5.ext e6)
                  rw [hl2] at this
                  exact this
                refine ⟨fun j k H => k = es.length - j ∧ j ≤ es.length ∧ ∃ h8, HR X.K ct (m1 ++ [Dd]) h8 H ∧ Ext (m1 ++ [Dd]) (h6.take (h1.length + 1)) H6 (m1 ++ [Dd]) h8 H ∧ cmpL vs1 g1 t1 f h1.length (es.drop j) (clr (h1.length + 1) σ4) h8 = some h7,
                  ⟨es.length, by simp, Nat.zero_le _, _, hrB, Ext.refl _ _ _, by rw [List.drop_zero]; exact q6⟩, ?_⟩
                rintro j k H8 ⟨rfl, hj, h8, hr8, e8, q8⟩
                obtain ⟨ws1, wg1⟩ := w6 _ h8 H8 hr8 (kpB.trans e8.kp)
                by_cases hlt1 : j < es.length
                · rw [List.drop_eq_getElem_cons hlt1] at q8
                  obtain ⟨go1, wy1⟩ := wg1 j _ (List.getElem?_eq_getElem hlt1)
                  refine .inr ⟨go1, fun H9 => ∃ h9, HR X.K ct (m1 ++ [Dd]) h9 H9 ∧ Ext (m1 ++ [Dd]) (h6.take (h1.length + 1)) H6 (m1 ++ [Dd]) h9 H9 ∧ cmpL vs1 g1 t1 f h1.length (es.drop (j + 1)) (clr (h1.length + 1) σ4) h9 = some h7,
                    fun H9 ⟨h9, a1, a2, a3⟩ => ⟨es.length - (j + 1), by omega, rfl, hlt1, h9, a1, a2, a3⟩, fun x1 H9 hy1 => ?_⟩
                  obtain ⟨hr9, e9, rd9⟩ := wy1 x1 H9 hy1
                  refine ⟨_, h8, _, .d _, hr9, ((lB.ext e8).ext e9).wipe vs1, rd9, ?_⟩
                  rw [cmpL] at q8
                  cases q9 : g1 (.d es[j]) (wipeL (clr (h1.length + 1) σ4) vs1) h8 with
                  | none => rw [q9] at q8; cases q8
                  | some z =>
                    obtain ⟨σA, hA⟩ := z
                    rw [q9] at q8
                    dsimp only at q8
                    refine fun mA HA σVA hrA' eA' lA' wA' => ⟨wA'.trans (wipe_wipe _ _), mA, hA, σA, hrA', lA', ?_⟩
                    have hl8 : h8.length = h1.length + 1 := by rw [← hr8.len, ← hr1.len, List.length_append]; rfl
                    cases qA : t1 σA hA with
                    | bad => rw [qA] at q8; cases q8
                    | exc e h5 => rw [qA] at q8; cases q8
                    | ok b hB =>
                      rw [qA] at q8
                      dsimp only at q8
                      refine fun mB HB b' hrB' eB' rb5 => ?_
                      subst rb5
                      have e9B := (e9.trans eA').trans eB'
                      cases b with
                      | false =>
                        rw [if_neg Bool.false_ne_true] at q8
                        obtain ⟨hrC, eC⟩ := HR.trim' hr8 hrB' e9B
                        rw [hl8] at hrC eC
                        exact ⟨_, hrC, e8.trans eC, q8⟩
                      | true =>
                        rw [if_pos rfl] at q8
                        refine ⟨mB, hB, σA, hrB', lA'.ext eB', ?_⟩
                        cases qB : f σA hB with
                        | bad => rw [qB] at q8; cases q8
                        | exc e h6 => rw [qB] at q8; cases q8
                        | ok y hC =>
                          rw [qB] at q8
                          dsimp only at q8
                          cases qC : cmpAdd h1.length y hC with
                          | none => rw [qC] at q8; cases q8
                          | some hD' =>
                            rw [qC] at q8
                            dsimp only at q8
                            refine fun mC HC v hrC eC rC => ?_
                            obtain ⟨acc, a1, a2, a3, a4⟩ := cmpAdd_sound hr1 hr8 hrC (e9B.trans eC) hl8 rC qC
                            exact ⟨acc, a1, a2, hD', a3, e8.trans a4, q8⟩
                · have e : j = es.length := by omega
                  subst e
                  rw [List.drop_length, cmpL] at q8
                  cases q8
                  exact .inl ⟨ws1 _ (Nat.le_refl _), _, hr8, e2.trans (eB.trans e8), q2⟩
    · have e : i = ds.length := by omega
      subst e
      rw [List.drop_length, cm2L] at q2
      cases q2
      exact .inl ⟨ws _ (Nat.le_refl _), lcEnd_sound hr1 hD hr2 (eA.trans e2) p1⟩
variable {elt tg iter tg1 iter1 : Expr} {ifs ifs1 : List Expr} {scope : Scope} {own : List (Str × Nat)}
abbrev BlkA (X : Cx) (scope : Scope) (φ : Cx → Prop) : Prop := ∀ (s : Shared) (H : Hp) (C : Addr) (cl : List (Str × Addr)) (fp : List Addr), φ (X.blk s H scope (compEnvC scope cl C X.env) fp)
theorem se_lc (mu : Bool) (hc : X.calm = true) (hN : X.N.Nodup) (hi : SI X ct W tg iter it) (ok : BlkOk X.N X.env.scope scope own) (hvs : own.map (·.2) = vs)
    (hg : BlkA X scope fun Y => SGc Y ct vs tg g) (ht : BlkA X scope fun Y => SPT Y ct W0 ifs t) (he : BlkA X scope fun Y => SE Y ct W0 elt f) (hs : ∀ x, foldedSetIterable iter X.env x = pure x := by intro _; rfl) :
    SE X ct W (.ListComp elt [⟨tg, iter, ifs, 0⟩] scope pos) (eLc mu vs it g t f) := by
  subst hvs
  exact PE.imp (pe_lc hc hN hi ok hg ht he hs) fun _ _ _ h => rd_lc h
theorem ss_setLc (mu : Bool) {i : Nat} {y : Str} {py spos : Pos} (hc : X.calm = true) (hN : X.N.Nodup) (hy : X.N[i]? = some y) (hyl : X.env.scope.names.lookup y = some .local)
    (hsw : swapsWith (.ListComp elt [⟨tg, iter, ifs, 0⟩] scope pos) (some (.Name y py)) spos.line X.env = pure true) (hi : SI X ct W tg iter it) (ok : BlkOk X.N X.env.scope scope own) (hvs : own.map (·.2) = vs)
    (hg : BlkA X scope fun Y => SGc Y ct vs tg g) (ht : BlkA X scope fun Y => SPT Y ct W0 ifs t) (he : BlkA X scope fun Y => SE Y ct W0 elt f) (hs : ∀ x, foldedSetIterable iter X.env x = pure x := by intro _; rfl) :
    SS X ct W (.Assign [.Name y py] (.ListComp elt [⟨tg, iter, ifs, 0⟩] scope pos) spos) (sAs (eLc mu vs it g t f) (gNm i)) := by
  subst hvs
  refine PS.imp (ps_setLc (g := rdGc X.K ct (own.map (·.2)) g) (tt := rdT X.K ct W0 t) (te := rdE X.K ct W0 f) hc hN hy hyl hsw hi ok hg ht he hs) fun D σV H ⟨m, ah, σ, hr, lr, p⟩ => ?_
  exact rd_lc ⟨m, ah, σ, hr, lr, (PoS.bind (R := VlR X.K ct) lr p).imp fun x H1 ⟨m1, h1, y, hr1, e1, r1, p1⟩ => p1 m1 H1 _ hr1 (Ext.refl _ _ _) ((lr.ext e1).set r1 i)⟩
theorem se_lc2 (mu : Bool) (hc : X.calm = true) (hN : X.N.Nodup) (hi : SI X ct W tg iter it) (ok : BlkOk X.N X.env.scope scope own) (hvs : own.map (·.2) = vs) (hv : ∀ i ∈ vs1, i ∈ own.map (·.2))
    (hg : BlkA X scope fun Y => SGc Y ct vs tg g) (ht : BlkA X scope fun Y => SPT Y ct W0 ifs t)
    (hi1 : BlkA X scope fun Y => SI Y ct W0 tg1 iter1 it1) (hg1 : BlkA X scope fun Y => SGc Y ct vs1 tg1 g1) (ht1 : BlkA X scope fun Y => SPT Y ct W0 ifs1 t1)
    (he : BlkA X scope fun Y => SE Y ct W0 elt f) (hs : ∀ x, foldedSetIterable iter X.env x = pure x := by intro _; rfl) (hs1 : ∀ env x, foldedSetIterable iter1 env x = pure x := by intro _ _; rfl) :
    SE X ct W (.ListComp elt [⟨tg, iter, ifs, 0⟩, ⟨tg1, iter1, ifs1, 0⟩] scope pos) (eLc2 mu vs vs1 it g t it1 g1 t1 f) := by
  subst hvs
  exact PE.imp (pe_lc2 hc hN hi ok hv hg ht hi1 hg1 ht1 he hs hs1) fun _ _ _ h => rd_lc2 h
theorem ss_setLc2 (mu : Bool) {i : Nat} {y : Str} {py spos : Pos} (hc : X.calm = true) (hN : X.N.Nodup) (hy : X.N[i]? = some y) (hyl : X.env.scope.names.lookup y = some .local)
    (hsw : swapsWith (.ListComp elt [⟨tg, iter, ifs, 0⟩, ⟨tg1, iter1, ifs1, 0⟩] scope pos) (some (.Name y py)) spos.line X.env = pure true) (hi : SI X ct W tg iter it) (ok : BlkOk X.N X.env.scope scope own) (hvs : own.map (·.2) = vs) (hv : ∀ i ∈ vs1, i ∈ own.map (·.2))
    (hg : BlkA X scope fun Y => SGc Y ct vs tg g) (ht : BlkA X scope fun Y => SPT Y ct W0 ifs t)
    (hi1 : BlkA X scope fun Y => SI Y ct W0 tg1 iter1 it1) (hg1 : BlkA X scope fun Y => SGc Y ct vs1 tg1 g1) (ht1 : BlkA X scope fun Y => SPT Y ct W0 ifs1 t1)
    (he : BlkA X scope fun Y => SE Y ct W0 elt f) (hs : ∀ x, foldedSetIterable iter X.env x = pure x := by intro _; rfl) (hs1 : ∀ env x, foldedSetIterable iter1 env x = pure x := by intro _ _; rfl) :
    SS X ct W (.Assign [.Name y py] (.ListComp elt [⟨tg, iter, ifs, 0⟩, ⟨tg1, iter1, ifs1, 0⟩] scope pos) spos) (sAs (eLc2 mu vs vs1 it g t it1 g1 t1 f) (gNm i)) := by
  subst hvs
  refine PS.imp (ps_setLc2 (g := rdGc X.K ct (own.map (·.2)) g) (tt := rdT X.K ct W0 t) (wi1 := rdI X.K ct W0 it1) (g1 := rdGc X.K ct vs1 g1) (tt1 := rdT X.K ct W0 t1) (te := rdE X.K ct W0 f) hc hN hy hyl hsw hi ok hv hg ht hi1 hg1 ht1 he hs hs1) fun D σV H ⟨m, ah, σ, hr, lr, p⟩ => ?_
  exact rd_lc2 ⟨m, ah, σ, hr, lr, (PoS.bind (R := VlR X.K ct) lr p).imp fun x H1 ⟨m1, h1, y, hr1, e1, r1, p1⟩ => p1 m1 H1 _ hr1 (Ext.refl _ _ _) ((lr.ext e1).set r1 i)⟩
end
end Mi

/-! Mi8: more operations: min, max, append, extend, stores, tuples of ranges, in for tuples, isinstance, own == -/
namespace Mi
open PySem PySem.Spec L2

section
variable {X : Cx} {ct : CT} {W : WX} {pos p apos : Pos} {e o : Expr} {es : List Expr} {f g : SemE} {fs : SemA}
/-! ### min, max of two ints -/
def n2 (k : Int → Int → Int) : OpN := fun xs h => match xs with
  | [.d (.int i), .d (.int j)] => some (.d (.int (k i j)), h)
  | _ => none
def nMin2 : OpN := n2 fun i j => if j < i then j else i
def nMax2 : OpN := n2 fun i j => if j > i then j else i
theorem n2_sound {id : String} {k : Int → Int → Int} (hc : CallR X (.builtin id) (fun xs H Q => ∃ i j, xs = [.int i, .int j] ∧ Q (.int (k i j)) H)) : CallR X (.builtin id) (rN X.K ct (n2 k)) := by
  refine CallR.imp hc fun vs H Q ⟨m, ah, xs, hr, rs, p⟩ => ?_
  unfold n2 at p
  split at p
  · cases rs with
    | cons r t =>
      cases t with
      | cons r2 t => cases t; cases r; cases r2; exact ⟨_, _, rfl, p.same hr (.int _)⟩
  · exact p.elim
theorem min2_sound (hc : X.calm = true) : CallR X (.builtin "min") (rN X.K ct nMin2) := n2_sound (call_min2 hc)
theorem max2_sound (hc : X.calm = true) : CallR X (.builtin "max") (rN X.K ct nMax2) := n2_sound (call_max2 hc)

/-! ### methods of a changeable list -/
def eLm (op : List D → List D → Hs → Option (List D × Vl)) (f : SemE) (fs : SemA) : SemE := fun σ h => rb (f σ h) fun x h1 => match x with
  | .r k => (match h1[k]? with
    | some (.lst _) => rb (fs σ h1) fun ys h2 => (match h2[k]? with
      | some (.lst xs) => (match toDs ys h2 with
        | some (ds, h3) => (match h3[k]? with
          | some (.lst _) => (match op xs ds h3 with
            | some (xs', v) => .ok v (h3.set k (.lst xs'))
            | none => .bad)
          | _ => .bad)
        | none => .bad)
      | _ => .bad)
    | _ => .bad)
  | _ => .bad
def lmAppend : List D → List D → Hs → Option (List D × Vl) := fun xs ds _ => match ds with
  | [d] => if xs.length < sizeLine then some (xs ++ [d], .d .non) else none
  | _ => none
theorem toDs_keep {k : Nat} {xs : List D} : ∀ {ys : List Vl} {h : Hs} {ds : List D} {h' : Hs}, toDs ys h = some (ds, h') → h'[k]? = some (.lst xs) → h[k]? = some (.lst xs)
  | [], h, ds, h', e, q => by cases e; exact q
  | y :: ys, h, ds, h', e, q => by
    unfold toDs at e
    cases e1 : toD y h with
    | none => rw [e1] at e; cases e
    | some z =>
      obtain ⟨d, h1⟩ := z
      rw [e1] at e
      simp only [Option.bind_some] at e
      cases e2 : toDs ys h1 with
      | none => rw [e2] at e; cases e
      | some z2 =>
        obtain ⟨ds2, h2⟩ := z2
        rw [e2] at e
        simp only [Option.map_some, Option.some.injEq, Prod.mk.injEq] at e
        obtain ⟨_, rfl⟩ := e
        have q1 := toDs_keep (k := k) (xs := xs) e2 q
        unfold toD at e1
        split at e1
        · cases e1; exact q1
        · rename_i j
          have hj : ∀ o : O, h1 = h.set j .dead → h[k]? = some (.lst xs) := fun _ z => by
            subst z
            by_cases hk : j = k
            · subst hk
              by_cases hl : j < h.length
              · rw [List.getElem?_set_self hl] at q1; cases q1
              · rw [List.getElem?_eq_none (by rw [List.length_set]; omega)] at q1; cases q1
            · rw [List.getElem?_set_ne hk] at q1; exact q1
          split at e1 <;> first | (cases e1; exact hj .dead rfl) | cases e1
theorem se_append {cpos : Pos} (he : SE X ct W o f) (ha : SA X ct W [e] fs)
    (hbase : attributeBase o "append" X.env (eval o X.env) = eval o X.env := by rfl)
    (hfew : ((backTo cpos (starEach [e] X.env)).all (fun x => !x.1) && (backToKw cpos (keywordEach [] X.env)).all (fun x => x.1.isSome)
      && decide ([e].length + ([] : List Keyword).length + (if ([] : List Keyword).isEmpty then 0 else 1) < 30)) = true := by rfl)
    (hline : (apos.endLine == cpos.line) = true := by rfl) (hs : starEach [e] X.env = (false, eval e X.env) :: starEach [] X.env := by rfl) (hplain : (backTo cpos (starEach [] X.env)).any (·.1) = false := by rfl) :
    SE X ct W (.Call (.Attribute o "append" apos) [e] [] cpos) (eLm lmAppend f fs) :=
  PE.imp (pe_bm PySem.F.plainAttrs_list PySem.F.slot_list_append PySem.F.type_list_append (r := rAppend) mt_append he ha hbase hfew hline hs hplain) fun σV H Q ⟨m, ah, σ, hr, lr, p⟩ => by
    refine ⟨m, ah, σ, hr, lr, (Po.bind (R := VlR X.K ct) p).imp fun v H1 ⟨m1, h1, x, hr1, e1, r1, p1⟩ => ?_⟩
    dsimp only at p1
    split at p1
    · rename_i k
      split at p1
      · rename_i ys hk
        obtain ⟨a, vs, ha, rfl, g1, g2⟩ := hr1.lstK hk r1
        refine ⟨.inl ⟨rfl, vs, .of g1⟩, m1, h1, σ, hr1, lr.ext e1, (Po.bind (R := VlRs X.K ct) p1).imp fun us H2 ⟨m2, h2, ys2, hr2, e2, r2, p2⟩ => ?_⟩
        dsimp only at p2
        split at p2
        · rename_i xs hk2
          split at p2
          · rename_i ds h3 q3
            obtain ⟨hr3, e3, r3⟩ := toDs_sound hr2 q3 r2
            split at p2
            · rename_i xs2 hk3
              have ee := toDs_keep q3 hk3
              rw [hk2] at ee
              cases ee
              unfold lmAppend at p2
              split at p2
              · rename_i xs' v hop
                split at hop
                · split at hop
                  · rename_i hz
                    cases hop
                    have ha2 := e2.at ha
                    obtain ⟨u, g3, g4⟩ := hr3.ob k a _ ha2 hk3
                    cases g4 with
                    | lst t =>
                      cases r3 with
                      | cons r3 tt =>
                        cases tt
                        obtain ⟨hr4, e4⟩ := hr3.write ha2 hk3 (by simp) (OR.lst (t.append (.cons r3 .nil)))
                        refine ⟨a, _, _, rfl, rfl, g3, by rw [← t.length]; exact hz, p2 m2 _ _ hr4 (e3.trans e4) .non⟩
                  · cases hop
                · cases hop
              · exact p2.elim
            · exact p2.elim
          · exact p2.elim
        · exact p2.elim
      · exact p1.elim
    · exact p1.elim
/-- x.extend(y), y a list or tuple of data -/
theorem ext_tup (l : Addr) (items : Array Value) (n : Nat) (b : Addr) (items2 : Array Value) (n2 : Nat) (dct : Option Addr) (sl : Array (Option Value)) (h0 : (!items.isEmpty && Builtin.List.listTooLong (items.size + items2.size)) = false) (h1 : items.size ≤ sizeLine) (h2 : items.size + items2.size ≤ sizeLine + 1) :
    Meets (Builtin.«list.extend» ⟨[.ref l, .ref b], []⟩) (fun _ R s => s.heap.get? l = some { cls := .type "list", data := .seq items n } ∧ s.heap.get? b = some { cls := .type "tuple", dict := dct, data := .seq items2 n2, slots := sl } ∧
      R (.ok (.ret .none)) { s with heap := s.heap.update l (Obj.mapSeq fun x => x ++ items2) }) :=
  .of_wp fun prog w A R s ⟨hl, hb, h⟩ => by
    obtain ⟨hp, g, d, tk, os⟩ := s
    have f1 := AutoSeq1.idx_int
    have f2 := AutoSeq1.sub_tuple_tuple
    have f3 := AutoSeq1.sub_list_list
    have f4 := AutoSeq1.sub_tuple_list
    have f5 := AutoSeq1.sub_list_tuple
    have hs0 : ¬ (!items.isEmpty && Builtin.List.listTooLong (items.size + items2.size)) = true := by rw [h0]; exact Bool.false_ne_true
    have hz' : (items ++ items2).size ≤ sizeLine + 1 := by rw [Array.size_append]; exact h2
    wp_walk using (wpAny_updateSeq hl rfl (hz := h1) (_hz' := hz')), AutoSeq1.wpAny_loadPart' hl, AutoSeq1.wpAny_loadPart' hb
    exact ⟨_, rfl, h⟩
def rExtS (K : PySem.W.Frag) : V → List V → Hp → VK → Prop := fun x vs H Q => ∃ l b xs zs, x = .ref l ∧ vs = [.ref b] ∧ H l = some (.lst xs) ∧ (H b = some (.lst zs) ∨ SqT K H b zs) ∧ xs.length + zs.length ≤ sizeLine ∧ Q .non (upd H l (.lst (xs ++ zs)))
theorem mt_extS : MtM X "list.extend" (rExtS X.K) := by
  intro pins s σ H x vs v us Q I rx rv h
  obtain ⟨l, b, xs, zs, rfl, rfl, hH, hB | hB, hz, q⟩ := h
  · exact mt_extend pins s σ H _ _ v us Q I rx rv ⟨l, b, xs, zs, rfl, rfl, hH, hB, hz, q⟩
  · cases rx
    obtain ⟨u, rfl, ru⟩ := rv.one
    cases ru
    obtain ⟨z, its, n, r, hl, e⟩ := I.lstM hH
    obtain ⟨its2, r2, ⟨⟨c2, d2, dt2, sl2⟩, e2, hc2, n2, hd2⟩, hz2⟩ := I.tuple hB
    dsimp only at hc2 hd2
    subst hc2 hd2
    have l2 := r2.length
    have hsz : its.toArray.size + its2.toArray.size ≤ sizeLine := by rw [List.size_toArray, List.size_toArray]; omega
    refine call_meets PySem.F.slot_list_extend ⟨_, e, rfl⟩ PySem.F.entry_list_extend (PySem.F.args_list_extend_2 _ _)
      (ext_tup l its.toArray n b its2.toArray n2 d2 sl2 (by rw [notLongL hsz, Bool.and_false]) (by rw [List.size_toArray]; omega) (by omega)) ⟨e, e2, ?_⟩
    refine ⟨.non, _, I.lset (its' := its ++ its2) (t' := s.toks) hH e (by simp) (r.append r2) ?_, rfl, q⟩
    rw [List.length_append]
    omega
def eXt (f : SemE) (fs : SemA) : SemE := fun σ h => rb (f σ h) fun x h1 => match x with
  | .r k => (match h1[k]? with
    | some (.lst _) => rb (fs σ h1) fun ys h2 => (match ys, h2[k]? with
      | [y], some (.lst xs) => (match pureSeq y with
        | some zs => if xs.length + zs.length ≤ sizeLine then .ok (.d .non) (h2.set k (.lst (xs ++ zs))) else .bad
        | none => .bad)
      | _, _ => .bad)
    | _ => .bad)
  | _ => .bad
theorem se_extend {cpos : Pos} (he : SE X ct W o f) (ha : SA X ct W [e] fs)
    (hbase : attributeBase o "extend" X.env (eval o X.env) = eval o X.env := by rfl)
    (hfew : ((backTo cpos (starEach [e] X.env)).all (fun x => !x.1) && (backToKw cpos (keywordEach [] X.env)).all (fun x => x.1.isSome)
      && decide ([e].length + ([] : List Keyword).length + (if ([] : List Keyword).isEmpty then 0 else 1) < 30)) = true := by rfl)
    (hline : (apos.endLine == cpos.line) = true := by rfl) (hs : starEach [e] X.env = (false, eval e X.env) :: starEach [] X.env := by rfl) (hplain : (backTo cpos (starEach [] X.env)).any (·.1) = false := by rfl) :
    SE X ct W (.Call (.Attribute o "extend" apos) [e] [] cpos) (eXt f fs) :=
  PE.imp (pe_bm PySem.F.plainAttrs_list PySem.F.slot_list_extend PySem.F.type_list_extend (r := rExtS X.K) mt_extS he ha hbase hfew hline hs hplain) fun σV H Q ⟨m, ah, σ, hr, lr, p⟩ => by
    refine ⟨m, ah, σ, hr, lr, (Po.bind (R := VlR X.K ct) p).imp fun v H1 ⟨m1, h1, x, hr1, e1, r1, p1⟩ => ?_⟩
    dsimp only at p1
    split at p1
    · rename_i k
      split at p1
      · rename_i ys hk
        obtain ⟨a, vs, ha, rfl, g1, g2⟩ := hr1.lstK hk r1
        refine ⟨.inl ⟨rfl, vs, .of g1⟩, m1, h1, σ, hr1, lr.ext e1, (Po.bind (R := VlRs X.K ct) p1).imp fun us H2 ⟨m2, h2, ys2, hr2, e2, r2, p2⟩ => ?_⟩
        dsimp only at p2
        split at p2
        · rename_i y xs hk2
          split at p2
          · rename_i zs hzs
            split at p2
            · rename_i hz
              have ha2 := e2.at ha
              obtain ⟨u, g3, g4⟩ := hr2.ob k a _ ha2 hk2
              cases g4 with
              | lst t =>
                cases r2 with
                | @cons _ w _ _ r2 tt =>
                  cases tt
                  have key : ∃ b ws, w = V.ref b ∧ (H2 b = some (.lst ws) ∨ SqT X.K H2 b ws) ∧ DRs X.K ct (Sf m2 h2) H2 zs ws := by
                    unfold pureSeq at hzs
                    split at hzs
                    · cases hzs
                      obtain ⟨b, ws, rfl, q1, q2⟩ := tup_of r2
                      exact ⟨b, ws, rfl, .inr q1, q2⟩
                    · cases hzs
                      cases r2 with
                      | lv b1 b2 b3 => exact ⟨_, _, rfl, .inl b1, b3⟩
                    · cases hzs
                  obtain ⟨b, ws, rfl, q1, q2⟩ := key
                  obtain ⟨hr4, e4⟩ := hr2.write ha2 hk2 (by simp) (OR.lst (t.append q2))
                  refine ⟨a, b, _, ws, rfl, rfl, g3, q1, by rw [← t.length, ← q2.length]; exact hz, p2 m2 _ _ hr4 e4 .non⟩
            · exact p2.elim
          · exact p2.elim
        · exact p2.elim
      · exact p1.elim
    · exact p1.elim

/-! ### xs[i] = v -/
/-- the store into a list at a name -/
def gSt (f g : SemE) : SemG := fun x σ h => match toD x h with
  | none => none
  | some (d, h0) => match f σ h0 with
    | .ok (.r k) h1 => (match g σ h1 with
      | .ok (.d (.int i)) h2 => (match h2[k]? with
        | some (.lst xs) => (match ixN xs.length i with
          | some j => some (σ, h2.set k (.lst (xs.set j d)))
          | none => none)
        | _ => none)
      | _ => none)
    | _ => none
theorem sg_store {i : Expr} (ho : SE X ct W0 o f) (hi : SE X ct W0 i g)
    (ha : ∀ v, assign (.Subscript o i pos) X.env v = (do
      let ov ← holding [v] (eval o X.env)
      let iv ← holding [v, ov] (eval i X.env)
      standAt pos
      holding [v, ov, iv] (setItem ov iv v)
      release [v, ov, iv] []) := by intro _; rfl) : SG X ct (.Subscript o i pos) (gSt f g) :=
  PG.imp (pg_sub ho hi set_list ha) fun v σV H Q ⟨m, ah, σ, x, hr, lr, r, p⟩ => by
    unfold gSt at p
    cases q : toD x ah with
    | none => rw [q] at p; exact p.elim
    | some z =>
      obtain ⟨d, h0⟩ := z
      rw [q] at p
      dsimp only at p
      obtain ⟨hr0, e0, r0⟩ := toD_sound hr q r
      refine ⟨m, h0, σ, hr0, lr.ext e0, ?_⟩
      cases q1 : f σ h0 with
      | bad => rw [q1] at p; exact p.elim
      | exc ex h1 => rw [q1] at p; exact p.elim
      | ok y h1 =>
        rw [q1] at p
        cases y with
        | d y => exact p.elim
        | r k =>
          dsimp only at p
          refine fun m1 H1 ov hr1 e1 r1 => ⟨m1, h1, σ, hr1, (lr.ext e0).ext e1, ?_⟩
          cases q2 : g σ h1 with
          | bad => rw [q2] at p; exact p.elim
          | exc ex h2 => rw [q2] at p; exact p.elim
          | ok y h2 =>
            rw [q2] at p
            split at p
            · rename_i y2 i h2' heq
              cases heq
              refine fun m2 H2 iv hr2 e2 r2 => ?_
              cases r2
              split at p
              · rename_i xs hk
                split at p
                · rename_i j hj
                  obtain ⟨a, hm, rfl⟩ := VlR.ext e2 r1
                  obtain ⟨u, g3, g4⟩ := hr2.ob k a _ hm hk
                  cases g4 with
                  | lst t =>
                    obtain ⟨hr4, e4⟩ := hr2.write hm hk (by simp) (OR.lst (t.set (r0.mono (e1.trans e2).kp) j))
                    refine ⟨a, _, _, j, rfl, rfl, g3, by rw [← t.length]; exact hj, ?_⟩
                    exact p m2 _ _ hr4 (((e0.trans e1).trans e2).trans e4) ((((lr.ext e0).ext e1).ext e2).ext e4)
                · exact p.elim
              · exact p.elim
            · exact p.elim

/-! ### tuple(range(n)) -/
def smR (n : Int) : Bool := decide (0 ≤ n) && Nat.ble n.natAbs 16777216
theorem smR_ok {n : Int} (h : smR n = true) : 0 ≤ n ∧ n ≤ 16777216 := by
  unfold smR at h
  simp only [Bool.and_eq_true, decide_eq_true_eq] at h
  have := Nat.le_of_ble_eq_true h.2
  omega
def eTR (f : SemE) : SemE := fun σ h => rb (f σ h) fun x h1 => match x with
  | .d (.int n) => if smR n = true then .ok (.d (.tup (rngD 0 n.toNat))) h1 else .bad
  | _ => .bad
theorem rngD_drs {K : PySem.W.Frag} {S : Addr → Prop} {H : Hp} {n : Int} (h : 0 ≤ n) : DRs K ct S H (rngD 0 n.toNat) (rgV 0 n) := by
  unfold rngD rgV
  rw [show n - 0 = n by omega]
  generalize List.range n.toNat = l
  induction l with
  | nil => exact .nil
  | cons a l ih => exact .cons (.int _) ih
theorem se_tupR {p2 pos2 : Pos} (hc : X.calm = true) (hg : Gl X "tuple") (hm : X.mg "tuple" = none) (hg2 : Gl X "range") (hm2 : X.mg "range" = none) (he : SE X ct W e f)
    (na : starEach [Expr.Call (.Name "range" p2) [e] [] pos2] X.env = (false, eval (.Call (.Name "range" p2) [e] [] pos2) X.env) :: starEach [] X.env := by rfl) (na2 : starEach [e] X.env = (false, eval e X.env) :: starEach [] X.env := by rfl) :
    SE X ct W (.Call (.Name "tuple" p) [.Call (.Name "range" p2) [e] [] pos2] [] pos) (eTR f) :=
  PE.imp (pe_tupRg hc hg hm (prg_1 hg2 hm2 he na2) na) fun σV H Q ⟨m, ah, σ, hr, lr, p⟩ => ⟨m, ah, σ, hr, lr, (Po.bind (R := VlR X.K ct) p).imp fun v H1 ⟨m1, h1, x, hr1, e1, r1, p1⟩ => by
    dsimp only at p1
    split at p1
    · rename_i n
      cases r1
      split at p1
      · rename_i hn
        replace hn := smR_ok hn
        refine ⟨_, rfl, RgOk.of_le (by omega) hn.2 (by omega) hn.1, fun a ha => ?_⟩
        exact p1 m1 _ _ (hr1.pure (o := .tup (rgV 0 n)) ha).1 (hr1.pure (o := .tup (rgV 0 n)) ha).2.1 (new_tup (rngD_drs hn.1) (hr1.pure (o := .tup (rgV 0 n)) ha).2.1.kp (hr1.freshS ha))
      · exact p1.elim
    · exact p1.elim⟩

/-! ### x in a list or tuple of flat data -/
def flD : D → Bool
  | .non => true
  | .bl _ => true
  | .int _ => true
  | .str _ => true
  | _ => false
def eqF : D → D → Bool
  | .non, .non => true
  | .bl a, .bl b => a == b
  | .bl a, .int b => (if a then 1 else 0) == b
  | .int a, .bl b => a == (if b then 1 else 0)
  | .int a, .int b => a == b
  | .str a, .str b => a == b
  | _, _ => false
theorem fl_of {K : PySem.W.Frag} {S : Addr → Prop} {H : Hp} {d : D} {v : V} (h : flD d = true) (r : DR K ct S H d v) : flatV v = true := by
  cases r <;> first | rfl | cases h
theorem eqF_of {K : PySem.W.Frag} {S : Addr → Prop} {H : Hp} {d d' : D} {v v' : V} (h : flD d = true) (h' : flD d' = true) (r : DR K ct S H d v) (r' : DR K ct S H d' v') : eqV v v' = eqF d d' := by
  cases r <;> first | (cases h; done) | (cases r' <;> first | rfl | (cases h'; done))
def inF (x y : Vl) (h : Hs) : Option Bool := match x, seqOf y h with
  | .d d, some ds => if flD d = true ∧ ds.all flD = true then some (ds.any fun z => eqF z d) else none
  | _, _ => none
def oInF (neg : Bool) : Op2 := fun x y h => (inF x y h).map fun c => (.d (.bl (if neg then !c else c)), h)
theorem inV_of {K : PySem.W.Frag} {S : Addr → Prop} {H : Hp} {d : D} {v : V} (h : flD d = true) (r : DR K ct S H d v) : ∀ {ds : List D} {vs : List V}, ds.all flD = true → DRs K ct S H ds vs → vs.all flatV = true ∧ inV v vs = ds.any fun z => eqF z d
  | _, _, _, .nil => ⟨rfl, rfl⟩
  | _, _, hs, .cons r1 t => by
    rw [List.all_cons, Bool.and_eq_true] at hs
    obtain ⟨i1, i2⟩ := inV_of h r hs.2 t
    unfold inV at i2 ⊢
    rw [List.all_cons, List.any_cons, List.any_cons, i1, i2, fl_of hs.1 r1, eqF_of hs.1 h r1 r]
    exact ⟨rfl, rfl⟩
theorem inF_sound {op : CmpOp} {neg : Bool} (ho : OpR X (compareOp op) (rIn X.K neg)) : OpR X (compareOp op) (rOp X.K ct (oInF neg)) := by
  refine OpR.imp ho fun x y H Q ⟨m, ah, a, b, hr, ra, rb, p⟩ => ?_
  unfold oInF at p
  cases e : inF a b ah with
  | none => rw [e] at p; exact p.elim
  | some c =>
  rw [e] at p
  unfold inF at e
  split at e
  · rename_i d ds hs
    by_cases hc : flD d = true ∧ ds.all flD = true
    · rw [if_pos hc] at e
      cases e
      obtain ⟨l, vs, rfl, h1, r1⟩ := seq_of hr hs rb
      obtain ⟨i1, i2⟩ := inV_of hc.1 ra hc.2 r1
      refine ⟨l, vs, rfl, h1, fl_of hc.1 ra, i1, ?_⟩
      rw [i2]
      cases neg <;> exact p.same hr (.bl _)
    · rw [if_neg hc] at e; cases e
  · cases e
theorem inT_sound : OpR X (compareOp .In) (rOp X.K ct (oInF false)) := inF_sound op_in_seq
theorem notInT_sound : OpR X (compareOp .NotIn) (rOp X.K ct (oInF true)) := inF_sound op_notIn_seq
end

/-! ### isinstance -/
inductive Ty where
  | b (n : String) | c (C : Nat)
deriving DecidableEq
def tyD (x : Vl) (h : Hs) : Option Ty := match insOf x h with
  | some (C, _) => some (.c C)
  | none => (tyO x h).map .b
def tyW (ct : CT) : Ty → Value
  | .b n => .type n
  | .c C => .ref (ct.ca C)
/-- what isinstance asks of an own class -/
structure IsiC (K : PySem.W.Frag) (C : Addr) : Prop where
  cl : Cls K C
  ha : PySem.W.findIn K (.ref C) "__class__" = some (some (.builtin "object.__class__"))
  hn : PySem.W.specialIn K (.builtin "object.__class__") "__get__" = some (some (.builtin "getset_descriptor.__get__"))
  htk : PySem.W.takesIn K (.builtin "object.__class__") = some true
  hm : PySem.W.mroIn K C (.type "object") = some true
def lookT (t : Ty) : List (Ty × Bool) → Option Bool
  | [] => none
  | (s, b) :: r => if s = t then some b else lookT t r
/-- the answers of isinstance for the types that may come -/
def IsiOk (K : PySem.W.Frag) (ct : CT) (u : Value) (l : List (Ty × Bool)) : Prop := ∀ t b, lookT t l = some b → PySem.W.kitOne K (tyW ct t) u = some b ∧ ∀ C, t = .c C → IsiC K (ct.ca C)
theorem IsiOk.nil {K : PySem.W.Frag} {ct : CT} {u : Value} : IsiOk K ct u [] := fun t b h => nomatch h
theorem IsiOk.cons {K : PySem.W.Frag} {ct : CT} {u : Value} {s : Ty} {b : Bool} {l : List (Ty × Bool)} (h1 : PySem.W.kitOne K (tyW ct s) u = some b) (h2 : ∀ C, s = .c C → IsiC K (ct.ca C)) (h : IsiOk K ct u l) : IsiOk K ct u ((s, b) :: l) := fun t b' e => by
  unfold lookT at e
  split at e
  · rename_i q
    subst q
    cases e
    exact ⟨h1, h2⟩
  · exact h t b' e
theorem IsiOk.consB {K : PySem.W.Frag} {ct : CT} {u : Value} {s : String} {b : Bool} {l : List (Ty × Bool)} (h1 : PySem.W.kitOne K (.type s) u = some b) (h : IsiOk K ct u l) : IsiOk K ct u ((.b s, b) :: l) := .cons h1 (fun _ e => nomatch e) h
theorem IsiOk.consC {K : PySem.W.Frag} {ct : CT} {u : Value} {s : Nat} {b : Bool} {l : List (Ty × Bool)} (h1 : PySem.W.kitOne K (.ref (ct.ca s)) u = some b) (h2 : IsiC K (ct.ca s)) (h : IsiOk K ct u l) : IsiOk K ct u ((.c s, b) :: l) := .cons h1 (fun _ e => by cases e; exact h2) h
theorem isi_any {K : PySem.W.Frag} {ct : CT} {b : String} (h : kitB b b = some true) : ∀ l : List (String × Bool), (l.all fun p => decide (kitB p.1 b = some p.2)) = true → IsiOk K ct (.type b) (l.map fun p => (Ty.b p.1, p.2))
  | [], _ => .nil
  | p :: l, e => by
    simp only [List.all_cons, Bool.and_eq_true, decide_eq_true_eq] at e
    exact .consB (kit_ty e.1) (isi_any h l (by simpa using e.2))
def eIsi (l : List (Ty × Bool)) (f : SemE) : SemE := fun σ h => rb (f σ h) fun x h1 => match tyD x h1 with
  | some t => (match lookT t l with
    | some b => .ok (.d (.bl b)) h1
    | none => .bad)
  | none => .bad
theorem tyD_sound {K : PySem.W.Frag} {ct : CT} {m : List Addr} {ah : Hs} {H : Hp} (hr : HR K ct m ah H) {x : Vl} {v : V} {t : Ty} (r : VlR K ct m ah H x v) (e : tyD x ah = some t) (hc : ∀ C, t = .c C → IsiC K (ct.ca C)) : TyX K H v (tyW ct t) := by
  unfold tyD at e
  split at e
  · rename_i C fs q
    cases e
    obtain ⟨a, dx, vs, rfl, h1, _⟩ := ins_of hr q r
    have z := hc C rfl
    exact .base (.ins h1 z.cl z.ha z.hn z.htk z.hm)
  · cases q : tyO x ah with
    | none => rw [q] at e; cases e
    | some n => rw [q] at e; cases e; exact tyO_sound hr r q
section
variable {X : Cx} {ct : CT} {W : WX} {pos p p2 : Pos} {e : Expr} {f : SemE} {x : Str} {l : List (Ty × Bool)}
theorem pe_isi {c : V} {u : Value} (hk : ClsV c u) (h2 : PE X (.Name x p2) (tC c)) (ho : IsiOk X.K ct u l) (hg : Gl X "isinstance") (hm : X.mg "isinstance" = none) (he : SE X ct W e f)
    (h1 : starEach [e, .Name x p2] X.env = (false, eval e X.env) :: starEach [.Name x p2] X.env := by rfl) : SE X ct W (.Call (.Name "isinstance" p) [e, .Name x p2] [] pos) (eIsi l f) :=
  PE.imp (pe_callB call_isi hg hm PyProof.Rows.boot_isinstance (pa_cons he (pa_cons h2 pa_nil (by rfl)) h1) (by decide) (by decide) h1 (by rfl)) fun σV H Q ⟨m, ah, σ, hr, lr, p⟩ => ⟨m, ah, σ, hr, lr, (Po.bind (R := VlR X.K ct) p).imp fun v H1 ⟨m1, h1, x, hr1, e1, r1, p1⟩ => by
    dsimp only at p1
    cases q : tyD x h1 with
    | none => rw [q] at p1; exact p1.elim
    | some t =>
      rw [q] at p1
      dsimp only at p1
      cases q2 : lookT t l with
      | none => rw [q2] at p1; exact p1.elim
      | some b =>
        rw [q2] at p1
        obtain ⟨k1, k2⟩ := ho t b q2
        exact ⟨v, c, _, u, b, rfl, hk, tyD_sound hr1 r1 q k2, k1, p1 m1 H1 _ hr1 (Ext.refl _ _ _) (.bl b)⟩⟩
/-- isinstance(e, T), T built in -/
theorem se_isiB {T : String} (hg2 : Gl X x) (hm2 : X.mg x = none) (hv : bootBuiltins x = some (.type T)) (ho : IsiOk X.K ct (.type T) l) (hg : Gl X "isinstance") (hm : X.mg "isinstance" = none) (he : SE X ct W e f) (hn : x ≠ "__name__" := by decide) (hd : (x == ("__debug__" : Str)) = false := by decide)
    (h1 : starEach [e, .Name x p2] X.env = (false, eval e X.env) :: starEach [.Name x p2] X.env := by rfl) : SE X ct W (.Call (.Name "isinstance" p) [e, .Name x p2] [] pos) (eIsi l f) :=
  pe_isi (.ty T) (pe_bltn hg2 hm2 hv (v := .ty T) rfl hn hd) ho hg hm he h1
/-- isinstance(e, C), C own -/
theorem se_isiC {C : Addr} (hg2 : Gl X x) (hm2 : X.mg x = some (.ref C)) (ho : IsiOk X.K ct (.ref C) l) (hg : Gl X "isinstance") (hm : X.mg "isinstance" = none) (he : SE X ct W e f) (hd : (x == ("__debug__" : Str)) = false := by decide)
    (h1 : starEach [e, .Name x p2] X.env = (false, eval e X.env) :: starEach [.Name x p2] X.env := by rfl) : SE X ct W (.Call (.Name "isinstance" p) [e, .Name x p2] [] pos) (eIsi l f) :=
  pe_isi (.own C) (pe_glob hg2 hm2 (v := .ref C) rfl hd) ho hg hm he h1

/-! ### == of two instances of an own class -/
def oOwn (call : CallT) (i C : Nat) : Op2 := fun x y h => match insOf x h, insOf y h with
  | some (C1, _), some (C2, _) => if C1 = C ∧ C2 = C then (match call i [x, y] h with
    | .ok (.d (.bl b)) h' => some (.d (.bl b), h')
    | _ => none) else none
  | _, _ => none
theorem own_sound {call : CallT} {i C n : Nat} {fns : List Fn} {F : Fn} (co : CallOk X.prog X.w X.K X.mg X.base ct fns call n) (hr : Room (2 * n + 1) X.A) (hF : fns[i]? = some F)
    (hs : PySem.W.findIn X.K (.ref (ct.ca C)) "__eq__" = some (some (.ref F.f))) (hf : PySem.W.isFn X.K (.ref F.f) = true) (hb : Binds X.K F.fd F.ps []) : OpR X (compareOp .Eq) (rOp X.K ct (oOwn call i C)) := by
  intro pins s σ H x y v u Q I rx ry ⟨m, ah, a, b, h1, ra, rb, p⟩
  unfold oOwn at p
  split at p
  · rename_i C1 f1 C2 f2 q1 q2
    split at p
    · rename_i hc
      obtain ⟨rfl, rfl⟩ := hc
      obtain ⟨l1, d1, v1, rfl, g1, _⟩ := ins_of h1 q1 ra
      obtain ⟨l2, d2, v2, rfl, g2, _⟩ := ins_of h1 q2 rb
      cases rx
      cases ry
      obtain ⟨mA, J, _⟩ := ins_get I.hok g1
      obtain ⟨mB, J', _⟩ := ins_get I.hok g2
      obtain ⟨od, J, _⟩ := J.look
      obtain ⟨od', J', _⟩ := J'.look
      obtain ⟨mm, hFr⟩ := I.fr
      refine PySem.W.cmp_K (op := .Eq) (tb := .ref (ct.ca C2)) hr.units0 hFr I.ok.mod.kin J J'.type (by simp [PySem.W.notFirst]) hs hf ?_
      cases q : call i [a, b] ah with
      | bad => rw [q] at p; exact p.elim
      | exc ex h2 => rw [q] at p; exact p.elim
      | ok z h2 =>
        rw [q] at p
        split at p
        · rename_i z' bb h3 heq
          cases heq
          refine wpAny_mono (run_cl (W := W0) (Q := fun v H' => v = .bl bb ∧ Q (.bl bb) H') (us := [.ref l1, .ref l2]) (vs := [.ref l1, .ref l2]) (dvs := []) co hF hr hb .nil (fun _ _ ⟨_, _, _, _, _, _, _, _, _, _, _, _, _, _, _, _, w⟩ => w.elim) I (.cons rfl (.cons rfl .nil))
            ⟨m, ah, [a, b], h1, .cons ra (.cons rb .nil), ?_⟩) (fun w s' ⟨x, H', I', rw', e1, q'⟩ => ?_) fun _ _ z => z
          · rw [q]
            refine fun m2 H2 v2 hr2 e2 r2 => ?_
            cases r2
            exact ⟨rfl, p m2 H2 _ hr2 e2 (.bl bb)⟩
          · subst e1
            cases rw'
            exact ⟨.bl bb, H', I', rfl, q'⟩
        · exact p.elim
    · exact p.elim
  · exact p.elim
end
end Mi

/-! Mi9: enumerate over a tuple -/
namespace Mi
open PySem PySem.Spec L2

/-- the tuple at a, each item in a new pair -/
def IteT (K : PySem.W.Frag) (a : Addr) : It :=
  { go := fun i H => ∃ (xs : List V) (x : V), SqT K H a xs ∧ xs[i]? = some x
    yld := fun i H v H' => ∃ T x, v = .ref T ∧ H T = none ∧ H' = upd H T (.tup [.int (i : Nat), x]) ∧ ∀ xs, SqT K H a xs → xs[i]? = some x
    stop := fun i H => ∃ xs : List V, SqT K H a xs ∧ xs.length ≤ i }
theorem SqT.uniq {X : Cx} {pins : List (Addr × Obj)} {σ : L2.St} {H : Hp} {s : Shared} {a : Addr} {xs ys : List V} (I : Inv X pins σ H s) (h : SqT X.K H a xs) (g : SqT X.K H a ys) : xs = ys := I.tuple_inj h g
theorem turn_enumT {P : Program} {w : World} {K : PySem.W.Frag} {elts : List Expr} {kk : Nat} {tpos : Pos} (a e it : Addr) :
    Turn P w K (.Tuple elts kk tpos) (IteT K a) [e, it] e (fun i h => (∃ old, IsEnum h e it ((i : Nat) : Int) old) ∧ h.IsTupleIter it a i ∧ e ≠ it) where
  mem := List.mem_cons_self
  obj := fun i h st b hb => by
    obtain ⟨⟨old, he⟩, ⟨o, ho, hc, hd⟩, _⟩ := st
    rcases List.mem_cons.mp hb with rfl | hb
    · exact ⟨_, he, fun v q => nomatch q⟩
    · obtain rfl := List.mem_singleton.mp hb
      exact ⟨o, ho, fun v q => by rw [hd] at q; cases q⟩
  keep := fun i h h' ⟨⟨old, he⟩, hi, hne⟩ k => ⟨⟨old, k e List.mem_cons_self _ he⟩, hi.at fun o q => k it (List.mem_cons_of_mem _ (List.mem_singleton.mpr rfl)) o q, hne⟩
  item := by
    rintro X rfl rfl rfl hc i pins s σ H E I hf ⟨⟨old, he⟩, hit, hne⟩ ⟨xs, x, hq, hx⟩
    obtain ⟨its, rv, p, hz⟩ := I.tuple hq
    obtain ⟨u, hu, ru⟩ := rv.get hx
    have hel : e < s.heap.objs.size := Heap.lt_size he
    have hil : it < s.heap.objs.size := by obtain ⟨_, q, _⟩ := hit; exact Heap.lt_size q
    have nae : a ≠ e := fun z => by
      obtain ⟨o, ho, hcl, _⟩ := p
      rw [z] at ho
      have := (Option.some.inj (ho.symm.trans he))
      subst this
      exact absurd (Value.type.inj hcl) (by decide)
    have nai : a ≠ it := fun z => by
      obtain ⟨o, ho, hcl, _⟩ := p
      obtain ⟨o2, ho2, hcl2, _⟩ := hit
      rw [z] at ho
      have := (Option.some.inj (ho.symm.trans ho2))
      subst this
      exact absurd (Value.type.inj (hcl.symm.trans hcl2)) (by decide)
    have hh : X.A.in1.handled = none := I.ok.hd hc
    refine wpAny_pyNext_enum_itemD (Draws.tuple hh it a nai its.toArray) he ⟨hit, p⟩ (by have := (List.getElem?_eq_some_iff.mp hu).1; simpa using this) hne
      (fun z => by rcases List.mem_cons.mp z with q | q; exact hne q; exact nae (List.mem_singleton.mp q).symm) fun y h' tk hy ho hs' hT hsz hk => ?_
    obtain ⟨hit', hpt⟩ := hs'
    have ey : y = u := by
      have e2 : its.toArray[i]? = some u := by simpa using hu
      rw [e2] at hy
      exact (Option.some.inj hy).symm
    subst ey
    refine ⟨_, rfl, wpAny_letOwnedTupleGo_enum (s := { s with heap := h', toks := tk + 1 }) ho fun h'' he' sb => ?_⟩
    have hT2 : h''.get? s.heap.objs.size = some { cls := .type "tuple", data := .seq #[.int i tk, y] } := (sb.2 _ (Nat.ne_of_gt hel)).trans hT
    have new : ObjOk X.prog X.w (upd H s.heap.objs.size (.tup [.int (i : Nat), x])) h'' s.heap.objs.size (.tup [.int (i : Nat), x]) :=
      ⟨by show 2 ≤ sizeLine; decide, [.int i tk, y], .cons ⟨_, rfl⟩ (.cons ru .nil), ⟨_, hT2, rfl, _, rfl⟩⟩
    have mem : ∀ b, b ∉ [e, it] → b ≠ e ∧ b ≠ it := fun b hb => ⟨fun z => hb (z ▸ List.mem_cons_self), fun z => hb (z ▸ List.mem_cons_of_mem _ (List.mem_singleton.mpr rfl))⟩
    have I1 : Inv X pins σ (upd H s.heap.objs.size (.tup [.int (i : Nat), x])) { s with heap := h'', toks := tk + 1 } :=
      I.turnedNew (ch := [e, it]) (fun b ob hb q => (sb.2 b (mem b hb).1).trans (hk b ob (mem b hb).1 (mem b hb).2 q)) hf (Nat.le_refl _) new
    refine ⟨.ref s.heap.objs.size, _, I1, rfl, ⟨_, x, rfl, I.hok.fresh (Nat.le_refl _), rfl, fun ys hy => by rw [SqT.uniq I hy hq]; exact hx⟩, ⟨⟨y, ?_⟩, hit'.at fun o q => (sb.2 it (Ne.symm hne)).trans q, hne⟩, fun b hb => ?_⟩
    · rw [show ((i + 1 : Nat) : Int) = (i : Int) + 1 by omega]; exact he'
    · have hb' : b < s.heap.objs.size := by
        rcases List.mem_cons.mp hb with rfl | hb
        · exact hel
        · obtain rfl := List.mem_singleton.mp hb; exact hil
      rw [upd_ne (Nat.ne_of_lt hb')]
      exact (hf b hb).1
  done := by
    rintro X rfl rfl rfl hc i pins s σ H E I hf ⟨⟨old, he⟩, hit, hne⟩ ⟨xs, hq, hx⟩
    obtain ⟨its, rv, p, hz⟩ := I.tuple hq
    obtain ⟨f0, f1, f2, f3, f4, f5⟩ := hf it (List.mem_cons_of_mem _ (List.mem_singleton.mpr rfl))
    have hl := rv.length
    have nai : a ≠ it := fun z => by
      obtain ⟨o, ho, hcl, _⟩ := p
      obtain ⟨o2, ho2, hcl2, _⟩ := hit
      rw [z] at ho
      have := (Option.some.inj (ho.symm.trans ho2))
      subst this
      exact absurd (Value.type.inj (hcl.symm.trans hcl2)) (by decide)
    have hh : X.A.in1.in1.handled = none := I.ok.hd hc
    unfold pyNext
    refine wpAny_bind (wpAny_attempt (wpAny_callSpecial?_slot (name := Str.ofString "__next__") ⟨_, he, rfl⟩ F.slot_enumerate_next
      (wpAny_call_entry F.slot_enumerate_next ⟨_, he, rfl⟩ F.entry_enumerate_next ?_ (F.args_enumerate_next_1 _))))
    show wpAny _ _ (field (.ref e) 2 >>= _) _ _ _
    refine wpAny_bind (wpAny_field he rfl (x := .ref it) rfl ?_)
    refine wpAny_bind (wpAny_nextOf_tuple_end (A := X.A.in1) hh hit p (by simp; omega) fun h' x he' hx' => ?_)
    obtain ⟨o, ho, hc'⟩ := hx'
    refine wpAny_bind (wpAny_isInstance (T := "StopIteration") (b := true) ⟨o, ho, hc'⟩ isSubtype_stop ?_)
    exact wpAny_pure ⟨rfl, I.turned (t' := s.toks) (fun b o hb q => he' b o hb q) f0 f1 f3 f4 f5⟩
  self := fun A i s Q E ⟨⟨_, he⟩, _⟩ h => wpAny_pyIter_enum he h

abbrev tupIt (t : Addr) : Obj := { cls := .type "tuple_iterator", data := .fields #[.ref t, .int 0 0] }
abbrev enRec (it : Addr) : Obj := { cls := .type "enumerate", data := .fields #[.none, .bool false, .ref it, rawInt 0, .none, .none] }
set_option maxHeartbeats 1000000 in
theorem enum_newT (t : Addr) (items : Array Value) :
    Meets (Builtin.«enumerate.__new__» ⟨[.type "enumerate", .ref t], []⟩) (fun _ R s => s.heap.IsTuple t items ∧
      R (.ok (.ret (.ref (s.heap.push (tupIt t)).objs.size))) { s with heap := (s.heap.push (tupIt t)).push (enRec s.heap.objs.size) }) :=
  .of_wp fun prog w A R s h => by
    obtain ⟨hp, g, d, tk, os⟩ := s; obtain ⟨h1, h⟩ := h
    have hsub := sub_enumerate
    have q1 : ∀ {A' : Around} {E : Value → Shared → Prop} {Q : Value → Shared → Prop}, Q (.ref hp.objs.size) ⟨hp.push (tupIt t), g, d, tk, os⟩ → wpAny (model prog w) A' (pyIter (.ref t)) Q E ⟨hp, g, d, tk, os⟩ :=
      fun q => wpAny_pyIter_tuple h1 q
    wp_walk using q1
    refine wpAny_stack_any fun st => wpAny_pure ?_
    split
    · rename_i c _ _ _ _ _
      cases (c == Value.type "enumerate") <;> (wp_walk using q1; exact ⟨_, rfl, h⟩)
    · wp_walk using q1
      exact ⟨_, rfl, h⟩
theorem call_enumT {prog : Program} {w : World} {A : Around} {E : Value → Shared → Prop} {s : Shared} {t : Addr} {items : Array Value} {Q : Value → Shared → Prop} (hL : s.heap.IsTuple t items)
    (h : ∀ h', IsEnum h' (s.heap.objs.size + 1) s.heap.objs.size 0 .none → h'.IsTupleIter s.heap.objs.size t 0 →
      (∀ b o, s.heap.get? b = some o → h'.get? b = some o) → Q (.ref (s.heap.objs.size + 1)) { s with heap := h' }) :
    wpAny (model prog w) A (call (.type "enumerate") [.ref t]) Q E s := by
  refine callType_new F.called_enumerate (by decide) (F.typeCall_enumerate_1 _) (F.newCall_enumerate_1 _) (fun obj => F.args_object_init_2 obj _) F.entry_enumerate_new (enum_newT t items) ⟨hL, ?_⟩
  have hz : (s.heap.push (tupIt t)).objs.size = s.heap.objs.size + 1 := Heap.size_push ..
  have he : ((s.heap.push (tupIt t)).push (enRec s.heap.objs.size)).get? (s.heap.objs.size + 1) = some (enRec s.heap.objs.size) := by
    rw [← hz]; exact Heap.get?_push_size _ rfl
  show _ ∧ _
  rw [hz]
  exact ⟨⟨_, he, rfl⟩, h _ he ⟨_, Heap.get?_push_of_some _ (Heap.get?_push_size _ rfl), rfl, rfl⟩ fun b o x => Heap.get?_push_of_some _ (Heap.get?_push_of_some _ x)⟩

def iEnumT (K : PySem.W.Frag) (ta : TA) : TI := fun σ H R => ta σ H fun vs H1 => ∃ a xs, vs = [.ref a] ∧ SqT K H1 a xs ∧ R (IteT K a) H1
section
variable {X : Cx} {ct : CT} {W : WX} {e : Expr} {ta : TA} {p pos tpos : Pos} {elts : List Expr} {kk : Nat} {fs : SemA}
theorem pi_enumT (hg : Gl X "enumerate") (hm : X.mg "enumerate" = none) (ha : PA X [e] ta) (hs : starEach [e] X.env = [(false, eval e X.env)] := by rfl) :
    PI X (.Tuple elts kk tpos) (.Call (.Name "enumerate" p) [e] [] pos) (iEnumT X.K ta) := by
  refine ⟨fun pins s σ H R I h => ?_⟩
  refine PyProof.Rows.Call_ (ld_blt I hg hm PyProof.Rows.boot_enumerate (PyProof.Rows.callWith_type1 (thn (ha.run pos pins s σ H _ I h) fun us s1 ⟨vs, H1, I1, r1, a, xs, ex, hq, q⟩ => ?_) hs rfl))
  subst ex
  obtain ⟨u, rfl, r⟩ := r1.one
  cases r
  obtain ⟨its, rv, p', hz⟩ := I1.tuple hq
  refine call_enumT p' fun h' he hit hk => wpAny_pyIter_enum he ?_
  refine ⟨s1.heap.objs.size + 1, [s1.heap.objs.size + 1, s1.heap.objs.size], _, _, H1, rfl, I1.kept (t' := s1.toks) hk, turn_enumT a (s1.heap.objs.size + 1) s1.heap.objs.size, ⟨⟨.none, he⟩, hit, Nat.succ_ne_self _⟩, fun b hb => ?_, q⟩
  have hle : s1.heap.objs.size ≤ b := by
    rcases List.mem_cons.mp hb with rfl | hb
    · exact Nat.le_add_right _ _
    · obtain rfl := List.mem_singleton.mp hb; exact Nat.le_refl _
  exact I1.fpOk hle (I1.hok.fresh hle)
theorem wks_enumT {K : PySem.W.Frag} {m : List Addr} {ah : Hs} {H : Hp} {a : Addr} {ds : List D} {vs : List V} (h : H a = some (.tup vs) ∧ Sf m ah a) (r : DRs K ct (Sf m ah) H ds vs) : Wks K ct (enumD ds) m ah H (IteT K a) := fun m2 h2 H2 hr ex => by
  have h' : SqT K H2 a vs := sqT_of (sqT_ext ex h)
  have r' := r.mono ex
  refine ⟨fun i hi => ⟨vs, h', by rw [← r.length]; rw [enumD_len] at hi; exact hi⟩, fun i d hd => ?_⟩
  rw [enumD_get] at hd
  cases q : ds[i]? with
  | none => rw [q] at hd; cases hd
  | some d0 =>
    rw [q] at hd; cases hd
    obtain ⟨y, hy, ry⟩ := r'.get q
    refine ⟨⟨vs, y, h', hy⟩, fun x H3 hx => ?_⟩
    obtain ⟨T, x1, rfl, hT, rfl, hx⟩ := hx
    have e := hx vs h'
    rw [hy] at e
    cases e
    exact pair_new hr hT (.int _) ry
def iEnT (f : SemA) : SemI := fun σ h => rb (f σ h) fun xs h1 => match xs with
  | [.d (.tup ds)] => .ok (enumD ds) h1
  | _ => .bad
theorem si_enumT (hg : Gl X "enumerate") (hm : X.mg "enumerate" = none) (ha : SA X ct W [e] fs) (hs : starEach [e] X.env = [(false, eval e X.env)] := by rfl) : SI X ct W (.Tuple elts kk tpos) (.Call (.Name "enumerate" p) [e] [] pos) (iEnT fs) :=
  PI.imp (pi_enumT hg hm ha hs) fun σV H R ⟨m, ah, σ, hr, lr, p⟩ => ⟨m, ah, σ, hr, lr, (Po.bind (R := VlRs X.K ct) p).imp fun vs H1 ⟨m1, h1, xs, hr1, e1, r1, p1⟩ => by
    dsimp only at p1
    split at p1
    · cases r1 with
      | cons r t =>
        cases t
        cases r with
        | tup h r => exact ⟨_, _, rfl, sqT_of h, p1 m1 H1 _ hr1 (Ext.refl _ _ _) (wks_enumT h r)⟩
    · exact p1.elim⟩
end
end Mi

/-! Mi10: what the printed parts lean on: names, facts, the head's own hook, the law's end -/
namespace Mi
open PySem PySem.Spec L2

/-! ### a list or a tuple is walked -/
def iSeq (f : SemE) : SemI := iOf pureSeq f
theorem si_seq {X : Cx} {ct : CT} {W : WX} {tg e : Expr} {f : SemE} (he : SE X ct W e f) : SI X ct W tg e (iSeq f) :=
  ⟨fun pins s σV H R I ⟨m, ah, σ, hr, lr, p⟩ => by
    unfold iSeq iOf at p
    cases q : f σ ah with
    | bad => rw [q] at p; exact p.elim
    | exc e h => rw [q] at p; exact (si_list he).run pins s σV H R I ⟨m, ah, σ, hr, lr, by unfold iLs iOf; rw [q]; exact p⟩
    | ok x h =>
      rw [q] at p
      cases q2 : pureLst x with
      | some ds =>
        refine (si_list he).run pins s σV H R I ⟨m, ah, σ, hr, lr, ?_⟩
        unfold iLs iOf
        rw [q]
        have e3 : pureSeq x = some ds := by
          cases x with
          | r k => cases q2
          | d d => cases d <;> first | exact q2 | cases q2
        simp only [rb_ok, e3] at p
        simp only [rb_ok, q2]
        exact p
      | none =>
        cases q3 : pureTup x with
        | some ds =>
          refine (si_tup he).run pins s σV H R I ⟨m, ah, σ, hr, lr, ?_⟩
          unfold iTu iOf
          rw [q]
          have e3 : pureSeq x = some ds := by
            cases x with
            | r k => cases q3
            | d d => cases d <;> first | exact q3 | cases q3
          simp only [rb_ok, e3] at p
          simp only [rb_ok, q3]
          exact p
        | none =>
          have e3 : pureSeq x = none := by
            cases x with
            | r k => rfl
            | d d => cases d <;> first | rfl | (cases q2; done) | (cases q3; done)
          simp only [rb_ok, e3] at p
          exact p.elim⟩

/-! ### names of attributes -/
def nmL (l : List Str) (n : Nat) : Str := match l[n]? with
  | some x => x
  | none => ⟨Array.replicate (n + 1) 0⟩
def okL (l : List Str) : Bool := decide l.Nodup && l.all fun x => x.cps[0]? != some 0
theorem nmL_new {l : List Str} {x : Str} (h1 : x ∉ l) (h2 : x.cps[0]? ≠ some 0) (n : Nat) : nmL l n ≠ x := fun e => by
  unfold nmL at e
  split at e
  · rename_i y hy
    subst e
    exact h1 (List.mem_of_getElem? hy)
  · subst e
    exact h2 (by simp)
theorem nmL_inj {l : List Str} (h : okL l = true) (a b : Nat) (e : nmL l a = nmL l b) : a = b := by
  unfold okL at h
  simp only [Bool.and_eq_true, decide_eq_true_eq, List.all_eq_true, bne_iff_ne, ne_eq] at h
  obtain ⟨nd, nz⟩ := h
  unfold nmL at e
  cases ha : l[a]? with
  | some x =>
    rw [ha] at e
    cases hb : l[b]? with
    | some y =>
      rw [hb] at e
      dsimp only at e
      subst e
      have la := (List.getElem?_eq_some_iff.mp ha).1
      exact (List.getElem?_inj la nd).mp (ha.trans hb.symm)
    | none =>
      rw [hb] at e
      dsimp only at e
      exact absurd (by rw [e]; simp) (nz x (List.mem_of_getElem? ha))
  | none =>
    rw [ha] at e
    cases hb : l[b]? with
    | some y =>
      rw [hb] at e
      dsimp only at e
      exact absurd (by rw [← e]; simp) (nz y (List.mem_of_getElem? hb))
    | none =>
      rw [hb] at e
      dsimp only at e
      have := congrArg (fun z : Str => z.cps.size) e
      simpa using this

/-! ### what is known of the written part -/
/-- the answers of isinstance with a built-in class -/
abbrev isiL (t : List String) : List (Ty × Bool) := ["NoneType", "bool", "int", "str", "tuple", "list", "dict"].map fun a => (Ty.b a, decide (a ∈ t))
theorem isi_int {K : PySem.W.Frag} {ct : CT} : IsiOk K ct (.type "int") (isiL ["int", "bool"]) := isi_any (by decide +kernel) [("NoneType", false), ("bool", true), ("int", true), ("str", false), ("tuple", false), ("list", false), ("dict", false)] (by decide +kernel)
theorem isi_bool {K : PySem.W.Frag} {ct : CT} : IsiOk K ct (.type "bool") (isiL ["bool"]) := isi_any (by decide +kernel) [("NoneType", false), ("bool", true), ("int", false), ("str", false), ("tuple", false), ("list", false), ("dict", false)] (by decide +kernel)
theorem isi_str {K : PySem.W.Frag} {ct : CT} : IsiOk K ct (.type "str") (isiL ["str"]) := isi_any (by decide +kernel) [("NoneType", false), ("bool", false), ("int", false), ("str", true), ("tuple", false), ("list", false), ("dict", false)] (by decide +kernel)
theorem isi_tuple {K : PySem.W.Frag} {ct : CT} : IsiOk K ct (.type "tuple") (isiL ["tuple"]) := isi_any (by decide +kernel) [("NoneType", false), ("bool", false), ("int", false), ("str", false), ("tuple", true), ("list", false), ("dict", false)] (by decide +kernel)
theorem isi_list {K : PySem.W.Frag} {ct : CT} : IsiOk K ct (.type "list") (isiL ["list"]) := isi_any (by decide +kernel) [("NoneType", false), ("bool", false), ("int", false), ("str", false), ("tuple", false), ("list", true), ("dict", false)] (by decide +kernel)
theorem isi_dict {K : PySem.W.Frag} {ct : CT} : IsiOk K ct (.type "dict") (isiL ["dict"]) := isi_any (by decide +kernel) [("NoneType", false), ("bool", false), ("int", false), ("str", false), ("tuple", false), ("list", false), ("dict", true)] (by decide +kernel)
/-- what a call of a def leans on -/
structure FnI (K : PySem.W.Frag) (F : Fn) : Prop where
  kp : PySem.W.keepIn K (.ref F.f) = true
  bi : Binds K F.fd F.ps []
/-- .. of the context -/
structure Cq (X : Cx) (ct : CT) (fns : List Fn) (call : CallT) (n : Nat) : Prop where
  co : CallOk X.prog X.w X.K X.mg X.base ct fns call n
  ro : Room (2 * n + 2) X.A
theorem takesW {X : Cx} : Takes X W0 := fun _ _ ⟨_, _, _, _, _, _, _, _, _, _, _, _, _, _, _, _, w⟩ => w.elim
section
variable {X : Cx} {ct : CT} {W : WX} {pos p apos : Pos} {e o : Expr} {es : List Expr} {f : SemE} {fs : SemA} {call : CallT} {n i : Nat} {F : Fn} {x : Str} {fns : List Fn}
theorem sc_call (c : Cq X ct fns call n) (tk : Takes X W) (fi : FnI X.K F) (hm : X.mg x = some (.ref F.f)) (hF : fns[i]? = some F) (hg : Gl X x) (ha : SA X ct W (e :: es) fs) (hdb : (x == ("__debug__" : Str)) = false := by decide)
    (he : starEach (e :: es) X.env = (false, eval e X.env) :: starEach es X.env := by rfl) (hpl : (backTo pos (starEach es X.env)).any (·.1) = false := by rfl) : SE X ct W (.Call (.Name x p) (e :: es) [] pos) (eCl call i [] fs) :=
  se_call c.co tk (c.ro.mono (Nat.le_succ _)) hF hg hm fi.kp fi.bi .nil Dfl.nil ha hdb he hpl
theorem sc_call0 (c : Cq X ct fns call n) (tk : Takes X W) (fi : FnI X.K F) (hm : X.mg x = some (.ref F.f)) (hF : fns[i]? = some F) (hg : Gl X x) (hdb : (x == ("__debug__" : Str)) = false := by decide) : SE X ct W (.Call (.Name x p) [] [] pos) (eCl call i [] aNil) :=
  se_call0 c.co tk (c.ro.mono (Nat.le_succ _)) hF hg hm fi.kp fi.bi .nil Dfl.nil hdb
theorem sc_make {C : Nat} (c : Cq X ct fns call n) (tk : Takes X W) (fi : FnI X.K F) (M : Mk X.K (ct.ca C) F.f) (hm : X.mg x = some (.ref (ct.ca C))) (hF : fns[i]? = some F) (hg : Gl X x) (ha : SA X ct W (e :: es) fs) (hdb : (x == ("__debug__" : Str)) = false := by decide)
    (he : starEach (e :: es) X.env = (false, eval e X.env) :: starEach es X.env := by rfl) (hpl : (backTo pos (starEach es X.env)).any (·.1) = false := by rfl) : SE X ct W (.Call (.Name x p) (e :: es) [] pos) (eMk call i C [] fs) :=
  se_make c.co tk c.ro hF M hg hm fi.bi .nil Dfl.nil ha hdb he hpl
theorem sc_own {C : Nat} (c : Cq X ct fns call n) (fi : FnI X.K F) (M : Meth X.K (ct.ca C) "__eq__" F.f) (hF : fns[i]? = some F) : OpR X (compareOp .Eq) (rOp X.K ct (oOwn call i C)) :=
  own_sound c.co (c.ro.mono (Nat.le_succ _)) hF M.at_ M.fn fi.bi
theorem unR {k : Nat} {A : Around} (r : Room k A) : A.units + 64 < cLine := by have := r.un; omega
theorem unR5 {k : Nat} {A : Around} (r : Room k A) : A.units + 65 < cLine := by have := r.un; omega
theorem un (c : Cq X ct fns call n) : X.A.units + 65 < cLine := by have := c.ro.un; omega
theorem un' (c : Cq X ct fns call n) : X.A.units + 64 < cLine := by have := c.ro.un; omega
end

/-! ### a head that tells further facts -/
open He in
def obsMG (n : Nat) (xf : PySem.W.Frag → Bool) (fa : List Fa) (fn : List DefD) (g : Addr → Option Obj) : Bool × AlD := obsM xf fa fn (frG g (asD g n))
open He in
def hookM (n : Nat) (xf : PySem.W.Frag → Bool) (fa : List Fa) (fn : List DefD) : PySem.W.Hook where
  α := Bool × AlD
  obs := fun s => obsMG n xf fa fn s.heap.get?
  val := fun _ => (true, valD fn)
  says := fun _ h => ∃ K : PySem.W.Frag, K.In h ∧ SaysM xf fa fn K
  of := fun _ _ e => ⟨_, frG_in, e⟩
  keeps := fun _ _ _ ⟨K, hK, c⟩ k => ⟨K, PySem.W.Frag.In.keeps hK k, c⟩
open He in
theorem obsMG_eq {n : Nat} {xf : PySem.W.Frag → Bool} {fa : List Fa} {fn : List DefD} {g : Addr → Option Obj} {s : Shared} (h : ∀ a, g a = s.heap.get? a) : obsMG n xf fa fn g = (hookM n xf fa fn).obs s := by
  rw [show g = s.heap.get? from funext h]; rfl
theorem SaysM.d {xf : PySem.W.Frag → Bool} {fa : List He.Fa} {fn : List He.DefD} {K : PySem.W.Frag} (c : SaysM xf fa fn K) : He.SaysD fa fn K := congrArg (fun z : Bool × He.AlD => z.2) c
theorem SaysM.x {xf : PySem.W.Frag → Bool} {fa : List He.Fa} {fn : List He.DefD} {K : PySem.W.Frag} (c : SaysM xf fa fn K) : xf K = true := congrArg (fun z : Bool × He.AlD => z.1) c
theorem isiB_ok {K : PySem.W.Frag} {C : Addr} (c : Cls K C) (h : isiB K C = true) : IsiC K C := by
  unfold isiB at h
  simp only [Bool.and_eq_true, decide_eq_true_eq] at h
  exact ⟨c, He.eqO_ok h.1, He.eqO_ok h.2.1, h.2.2.1, h.2.2.2⟩
theorem kitA_ok {K : PySem.W.Frag} {t u : Value} {b : Bool} (h : kitA K t u b = true) : PySem.W.kitOne K t u = some b := of_decide_eq_true h
/-! ### the law's end -/
/-- the script as it comes in -/
theorem scr_in {K : PySem.W.Frag} {ct : CT} {H : Hp} {a : Addr} {ns : List Int} (hO : Only H) (h : SqL K H a (ns.map V.int)) : HR K ct [] [] H ∧ DR K ct (Sf [] []) H (.scr (ns.map D.int)) (.ref a) := by
  have r : DRs K ct (Sf [] []) H (ns.map D.int) (ns.map V.int) := by
    clear h hO
    induction ns with
    | nil => exact .nil
    | cons n ns ih => exact .cons (.int n) ih
  have s : Sf [] [] a := fun ⟨k, o, e, _⟩ => by simp at e
  refine ⟨⟨rfl, fun i j a e => by simp at e, fun k a o e => by simp at e⟩, ?_⟩
  refine .scr (h.imp (fun h => ⟨?_, s⟩) id) r
  rcases h with h | h
  · rcases hO a with z | ⟨o, xs, z⟩ <;> rw [z] at h <;> cases h
  · exact h
end Mi

/-! Mi11: the end of a law, where the def's promise knows that no repr is under way -/
namespace Mi
open PySem PySem.Spec PyProof.Rows L2
/-- the law's def is called: nothing but the script may be tracked -/
theorem call_law {P : Program} {w : World} {K : PySem.W.Frag} {mg mb : Str → Option Value} {CX : CXT} {k : Nat} {fA scA : Addr} {fd : FuncData} {x : Str} {sp : Sp} {s1 : Shared} {us : List Value} {ns : List Int}
    (kx : K.In s1.heap) (hmn : s1.heap.Ns mainGlobals mg) (hbn : s1.heap.Ns builtinsNs mb) (hbt : ∀ x : Str, x ≠ "__name__" → mb x = bootBuiltins x) (hli : s1.heap.NoLimit) (hge : s1.gens = #[])
    (hsc : s1.heap.get? scA = some { cls := .type "list", data := .seq us.toArray }) (hin : IntsAre us ns) (hle : ns.length ≤ sizeLine) (hro : Room k callerA)
    (F : ∀ base : Heap, K.In base → base.Ns mainGlobals mg → FnOk P w K mg base CX k fA fd [x] sp) (hbi : ∀ (s : Shared) (u : Value), BindsTo s fd ⟨[u], []⟩ [(x, u)])
    (hpr : ∀ H : Hp, Only H → SqL K H scA (ns.map V.int) → sp [.ref scA] H (fun v _ => v = .bl true) fun _ _ _ => False) (hno : ∀ H e s', CX [] H s1 (fun _ _ _ => False) e s' → False) :
    codeAny (model P w) callerA (.call (.ref fA) ⟨[.ref scA], []⟩) (fun r s' => r = .ok (.ret (.bool true)) ∧ OldK s1.heap s'.heap ∧ s'.os = s1.os ∧ AllBare s'.gens) s1 := by
  have rel := vals_ints hin
  have lenU := hin.length
  have main : ∀ H : Hp, Only H → SqL K H scA (ns.map V.int) → HOk P w H s1.heap → (∀ b, H b ≠ none → b = scA) → (H scA ≠ none → K.lookup scA = none) →
      codeAny (model P w) callerA (.call (.ref fA) ⟨[.ref scA], []⟩) (fun r s' => r = .ok (.ret (.bool true)) ∧ OldK s1.heap s'.heap ∧ s'.os = s1.os ∧ AllBare s'.gens) s1 := by
    intro H only seq hok lone unwritten
    have at_b : ∀ {b : Addr} {o : Obj}, s1.heap.get? b = some o → H b = none → (hidT s1.heap H).get? b = some o := fun e n => hidT_get e n
    have dicts : ∀ {b : Addr} {o : Obj} {es : Array DictEntry} {ep : Nat}, s1.heap.get? b = some o → o.data = .dict es ep → H b = none := fun {b o es ep} e d => by
      cases q : H b with
      | none => rfl
      | some u =>
        obtain rfl : b = scA := lone b (by rw [q]; simp)
        rw [hsc] at e
        cases e
        exact (nomatch (show Data.seq us.toArray _ = Data.dict es ep from d))
    have spaces : ∀ {b : Addr} {m : Str → Option Value}, s1.heap.Ns b m → (hidT s1.heap H).Ns b m := fun ⟨o, es, ep, e, d, r⟩ => ⟨o, es, ep, at_b e (dicts e d), d, r⟩
    have kin : K.In (hidT s1.heap H) := fun b o e => at_b (kx b o e) (by
      cases q : H b with
      | none => rfl
      | some u =>
        obtain rfl : b = scA := lone b (by rw [q]; simp)
        rw [unwritten (by rw [q]; simp)] at e
        cases e)
    have modu : Mod K mg (hidT s1.heap H) := ⟨kin, spaces hmn, ⟨mb, spaces hbn, hbt⟩, let ⟨mc, h1, h2⟩ := hli; ⟨mc, spaces h1, h2⟩⟩
    have env0 : Env0 P w K mg (hidT s1.heap H) callerA [] s1 H := ⟨rfl, modu, fun b o e => of_hidT e, Nat.le_of_eq (hidT_size _ _), trivial, fun b hb => (nomatch (show b ∈ ([] : List Addr) from hb)), hok, .of_eq hge⟩
    refine codeAny_mono ((F _ kin (spaces hmn)).run callerA [] s1 H ⟨[.ref scA], []⟩ [.ref scA] [.ref scA] _ _ hro env0 (hbi s1 (.ref scA)) (.cons rfl .nil) (hpr H only seq)) fun r s' z => ?_
    match r, z with
    | .error e, z => exact (hno H e s' z).elim
    | .ok .next, z => exact False.elim z
    | .ok .brk, z => exact False.elim z
    | .ok .cont, z => exact False.elim z
    | .ok (.ret u), z =>
      obtain ⟨v, H', os, bare, un, hok', rv, q⟩ := z
      have q1 : v = .bl true := q
      subst q1
      obtain rfl : u = Value.bool true := rv
      refine ⟨rfl, OldK.of_keep fun b o e => ?_, os, bare⟩
      rcases hH : H b with _ | u
      · exact un.keep b o e hH (fun z => nomatch (show b ∈ ([] : List Addr) from z)) (by simp)
      · rcases only b with z | ⟨ob, xs, z⟩
        · rw [hH] at z; cases z
        · obtain ⟨e1, _⟩ := hok b _ z
          obtain ⟨e2, _⟩ := hok' b _ (un.frzs b ob _ z)
          rw [e] at e1
          cases e1
          exact e2
  rcases hk : K.lookup scA with _ | o
  · refine main (fun b => if b = scA then some (.frz { cls := .type "list", data := .seq us.toArray } (.lst (ns.map V.int))) else none) (fun b => ?_) (.inl (.inr ⟨{ cls := .type "list", data := .seq us.toArray }, if_pos rfl⟩)) (fun b u z => ?_) (fun b z => ?_) fun _ => hk
    · by_cases e : b = scA
      · exact .inr ⟨_, _, if_pos e⟩
      · exact .inl (if_neg e)
    · by_cases e : b = scA
      · cases (if_pos e).symm.trans z
        subst e
        exact ⟨hsc, by rw [List.length_map]; exact hle, us, _, rel, hsc⟩
      · cases (if_neg e).symm.trans z
    · exact Classical.byContradiction fun e => z (if_neg e)
  · have e := kx scA o hk
    rw [hsc] at e
    cases e
    exact main (fun _ => none) (fun _ => .inl rfl) (.inr ⟨_, us.toArray, _, hk, rfl, rfl, rfl, by rw [List.size_toArray, lenU]; exact hle, by simpa using rel⟩) (fun b u z => nomatch (show (none : Option HO) = some u from z)) (fun b z => absurd rfl z) fun z => absurd rfl z
/-- the walk of a law by facts -/
theorem walk_law {l : PySem.W.OpenLaw} {n k : Nat} {q : Program} {loose : List Str} {XP : (Str → Option Value) → Heap → Prop} {YP : World → Heap → Prop} {d : DefRec} {CX : CXT} {x : Str} (hmo : l.most = some n) (hmo2 : n ≤ sizeLine) (hde : d.params.defaults = []) (hro : Room k callerA)
    (F : ∀ (w : World) (mg : Str → Option Value) (fA : Addr) (h : Heap), YP w h → h.Ns mainGlobals mg → mg d.name = some (.ref fA) → ∃ (K : PySem.W.Frag) (fd : FuncData) (sp : Sp), K.In h ∧ (∀ (s : Shared) (u : Value), BindsTo s fd ⟨[u], []⟩ [(x, u)]) ∧
      (∀ (H : Hp) (a : Addr) (ns : List Int), ns.length ≤ n → Only H → SqL K H a (ns.map V.int) → sp [.ref a] H (fun v _ => v = .bl true) fun _ _ _ => False) ∧ ∀ base : Heap, K.In base → base.Ns mainGlobals mg → FnOk l.prog w K mg base CX k fA fd [x] sp)
    (hno : ∀ (H : Hp) (s : Shared) (e : Value) (s' : Shared), CX [] H s (fun _ _ _ => False) e s' → False) : PySem.W.WalkO q loose XP YP l.row.toRowW d [] (fun f vs => PySem.call f vs) := by
  refine Att.attach_call hmo hde fun w s₀ s₁ mg mb fA o pm cd doc a vs ns G Y ho hd hcd hmg hobj hints hlen hg => ?_
  obtain ⟨K, fd, sp, kx, hb, hsp, hF⟩ := F w mg fA _ Y G.T.g hmg
  exact call_law kx G.T.g G.T.b G.T.builtins G.T.nolimit hg hobj hints (Nat.le_trans hlen hmo2) hro hF hb (fun H hO hS => hsp H a ns hlen hO hS) fun H e s' => hno H s₁ e s'
theorem FnOk.still {P : Program} {w : World} {K : PySem.W.Frag} {mg : Str → Option Value} {base : Heap} {k : Nat} {f : Addr} {fd : FuncData} {ps : List Str} {sp : Sp} (F : FnOk P w K mg base (L2.CX P w) k f fd ps sp) :
    FnOk P w K mg base L2.CX0 k f fd ps (fun vs H Q _ => sp vs H Q fun _ _ _ => False) :=
  ⟨fun vs H Q E h => F.len vs H Q _ h, fun A outer s H args us vs Q E hr e0 hb r h => codeAny_mono (F.run A outer s H args us vs Q _ hr e0 hb r h) fun r s' q => by
    cases r with
    | error e => obtain ⟨_, _, _, _, _, _, _, _, _, _, _, _, z⟩ := q; exact z.elim
    | ok fl => cases fl <;> exact q⟩
theorem law_sp {K : PySem.W.Frag} {ct : CT} {defs : List MDef} {n i : Nat} (hlaw : ∀ ns : List Int, ns.length ≤ 63 → ∃ h, callF defs n i [.d (.scr (ns.map D.int))] [] = .ok (.d (.bl true)) h)
    (H : Hp) (a : Addr) (ns : List Int) (hl : ns.length ≤ 63) (hO : Only H) (hS : SqL K H a (ns.map V.int)) : spC K ct (callF defs n) i [.ref a] H (fun v _ => v = .bl true) (fun _ _ _ => False) := by
  obtain ⟨h, e⟩ := hlaw ns hl
  refine ⟨[], [], [.d (.scr (ns.map D.int))], (scr_in (ct := ct) hO hS).1, .cons (scr_in hO hS).2 .nil, ?_⟩
  rw [e]
  intro m' H' v _ _ r
  cases r
  rfl
end Mi

/-! Mi12: meanings at work: what each combinator gives where it is applied; rules for loops; == of data -/
namespace Mi
open PySem

/-- what range(j) walks -/
def rngR (xs : List Vl) (h1 : Hs) : Res (List D) := match xs with
  | [.d (.int j)] => if smI j = true then .ok (rngD 0 j.toNat) h1 else .bad
  | _ => .bad
theorem rngR_int {i : Int} {h : Hs} (h0 : 0 ≤ i) (h1 : i < 16777216) : rngR [.d (.int i)] h = .ok (rngD 0 i.toNat) h := if_pos (Nat.ble_eq_true_of_le (by omega))
theorem rngR_nat {k : Nat} {h : Hs} (h1 : k < 16777216) : rngR [.d (.int (k : Int))] h = .ok (rngD 0 k) h := by
  rw [rngR_int (by omega) (by omega), Int.toNat_natCast]
/-- tuple(range(n)) -/
def trR (x : Vl) (h1 : Hs) : Res Vl := match x with
  | .d (.int n) => if smR n = true then .ok (.d (.tup (rngD 0 n.toNat))) h1 else .bad
  | _ => .bad
theorem trR_nat {k : Nat} {h : Hs} (h1 : k < 16777216) : trR (.d (.int (k : Int))) h = .ok (.d (.tup (rngD 0 k))) h := by
  unfold trR
  dsimp only
  rw [if_pos (by unfold smR; rw [decide_eq_true (by omega : (0 : Int) ≤ (k : Int)), Bool.true_and]; exact Nat.ble_eq_true_of_le (by omega)), Int.toNat_natCast]
section
variable {σ : Lo} {h : Hs} {f g k : SemE} {t u : SemT} {fs : SemA} {p q : SemS} {call : CallT}
@[simp] theorem ap_var (i : Nat) : eVar i σ h = (match σ[i]? with
  | some (some v) => .ok v h
  | _ => .bad) := rfl
@[simp] theorem ap_k (d : D) : eK d σ h = .ok (.d d) h := rfl
@[simp] theorem ap_bin (op : Op2) : eBin op f g σ h = rb (f σ h) fun x h1 => rb (g σ h1) fun y h2 => ro (op x y h2) := rfl
@[simp] theorem ap_un (op : Op1) : eUn op f σ h = rb (f σ h) fun x h1 => ro (op x h1) := rfl
@[simp] theorem ap_chain (o o' : Op2) : eChain o o' f g k σ h = rb (f σ h) fun x h1 => rb (g σ h1) fun y h2 => rb (ro (o x y h2)) fun z h3 => match z with
  | .d (.bl b) => if b = true then rb (k σ h3) fun w h4 => ro (o' y w h4) else .ok (.d (.bl false)) h3
  | _ => .bad := rfl
@[simp] theorem ap_if : eIf t f g σ h = rb (t σ h) fun b h1 => if b = true then f σ h1 else g σ h1 := rfl
@[simp] theorem ap_an : eAn f g σ h = rb (f σ h) fun x h1 => match truO x h1 with
  | some b => if b = true then g σ h1 else .ok x h1
  | none => .bad := rfl
@[simp] theorem ap_or : eOr f g σ h = rb (f σ h) fun x h1 => match truO x h1 with
  | some b => if b = true then .ok x h1 else g σ h1
  | none => .bad := rfl
@[simp] theorem ap_no : eNo f σ h = rb (f σ h) fun x h1 => match truO x h1 with
  | some b => .ok (.d (.bl (!b))) h1
  | none => .bad := rfl
@[simp] theorem ap_tru : tTru f σ h = rb (f σ h) fun x h1 => match truO x h1 with
  | some b => .ok b h1
  | none => .bad := rfl
@[simp] theorem ap_tbl : tBl f σ h = rb (f σ h) fun x h1 => match x with
  | .d (.bl b) => .ok b h1
  | _ => .bad := rfl
@[simp] theorem ap_tan : tAn t u σ h = rb (t σ h) fun b h1 => if b = true then u σ h1 else .ok false h1 := rfl
@[simp] theorem ap_tor : tOr' t u σ h = rb (t σ h) fun b h1 => if b = true then .ok true h1 else u σ h1 := rfl
@[simp] theorem ap_tno : tNo t σ h = rb (t σ h) fun b h1 => .ok (!b) h1 := rfl
@[simp] theorem ap_tys : tYs σ h = .ok true h := rfl
@[simp] theorem ap_nil : aNil σ h = .ok [] h := rfl
@[simp] theorem ap_cons : aCons f fs σ h = rb (f σ h) fun x h1 => rb (fs σ h1) fun xs h2 => .ok (x :: xs) h2 := rfl
@[simp] theorem ap_tup : eTup fs σ h = rb (fs σ h) fun xs h1 => match toDs xs h1 with
  | some (ds, h2) => if ds.length ≤ 1000 then .ok (.d (.tup ds)) h2 else .bad
  | none => .bad := rfl
@[simp] theorem ap_lv : eLv fs σ h = rb (fs σ h) fun xs h1 => match toDs xs h1 with
  | some (ds, h2) => if ds.length ≤ 1000 then .ok (.d (.lv ds)) h2 else .bad
  | none => .bad := rfl
@[simp] theorem ap_lst : eLst fs σ h = rb (fs σ h) fun xs h1 => match toDs xs h1 with
  | some (ds, h2) => if ds.length ≤ 1000 then .ok (.r h2.length) (h2 ++ [.lst ds]) else .bad
  | none => .bad := rfl
@[simp] theorem ap_onone : oNone σ h = .ok none h := rfl
@[simp] theorem ap_osome : oSome f σ h = rb (f σ h) fun x h1 => match x with
  | .d (.int i) => .ok (some i) h1
  | _ => .bad := rfl
@[simp] theorem ap_sl (lo hi : SemO) : eSl f lo hi σ h = rb (f σ h) fun x h1 => rb (lo σ h1) fun a h2 => rb (hi σ h2) fun b h3 => ro (slO x a b h3) := rfl
@[simp] theorem ap_n (op : OpN) : eN op fs σ h = rb (fs σ h) fun xs h1 => ro (op xs h1) := rfl
@[simp] theorem ap_cl (i : Nat) (ds : List D) : eCl call i ds fs σ h = rb (fs σ h) fun xs h1 => call i (xs ++ ds.map Vl.d) h1 := rfl
@[simp] theorem ap_mk (i C : Nat) (ds : List D) : eMk call i C ds fs σ h = rb (fs σ h) fun xs h1 => mkI call i C (xs ++ ds.map Vl.d) h1 := rfl
@[simp] theorem ap_fd (ok : Nat → Bool) (n : Nat) : eFd ok n f σ h = rb (f σ h) fun x h1 => match insOf x h1 with
  | some (C, fs) => if ok C = true then (match fs.lookup n with
    | some d => .ok (.d d) h1
    | none => .bad) else .bad
  | none => .bad := rfl
@[simp] theorem ap_isi (l : List (Ty × Bool)) : eIsi l f σ h = rb (f σ h) fun x h1 => match tyD x h1 with
  | some t => (match lookT t l with
    | some b => .ok (.d (.bl b)) h1
    | none => .bad)
  | none => .bad := rfl
@[simp] theorem ap_tr : eTR f σ h = rb (f σ h) trR := congrFun (funext fun (_ : Unit) => rfl : (fun _ => eTR f σ h) = fun _ : Unit => rb (f σ h) trR) ()
@[simp] theorem ap_lc (mu : Bool) (vs : List Nat) (it : SemI) (gg : SemG) : eLc mu vs it gg t f σ h = rb (it σ h) fun ds h1 => match cmpL vs gg t f h1.length ds σ (h1 ++ [.lst []]) with
  | some h2 => lcEnd mu h1.length h2
  | none => .bad := rfl
@[simp] theorem ap_lm (op : List D → List D → Hs → Option (List D × Vl)) : eLm op f fs σ h = rb (f σ h) fun x h1 => match x with
  | .r k => (match h1[k]? with
    | some (.lst _) => rb (fs σ h1) fun ys h2 => (match h2[k]? with
      | some (.lst xs) => (match toDs ys h2 with
        | some (ds, h3) => (match h3[k]? with
          | some (.lst _) => (match op xs ds h3 with
            | some (xs', v) => .ok v (h3.set k (.lst xs'))
            | none => .bad)
          | _ => .bad)
        | none => .bad)
      | _ => .bad)
    | _ => .bad)
  | _ => .bad := rfl
@[simp] theorem ap_xt : eXt f fs σ h = rb (f σ h) fun x h1 => match x with
  | .r k => (match h1[k]? with
    | some (.lst _) => rb (fs σ h1) fun ys h2 => (match ys, h2[k]? with
      | [y], some (.lst xs) => (match pureSeq y with
        | some zs => if xs.length + zs.length ≤ sizeLine then .ok (.d .non) (h2.set k (.lst (xs ++ zs))) else .bad
        | none => .bad)
      | _, _ => .bad)
    | _ => .bad)
  | _ => .bad := rfl
@[simp] theorem ap_snil : sNil σ h = .ok .nx σ h := rfl
@[simp] theorem ap_sq : sSq p q σ h = ss (p σ h) q := rfl
@[simp] theorem ap_ex : sEx f σ h = sb (f σ h) σ fun _ h1 => .ok .nx σ h1 := rfl
@[simp] theorem ap_rt : sRt f σ h = sb (f σ h) σ fun x h1 => .ok (.ret x) σ h1 := rfl
@[simp] theorem ap_rtn : sRtN σ h = .ok (.ret (.d .non)) σ h := rfl
@[simp] theorem ap_sif : sIf t p q σ h = sb (t σ h) σ fun b h1 => if b = true then p σ h1 else q σ h1 := rfl
@[simp] theorem ap_brk : sBrk σ h = .ok .brk σ h := rfl
@[simp] theorem ap_cnt : sCnt σ h = .ok .cnt σ h := rfl
@[simp] theorem ap_sbad : sBad σ h = .bad := rfl
@[simp] theorem ap_frz (i : Nat) : sFrz i σ h = (match σ[i]? with
  | some (some x) => (match toD x h with
    | some (d, h1) => .ok .nx (σ.set i (some (.d d))) h1
    | none => .bad)
  | _ => .bad) := rfl
@[simp] theorem ap_as (gg : SemG) : sAs f gg σ h = sb (f σ h) σ fun x h1 => match gg x σ h1 with
  | some (σ', h2) => .ok .nx σ' h2
  | none => .bad := rfl
@[simp] theorem ap_au (i : Nat) (op : Op2) : sAu i op f σ h = (match σ[i]? with
  | some (some x) => sb (f σ h) σ fun y h1 => match op x y h1 with
    | some (z, h2) => .ok .nx (σ.set i (some z)) h2
    | none => .bad
  | _ => .bad) := rfl
@[simp] theorem ap_sfd (ok : Nat → Bool) (n : Nat) : sFd ok n f g σ h = sb (g σ h) σ fun y h1 => match toD y h1 with
  | none => .bad
  | some (d, h2) => sb (f σ h2) σ fun x h3 => match x with
    | .r k => (match h3[k]? with
      | some (.ins C fs) => if ok C = true ∧ fs.length < 900 then .ok .nx σ (h3.set k (.ins C (putN n d fs))) else .bad
      | _ => .bad)
    | _ => .bad := rfl
@[simp] theorem ap_for (it : SemI) (gg : SemG) : sFor it gg p σ h = sb (it σ h) σ fun ds h1 => forL gg p ds σ h1 := rfl
@[simp] theorem ap_gnm (i : Nat) (x : Vl) : gNm i x σ h = some (σ.set i (some x), h) := rfl
@[simp] theorem ap_gni : gNi [] σ h = some (σ, h) := rfl
@[simp] theorem ap_gco (gg : SemG) (gs : SemGs) (x : D) (xs : List D) : gCo gg gs (x :: xs) σ h = (gg (.d x) σ h).bind fun p => gs xs p.1 p.2 := rfl
@[simp] theorem ap_gtp (n : Nat) (gs : SemGs) (xs : List D) : gTp n gs (.d (.tup xs)) σ h = if xs.length = n then gs xs σ h else none := rfl
@[simp] theorem ap_gst (x : Vl) : gSt f g x σ h = (match toD x h with
  | none => none
  | some (d, h0) => match f σ h0 with
    | .ok (.r k) h1 => (match g σ h1 with
      | .ok (.d (.int i)) h2 => (match h2[k]? with
        | some (.lst xs) => (match L2.ixN xs.length i with
          | some j => some (σ, h2.set k (.lst (xs.set j d)))
          | none => none)
        | _ => none)
      | _ => none)
    | _ => none) := rfl
@[simp] theorem ap_ia1 : iA1 fs σ h = rb (fs σ h) rngR := congrFun (funext fun (_ : Unit) => rfl : (fun _ => iA1 fs σ h) = fun _ : Unit => rb (fs σ h) rngR) ()
@[simp] theorem ap_ia2 : iA2 fs σ h = rb (fs σ h) fun xs h1 => match xs with
  | [.d (.int i), .d (.int j)] => if smI i = true ∧ smI j = true then .ok (rngD i (j - i).toNat) h1 else .bad
  | _ => .bad := rfl
@[simp] theorem ap_iseq : iSeq f σ h = rb (f σ h) fun x h1 => match pureSeq x with
  | some xs => .ok xs h1
  | none => .bad := rfl
@[simp] theorem ap_ient : iEnT fs σ h = rb (fs σ h) fun xs h1 => match xs with
  | [.d (.tup ds)] => .ok (enumD ds) h1
  | _ => .bad := rfl
end
@[simp] theorem toD_d (d : D) (h : Hs) : toD (.d d) h = some (d, h) := rfl
@[simp] theorem toDs_nil (h : Hs) : toDs [] h = some ([], h) := rfl
@[simp] theorem toDs_d (d : D) (xs : List Vl) (h : Hs) : toDs (.d d :: xs) h = (toDs xs h).map fun q => (d :: q.1, q.2) := rfl
@[simp] theorem pureSeq_tup (xs : List D) : pureSeq (.d (.tup xs)) = some xs := rfl
@[simp] theorem pureSeq_lv (xs : List D) : pureSeq (.d (.lv xs)) = some xs := rfl
@[simp] theorem seqOf_tup (xs : List D) (h : Hs) : seqOf (.d (.tup xs)) h = some xs := rfl
@[simp] theorem seqOf_lv (xs : List D) (h : Hs) : seqOf (.d (.lv xs)) h = some xs := rfl
@[simp] theorem lstOf_lv (xs : List D) (h : Hs) : lstOf (.d (.lv xs)) h = some xs := rfl
@[simp] theorem insOf_ins (C : Nat) (fs : List (Nat × D)) (h : Hs) : insOf (.d (.ins C fs)) h = some (C, fs) := rfl
@[simp] theorem insOf_r (k : Nat) (h : Hs) : insOf (.r k) h = (match h[k]? with
  | some (.ins C fs) => some (C, fs)
  | _ => none) := rfl
@[simp] theorem insOf_tup (xs : List D) (h : Hs) : insOf (.d (.tup xs)) h = none := rfl
@[simp] theorem insOf_lv (xs : List D) (h : Hs) : insOf (.d (.lv xs)) h = none := rfl
@[simp] theorem tyD_int (i : Int) (h : Hs) : tyD (.d (.int i)) h = some (.b "int") := rfl
@[simp] theorem tyD_bl (i : Bool) (h : Hs) : tyD (.d (.bl i)) h = some (.b "bool") := rfl
@[simp] theorem tyD_tup (xs : List D) (h : Hs) : tyD (.d (.tup xs)) h = some (.b "tuple") := rfl
@[simp] theorem tyD_lv (xs : List D) (h : Hs) : tyD (.d (.lv xs)) h = some (.b "list") := rfl
@[simp] theorem tyD_non (h : Hs) : tyD (.d .non) h = some (.b "NoneType") := rfl
@[simp] theorem tyD_str (x : Str) (h : Hs) : tyD (.d (.str x)) h = some (.b "str") := rfl
@[simp] theorem tyD_ins (C : Nat) (fs : List (Nat × D)) (h : Hs) : tyD (.d (.ins C fs)) h = some (.c C) := rfl
@[simp] theorem tru_bl (b : Bool) (h : Hs) : truO (.d (.bl b)) h = some b := rfl
@[simp] theorem tru_int (i : Int) (h : Hs) : truO (.d (.int i)) h = some (i != 0) := rfl
@[simp] theorem o_add (i j : Int) (h : Hs) : oAdd (.d (.int i)) (.d (.int j)) h = some (.d (.int (i + j)), h) := rfl
@[simp] theorem o_addT (a b : List D) (h : Hs) : oAdd (.d (.tup a)) (.d (.tup b)) h = if a.length + b.length ≤ sizeLine then some (.d (.tup (a ++ b)), h) else none := rfl
@[simp] theorem o_addL (a b : List D) (h : Hs) : oAdd (.d (.lv a)) (.d (.lv b)) h = if a.length + b.length ≤ sizeLine then some (.d (.lv (a ++ b)), h) else none := rfl
@[simp] theorem o_sub (i j : Int) (h : Hs) : oSub (.d (.int i)) (.d (.int j)) h = some (.d (.int (i - j)), h) := rfl
@[simp] theorem o_mul (i j : Int) (h : Hs) : oMulI (.d (.int i)) (.d (.int j)) h = if cMulW i j then some (.d (.int (i * j)), h) else none := rfl
@[simp] theorem o_div (i j : Int) (h : Hs) : oDiv (.d (.int i)) (.d (.int j)) h = if cDivW i j then some (.d (.int (i / j)), h) else none := rfl
@[simp] theorem o_mod (i j : Int) (h : Hs) : oMod (.d (.int i)) (.d (.int j)) h = if decide (0 < j) then some (.d (.int (i % j)), h) else none := rfl
@[simp] theorem o_pow (i j : Int) (h : Hs) : oPow (.d (.int i)) (.d (.int j)) h = if cPow i j then some (.d (.int (i ^ j.toNat)), h) else none := rfl
@[simp] theorem o_neg (i : Int) (h : Hs) : oNeg (.d (.int i)) h = some (.d (.int (-i)), h) := rfl
@[simp] theorem o_iadd (i j : Int) (h : Hs) : oIAdd (.d (.int i)) (.d (.int j)) h = some (.d (.int (i + j)), h) := rfl
@[simp] theorem o_lt (i j : Int) (h : Hs) : oLt (.d (.int i)) (.d (.int j)) h = some (.d (.bl (decide (i < j))), h) := rfl
@[simp] theorem o_le (i j : Int) (h : Hs) : oLe (.d (.int i)) (.d (.int j)) h = some (.d (.bl (decide (i ≤ j))), h) := rfl
@[simp] theorem o_gt (i j : Int) (h : Hs) : oGt (.d (.int i)) (.d (.int j)) h = some (.d (.bl (decide (j < i))), h) := rfl
@[simp] theorem o_ge (i j : Int) (h : Hs) : oGe (.d (.int i)) (.d (.int j)) h = some (.d (.bl (decide (j ≤ i))), h) := rfl
@[simp] theorem o_isn (x : Vl) (h : Hs) : oIsN x (.d .non) h = some (.d (.bl (isNon x)), h) := rfl
@[simp] theorem o_notn (x : Vl) (h : Hs) : oNotN x (.d .non) h = some (.d (.bl (!isNon x)), h) := rfl
@[simp] theorem isNon_non : isNon (.d .non) = true := rfl
@[simp] theorem isNon_str (x : Str) : isNon (.d (.str x)) = false := rfl
@[simp] theorem o_ixT (xs : List D) (i : Int) (h : Hs) : oIx (.d (.tup xs)) (.d (.int i)) h = (L2.atI xs i).map fun d => (.d d, h) := rfl
@[simp] theorem o_ixL (xs : List D) (i : Int) (h : Hs) : oIx (.d (.lv xs)) (.d (.int i)) h = (L2.atI xs i).map fun d => (.d d, h) := rfl
theorem o_ixR {k : Nat} {xs : List D} {h : Hs} (e : h[k]? = some (.lst xs)) (i : Int) : oIx (.r k) (.d (.int i)) h = (L2.atI xs i).map fun d => (.d d, h) := by
  show (match seqOf (.r k) h with
    | some xs => (L2.atI xs i).map fun d => (Vl.d d, h)
    | none => none) = _
  simp only [seqOf, e]
@[simp] theorem n_lenT (xs : List D) (h : Hs) : nLen [.d (.tup xs)] h = some (.d (.int xs.length), h) := rfl
@[simp] theorem n_lenL (xs : List D) (h : Hs) : nLen [.d (.lv xs)] h = some (.d (.int xs.length), h) := rfl
@[simp] theorem n_tupT (xs : List D) (h : Hs) : nTuple [.d (.tup xs)] h = some (.d (.tup xs), h) := rfl
@[simp] theorem n_tupL (xs : List D) (h : Hs) : nTuple [.d (.lv xs)] h = some (.d (.tup xs), h) := rfl
@[simp] theorem n_lstT (xs : List D) (h : Hs) : nListV [.d (.tup xs)] h = some (.d (.lv xs), h) := rfl
@[simp] theorem n_lstL (xs : List D) (h : Hs) : nListV [.d (.lv xs)] h = some (.d (.lv xs), h) := rfl
@[simp] theorem n_lstS (xs : List D) (h : Hs) : nListV [.d (.scr xs)] h = some (.d (.lv xs), h) := rfl
theorem n_tupR {k : Nat} {xs : List D} {h : Hs} (e : h[k]? = some (.lst xs)) : nTuple [.r k] h = some (.d (.tup xs), h) := by
  show (match seqOf (.r k) h with
    | some xs => some (Vl.d (.tup xs), h)
    | none => none) = _
  simp only [seqOf, e]
@[simp] theorem n_int (i : Int) (h : Hs) : nInt [.d (.int i)] h = some (.d (.int i), h) := rfl
@[simp] theorem n_min (i j : Int) (h : Hs) : nMin2 [.d (.int i), .d (.int j)] h = some (.d (.int (if j < i then j else i)), h) := rfl
@[simp] theorem sl_tup (xs : List D) (a b : Option Int) (h : Hs) : slO (.d (.tup xs)) a b h = some (.d (.tup (cutL xs a b)), h) := rfl
@[simp] theorem lmA (xs : List D) (d : D) (h : Hs) : lmAppend xs [d] h = if xs.length < sizeLine then some (xs ++ [d], .d .non) else none := rfl

/-! ### the heap's end -/
section
variable {h l : Hs} {a b : O}
@[simp] theorem at_len : (h ++ a :: l)[h.length]? = some a := by simp
@[simp] theorem set_len : (h ++ a :: l).set h.length b = h ++ b :: l := by
  rw [List.set_append_right _ _ (Nat.le_refl _), Nat.sub_self]; rfl
@[simp] theorem take_len : (h ++ l).take h.length = h := List.take_left' rfl
@[simp] theorem take_len1 : (h ++ a :: l).take (h.length + 1) = h ++ [a] := by
  rw [show h ++ a :: l = (h ++ [a]) ++ l by simp, show h.length + 1 = (h ++ [a]).length by simp, take_len]
@[simp] theorem take_len2 : (h ++ a :: b :: l).take (h.length + 2) = h ++ [a, b] := by
  rw [show h ++ a :: b :: l = (h ++ [a]) ++ b :: l by simp, show h.length + 2 = (h ++ [a]).length + 1 by simp, take_len1]; simp
@[simp] theorem at_len1 : (h ++ a :: b :: l)[h.length + 1]? = some b := by
  rw [show h ++ a :: b :: l = (h ++ [a]) ++ b :: l by simp, show h.length + 1 = (h ++ [a]).length by simp, at_len]
@[simp] theorem set_len1 {c : O} : (h ++ a :: b :: l).set (h.length + 1) c = h ++ a :: c :: l := by
  rw [show h ++ a :: b :: l = (h ++ [a]) ++ b :: l by simp, show h.length + 1 = (h ++ [a]).length by simp, set_len]; simp
end

def clr1 (n : Nat) (o : Option Vl) : Option Vl := match o with
  | some (.r k) => if k < n then some (.r k) else none
  | o => o
@[simp] theorem clr_nil (n : Nat) : clr n [] = [] := rfl
@[simp] theorem clr_cons (n : Nat) (o : Option Vl) (σ : Lo) : clr n (o :: σ) = clr1 n o :: clr n σ := rfl
@[simp] theorem clr1_d (n : Nat) (d : D) : clr1 n (some (.d d)) = some (.d d) := rfl
@[simp] theorem clr1_n (n : Nat) : clr1 n none = none := rfl
@[simp] theorem clr1_r (n k : Nat) : clr1 n (some (.r k)) = if k < n then some (.r k) else none := rfl

/-! ### calls -/
theorem callF_at {defs : List MDef} {n i : Nat} {md : MDef} {xs : List Vl} {h : Hs} (e : defs[i]? = some md) (hl : xs.length = md.np) : callF defs (n + 1) i xs h = fin md.keep h.length (md.body (callF defs n) (startL md.ns xs) h) := by
  show (match defs[i]? with
    | none => Res.bad
    | some md => runD md (callF defs n) xs h) = _
  rw [e]
  show runD md (callF defs n) xs h = _
  unfold runD
  rw [if_pos hl]
@[simp] theorem fin_ret (n0 : Nat) (d : D) (σ : Lo) (h : Hs) : fin false n0 (.ok (.ret (.d d)) σ h) = .ok (.d d) (h.take n0) := rfl
@[simp] theorem fin_nx (n0 : Nat) (keep : Bool) (σ : Lo) (h : Hs) : fin keep n0 (.ok .nx σ h) = .ok (.d .non) (h.take n0) := rfl
theorem fin_retR {n0 k : Nat} {σ : Lo} {h : Hs} {xs : List D} (e : h[k]? = some (.lst xs)) : fin false n0 (.ok (.ret (.r k)) σ h) = .ok (.d (.lv xs)) ((h.set k .dead).take n0) := by
  show (match toD (.r k) h with
    | some (d, h') => Res.ok (Vl.d d) (h'.take n0)
    | none => Res.bad) = _
  simp only [toD, e]

/-! ### loops -/
theorem forL_ind {g : SemG} {body : SemS} {R : RS → Prop} (P : Nat → Lo → Hs → Prop) : ∀ (ds : List D) (i : Nat) (σ : Lo) (h : Hs), P i σ h →
    (∀ j d σ h, ds[j]? = some d → P (i + j) σ h → ∃ σ1 h1, g (.d d) σ h = some (σ1, h1) ∧ match body σ1 h1 with
      | .ok .nx σ2 h2 => P (i + j + 1) (clr h.length σ2) (h2.take h.length)
      | .ok .cnt σ2 h2 => P (i + j + 1) (clr h.length σ2) (h2.take h.length)
      | .ok .brk σ2 h2 => R (.ok .nx (clr h.length σ2) (h2.take h.length))
      | .ok (.ret v) σ2 h2 => R (.ok (.ret v) σ2 h2)
      | _ => False) →
    (∀ σ h, P (i + ds.length) σ h → R (.ok .nx σ h)) → R (forL g body ds σ h)
  | [], i, σ, h, p, _, done => done σ h (by simpa using p)
  | d :: ds, i, σ, h, p, step, done => by
    obtain ⟨σ1, h1, e, q⟩ := step 0 d σ h rfl p
    unfold forL
    rw [e]
    dsimp only
    have st : ∀ j d' σ h, ds[j]? = some d' → P (i + 1 + j) σ h → _ := fun j d' σ h hj p => by
      have := step (j + 1) d' σ h (by simpa using hj) (by rw [show i + (j + 1) = i + 1 + j by omega]; exact p)
      rw [show i + (j + 1) + 1 = i + 1 + j + 1 by omega] at this
      exact this
    have dn : ∀ σ h, P (i + 1 + ds.length) σ h → R (.ok .nx σ h) := fun σ h p => done σ h (by rw [List.length_cons, show i + (ds.length + 1) = i + 1 + ds.length by omega]; exact p)
    cases e2 : body σ1 h1 with
    | bad => rw [e2] at q; exact q.elim
    | exc x σ2 h2 => rw [e2] at q; exact q.elim
    | ok f σ2 h2 =>
      rw [e2] at q
      cases f with
      | nx => exact forL_ind P ds (i + 1) _ _ q st dn
      | cnt => exact forL_ind P ds (i + 1) _ _ q st dn
      | brk => exact q
      | ret v => exact q
theorem for_ind {g : SemG} {body : SemS} {R : RS → Prop} {ds : List D} {σ : Lo} {h : Hs} (P : Nat → Lo → Hs → Prop) (p : P 0 σ h)
    (step : ∀ j d σ h, ds[j]? = some d → P j σ h → ∃ σ1 h1, g (.d d) σ h = some (σ1, h1) ∧ match body σ1 h1 with
      | .ok .nx σ2 h2 => P (j + 1) (clr h.length σ2) (h2.take h.length)
      | .ok .cnt σ2 h2 => P (j + 1) (clr h.length σ2) (h2.take h.length)
      | .ok .brk σ2 h2 => R (.ok .nx (clr h.length σ2) (h2.take h.length))
      | .ok (.ret v) σ2 h2 => R (.ok (.ret v) σ2 h2)
      | _ => False)
    (done : ∀ σ h, P ds.length σ h → R (.ok .nx σ h)) : R (forL g body ds σ h) :=
  forL_ind P ds 0 σ h p (fun j d σ h hj q => by
    have := step j d σ h hj (by rw [Nat.zero_add] at q; exact q)
    rw [Nat.zero_add]; exact this) fun σ h q => done σ h (by rw [Nat.zero_add] at q; exact q)
/-- a while with an invariant and turns left -/
theorem whL_ind {t : SemT} {body : SemS} {R : RS → Prop} (P : Nat → Lo → Hs → Prop)
    (step : ∀ n σ h, P n σ h → match t σ h with
      | .ok false h1 => R (.ok .nx σ h1)
      | .ok true h1 => ∃ m, n = m + 1 ∧ match body σ h1 with
        | .ok .nx σ2 h2 => P m (clr h.length σ2) (h2.take h.length)
        | .ok .cnt σ2 h2 => P m (clr h.length σ2) (h2.take h.length)
        | .ok .brk σ2 h2 => R (.ok .nx (clr h.length σ2) (h2.take h.length))
        | .ok (.ret v) σ2 h2 => R (.ok (.ret v) σ2 h2)
        | _ => False
      | _ => False) : ∀ (n : Nat) (σ : Lo) (h : Hs), P n σ h → ∃ r, whL t body (n + 1) σ h = r ∧ r ≠ .bad ∧ R r
  | n, σ, h, p => by
    have q := step n σ h p
    unfold whL
    cases e : t σ h with
    | bad => rw [e] at q; exact q.elim
    | exc x h1 => rw [e] at q; exact q.elim
    | ok b h1 =>
      rw [e] at q
      cases b with
      | false => exact ⟨_, rfl, by simp, q⟩
      | true =>
        obtain ⟨m, rfl, q⟩ := q
        simp only [sb_ok, if_true]
        cases e2 : body σ h1 with
        | bad => rw [e2] at q; exact q.elim
        | exc x σ2 h2 => rw [e2] at q; exact q.elim
        | ok f σ2 h2 =>
          rw [e2] at q
          cases f with
          | nx => exact whL_ind P step m _ _ q
          | cnt => exact whL_ind P step m _ _ q
          | brk => exact ⟨_, rfl, by simp, q⟩
          | ret v => exact ⟨_, rfl, by simp, q⟩
theorem wh_ind {t : SemT} {body : SemS} {R : RS → Prop} (P : Nat → Lo → Hs → Prop) {n : Nat} {σ : Lo} {h : Hs} (p : P n σ h) (hn : n < 1000000000)
    (step : ∀ n σ h, P n σ h → match t σ h with
      | .ok false h1 => R (.ok .nx σ h1)
      | .ok true h1 => ∃ m, n = m + 1 ∧ match body σ h1 with
        | .ok .nx σ2 h2 => P m (clr h.length σ2) (h2.take h.length)
        | .ok .cnt σ2 h2 => P m (clr h.length σ2) (h2.take h.length)
        | .ok .brk σ2 h2 => R (.ok .nx (clr h.length σ2) (h2.take h.length))
        | .ok (.ret v) σ2 h2 => R (.ok (.ret v) σ2 h2)
        | _ => False
      | _ => False) : R (sWh t body σ h) := by
  obtain ⟨r, e, hb, q⟩ := whL_ind P step n σ h p
  have hm : n + 1 ≤ most := Nat.le_trans (by omega : n + 1 ≤ 1000000000) (by unfold most; decide)
  rw [sWh_of e hb hm]
  exact q
theorem cmpL_ind {vs : List Nat} {g : SemG} {t : SemT} {f : SemE} {n0 : Nat} {σ : Lo} {R : Hs → Prop} (P : Nat → Hs → Prop) : ∀ (ds : List D) (i : Nat) (h : Hs), P i h →
    (∀ j d h, ds[j]? = some d → P (i + j) h → ∃ σ1 h1 b h2, g (.d d) (wipeL σ vs) h = some (σ1, h1) ∧ t σ1 h1 = .ok b h2 ∧ if b = true then ∃ y h3 h4, f σ1 h2 = .ok y h3 ∧ cmpAdd n0 y h3 = some h4 ∧ P (i + j + 1) h4 else P (i + j + 1) (h2.take (n0 + 1))) →
    (∀ h, P (i + ds.length) h → R h) → ∃ h', cmpL vs g t f n0 ds σ h = some h' ∧ R h'
  | [], i, h, p, _, done => ⟨h, rfl, done h (by simpa using p)⟩
  | d :: ds, i, h, p, step, done => by
    obtain ⟨σ1, h1, b, h2, e1, e2, q⟩ := step 0 d h rfl p
    have st : ∀ j d' h, ds[j]? = some d' → P (i + 1 + j) h → _ := fun j d' h hj p => by
      have := step (j + 1) d' h (by simpa using hj) (by rw [show i + (j + 1) = i + 1 + j by omega]; exact p)
      rw [show i + (j + 1) + 1 = i + 1 + j + 1 by omega] at this
      exact this
    have dn : ∀ h, P (i + 1 + ds.length) h → R h := fun h p => done h (by rw [List.length_cons, show i + (ds.length + 1) = i + 1 + ds.length by omega]; exact p)
    unfold cmpL
    rw [e1]
    dsimp only
    rw [e2]
    dsimp only
    cases b with
    | true =>
      rw [if_pos rfl] at q ⊢
      obtain ⟨y, h3, h4, e3, e4, q⟩ := q
      rw [e3]
      dsimp only
      rw [e4]
      exact cmpL_ind P ds (i + 1) h4 q st dn
    | false =>
      rw [if_neg Bool.false_ne_true] at q ⊢
      exact cmpL_ind P ds (i + 1) _ q st dn
/-- one more in the list that is made -/
theorem cmpAdd_d {h : Hs} {acc : List D} {d : D} (hz : acc.length < sizeLine) : cmpAdd h.length (.d d) (h ++ [.lst acc]) = some (h ++ [.lst (acc ++ [d])]) := by
  unfold cmpAdd
  simp only [toD_d, at_len, if_pos hz, set_len]
  rw [List.take_of_length_le (by simp)]
/-- a comprehension of values that change nothing -/
theorem cmpL_map {vs : List Nat} {g : SemG} {t : SemT} {f : SemE} {σ : Lo} {h : Hs} {ds : List D} {keep : D → Bool} {k : D → D} (hz : ds.length < sizeLine)
    (step : ∀ d h', d ∈ ds → ∃ σ1, g (.d d) (wipeL σ vs) h' = some (σ1, h') ∧ t σ1 h' = .ok (keep d) h' ∧ (keep d = true → f σ1 h' = .ok (.d (k d)) h')) :
    cmpL vs g t f h.length ds σ (h ++ [.lst []]) = some (h ++ [.lst ((ds.filter keep).map k)]) := by
  have key : ∃ h', cmpL vs g t f h.length ds σ (h ++ [.lst []]) = some h' ∧ h' = h ++ [.lst ((ds.filter keep).map k)] := by
    refine cmpL_ind (fun i h' => h' = h ++ [.lst (((ds.take i).filter keep).map k)]) ds 0 _ (by simp) (fun j d h' hj p => ?_) (fun h' p => by rw [p, Nat.zero_add, List.take_length])
    rw [Nat.zero_add] at p ⊢
    subst p
    obtain ⟨σ1, e1, e2, e3⟩ := step d (h ++ [.lst (((ds.take j).filter keep).map k)]) (List.mem_of_getElem? hj)
    have ej : ds.take (j + 1) = ds.take j ++ [d] := by
      rw [List.take_add_one, hj]; rfl
    refine ⟨σ1, _, keep d, _, e1, e2, ?_⟩
    cases q : keep d with
    | true =>
      rw [if_pos rfl]
      refine ⟨_, _, _, e3 q, cmpAdd_d ?_, ?_⟩
      · rw [List.length_map]
        refine Nat.lt_of_le_of_lt (List.length_filter_le _ _) (Nat.lt_of_le_of_lt ?_ hz)
        rw [List.length_take]; omega
      · rw [ej, List.filter_append, List.map_append, List.filter_cons, if_pos q]; rfl
    | false =>
      rw [if_neg Bool.false_ne_true, ej, List.filter_append, List.filter_cons, if_neg (by simp [q])]
      rw [List.take_of_length_le (by simp)]
      simp
  obtain ⟨h', e, rfl⟩ := key
  exact e

/-! ### == of data -/
def fl0 : D → Prop
  | .non => True
  | .bl _ => True
  | .int _ => True
  | .str x => PyData.strOk x = true
  | _ => False
/-- data of depth n at most -/
def Sm : Nat → D → Prop
  | 0, d => fl0 d
  | n + 1, .tup xs => ∀ x ∈ xs, Sm n x
  | n + 1, .lv xs => ∀ x ∈ xs, Sm n x
  | _ + 1, d => fl0 d
theorem all_lay : ∀ {xs : List D}, (∀ x ∈ xs, x.pd.canLay0 = true) → PyData.canLayAll0 (D.pds xs) = true
  | [], _ => rfl
  | x :: xs, h => by
    rw [D.pds, PyData.canLayAll0, h x List.mem_cons_self, all_lay fun y hy => h y (List.mem_cons_of_mem _ hy)]; rfl
theorem all_dep {n : Nat} : ∀ {xs : List D}, (∀ x ∈ xs, x.pd.depth ≤ n) → PyData.depthAll (D.pds xs) ≤ n
  | [], _ => Nat.zero_le _
  | x :: xs, h => by
    rw [D.pds, PyData.depthAll]
    exact Nat.max_le.mpr ⟨h x List.mem_cons_self, all_dep fun y hy => h y (List.mem_cons_of_mem _ hy)⟩
theorem all_eqv : ∀ {xs : List D}, (∀ x ∈ xs, PyData.eqv x.pd x.pd = true) → PyData.eqvAll (D.pds xs) (D.pds xs) = true
  | [], _ => rfl
  | x :: xs, h => by
    rw [D.pds, PyData.eqvAll, h x List.mem_cons_self, all_eqv fun y hy => h y (List.mem_cons_of_mem _ hy)]; rfl
theorem fl0_ok {d : D} (h : fl0 d) : d.pd.canLay0 = true ∧ d.pd.depth = 0 ∧ PyData.eqv d.pd d.pd = true := by
  cases d with
  | non => exact ⟨by simp [D.pd, PyData.canLay0], by simp [D.pd, PyData.depth], by simp [D.pd, PyData.eqv]⟩
  | bl b => exact ⟨by simp [D.pd, PyData.canLay0], by simp [D.pd, PyData.depth], by simp [D.pd, PyData.eqv]⟩
  | int i => exact ⟨by simp [D.pd, PyData.canLay0], by simp [D.pd, PyData.depth], by simp [D.pd, PyData.eqv]⟩
  | str x => exact ⟨by simp only [D.pd, PyData.canLay0]; exact h, by simp [D.pd, PyData.depth], by simp [D.pd, PyData.eqv]⟩
  | _ => exact h.elim
theorem Sm.ok : ∀ {n : Nat} {d : D}, Sm n d → d.pd.canLay0 = true ∧ d.pd.depth ≤ n ∧ PyData.eqv d.pd d.pd = true
  | 0, d, h => let ⟨a, b, c⟩ := fl0_ok h; ⟨a, Nat.le_of_eq b, c⟩
  | n + 1, .tup xs, h => by
    simp only [D.pd, PyData.canLay0, PyData.depth, PyData.eqv]
    exact ⟨all_lay fun x hx => (Sm.ok (h x hx)).1, Nat.succ_le_succ (all_dep fun x hx => (Sm.ok (h x hx)).2.1), all_eqv fun x hx => (Sm.ok (h x hx)).2.2⟩
  | n + 1, .lv xs, h => by
    simp only [D.pd, PyData.canLay0, PyData.depth, PyData.eqv]
    exact ⟨all_lay fun x hx => (Sm.ok (h x hx)).1, Nat.succ_le_succ (all_dep fun x hx => (Sm.ok (h x hx)).2.1), all_eqv fun x hx => (Sm.ok (h x hx)).2.2⟩
  | n + 1, .non, h => let ⟨a, b, c⟩ := fl0_ok (d := .non) h; ⟨a, by omega, c⟩
  | n + 1, .bl i, h => let ⟨a, b, c⟩ := fl0_ok (d := .bl i) h; ⟨a, by omega, c⟩
  | n + 1, .int i, h => let ⟨a, b, c⟩ := fl0_ok (d := .int i) h; ⟨a, by omega, c⟩
  | n + 1, .str i, h => let ⟨a, b, c⟩ := fl0_ok (d := .str i) h; ⟨a, by omega, c⟩
  | n + 1, .scr i, h => h.elim
  | n + 1, .dk i, h => h.elim
  | n + 1, .dt i, h => h.elim
  | n + 1, .ins C i, h => h.elim
theorem Sm.shp {n : Nat} {d : D} (h : Sm n d) (hn : n ≤ 64) : shp d = true := by
  unfold Mi.shp SeqAt.shaped
  rw [h.ok.1, decide_eq_true (Nat.le_trans h.ok.2.1 hn)]; rfl
theorem o_eqS {n m : Nat} {a b : D} {h : Hs} (ha : Sm n a) (hb : Sm m b) (hn : n ≤ 64) (hm : m ≤ 64) : oEq (.d a) (.d b) h = some (.d (.bl (PyData.eqv a.pd b.pd)), h) := by
  show (deq a b).map _ = _
  unfold deq
  rw [ha.shp hn, hb.shp hm]; rfl
theorem o_neS {n m : Nat} {a b : D} {h : Hs} (ha : Sm n a) (hb : Sm m b) (hn : n ≤ 64) (hm : m ≤ 64) : oNe (.d a) (.d b) h = some (.d (.bl (!PyData.eqv a.pd b.pd)), h) := by
  show (deq a b).map _ = _
  unfold deq
  rw [ha.shp hn, hb.shp hm]; rfl
theorem o_eqR {n : Nat} {a : D} {h : Hs} (ha : Sm n a) (hn : n ≤ 64) : oEq (.d a) (.d a) h = some (.d (.bl true), h) := by rw [o_eqS ha ha hn hn, ha.ok.2.2]
theorem o_neR {n : Nat} {a : D} {h : Hs} (ha : Sm n a) (hn : n ≤ 64) : oNe (.d a) (.d a) h = some (.d (.bl false), h) := by rw [o_neS ha ha hn hn, ha.ok.2.2]; rfl
@[simp] theorem o_eqI (i j : Int) (h : Hs) : oEq (.d (.int i)) (.d (.int j)) h = some (.d (.bl (decide (i = j))), h) := by
  rw [o_eqS (a := .int i) (b := .int j) (n := 0) (m := 0) trivial trivial (by omega) (by omega)]
  simp only [D.pd, PyData.eqv]
  rfl
@[simp] theorem o_neI (i j : Int) (h : Hs) : oNe (.d (.int i)) (.d (.int j)) h = some (.d (.bl (!decide (i = j))), h) := by
  rw [o_neS (a := .int i) (b := .int j) (n := 0) (m := 0) trivial trivial (by omega) (by omega)]
  simp only [D.pd, PyData.eqv]
  rfl
def iT (xs : List Int) : D := .tup (xs.map D.int)
theorem sm_iT (xs : List Int) : Sm 1 (iT xs) := fun x hx => by
  obtain ⟨i, _, rfl⟩ := List.mem_map.mp hx
  exact trivial
theorem eqv_iT : ∀ xs ys : List Int, PyData.eqvAll (D.pds (xs.map D.int)) (D.pds (ys.map D.int)) = decide (xs = ys)
  | [], [] => by simp [D.pds, PyData.eqvAll]
  | [], _ :: _ => by simp [D.pds, PyData.eqvAll]
  | _ :: _, [] => by simp [D.pds, PyData.eqvAll]
  | x :: xs, y :: ys => by
    have := eqv_iT xs ys
    rw [List.map_cons, List.map_cons, D.pds, D.pds, PyData.eqvAll, this]
    simp only [D.pd, PyData.eqv]
    by_cases e : x = y <;> simp [e]
theorem o_eqT (xs ys : List Int) (h : Hs) : oEq (.d (iT xs)) (.d (iT ys)) h = some (.d (.bl (decide (xs = ys))), h) := by
  rw [o_eqS (sm_iT xs) (sm_iT ys) (by omega) (by omega)]
  simp only [iT, D.pd, PyData.eqv, eqv_iT]
theorem o_neT (xs ys : List Int) (h : Hs) : oNe (.d (iT xs)) (.d (iT ys)) h = some (.d (.bl (!decide (xs = ys))), h) := by
  rw [o_neS (sm_iT xs) (sm_iT ys) (by omega) (by omega)]
  simp only [iT, D.pd, PyData.eqv, eqv_iT]
end Mi

/-! Mi13: == and != at any depth, own __eq__ within -/
namespace GB
open PySem PySem.SeqAt GQ
open AutoSeq1 (wpAny_loadPart')
open MeetsSeq MeetsSeq2 MeetsSeq3 SeqRoads2
section
variable {prog : Program} {w : World} {A : Around} {R : Result → Shared → Prop} {l b : Addr} {N M : Nat} {bs : Nat → Bool} {J : Shared → Prop}
/-- what is known of two lists that are compared, item by item, up to the first unlike pair -/
def Both (prog : Program) (w : World) (A : Around) (E : Value → Shared → Prop) (l b : Addr) (N : Nat) (bs : Nat → Bool) (J : Shared → Prop) : Prop :=
  ∀ s, J s → ∃ (p q : Array Value) (n k : Nat), s.heap.get? l = some { cls := .type "list", data := .seq p n } ∧ s.heap.get? b = some { cls := .type "list", data := .seq q k } ∧ p.size = N ∧ q.size = N ∧
    ∀ i (h1 : i < p.size) (h2 : i < q.size), (∀ j, j < i → bs j = true) → wpAny (model prog w) A.in1 (eqBool p[i] q[i]) (fun r s' => r = bs i ∧ J s') E s
theorem all_true (h : ∀ j, j < N → bs j = true) : (List.range N).all bs = true := List.all_eq_true.mpr fun x hx => h x (List.mem_range.mp hx)
theorem all_false {i : Nat} (hi : i < N) (h : bs i = false) : (List.range N).all bs = false := by
  rw [Bool.eq_false_iff]
  intro z
  rw [List.all_eq_true.mp z i (List.mem_range.mpr hi)] at h
  cases h
theorem lst_eqLoop (hl : Both prog w A (fun e s' => R (.error e) s') l b N bs J) (fin : ∀ s, J s → R (.ok (.ret (.bool ((List.range N).all bs)))) s) : ∀ (k i : Nat), N - i = k → i ≤ N → (∀ j, j < i → bs j = true) → ∀ s, J s →
    wpAny (model prog w) A.in1 (Builtin.«list.__eq__.loop» ⟨[.ref l, .ref b, rawInt i, rawInt 2], []⟩) (FinOf prog w A R) (fun e s' => R (.error e) s') s
  | 0, i, hk, hi, ht, s, h => by
    obtain ⟨p, q, n, n2, g1, g2, z1, z2, _⟩ := hl _ h
    have ei : i = N := by omega
    subst ei
    have hR := fin s h
    rw [all_true ht] at hR
    obtain ⟨h0, gs, dd, tk, oss⟩ := s
    wp_walk using wpAny_loadPart' g1, wpAny_loadPart' g2
    have e1 : p[((i : Nat) : Int).toNat]? = none := by simp <;> omega
    have e2 : q[((i : Nat) : Int).toNat]? = none := by simp <;> omega
    rw [e1, e2]
    wp_walk using wpAny_loadPart' g1, wpAny_loadPart' g2
    show R (.ok (.ret (.bool (p.size == q.size)))) _
    rw [z1, z2, beq_self_eq_true]
    exact hR
  | k + 1, i, hk, hi, ht, s, h => by
    obtain ⟨p, q, n, n2, g1, g2, z1, z2, turn⟩ := hl _ h
    have h1 : i < p.size := by omega
    have h2 : i < q.size := by omega
    have tt := turn i h1 h2 ht
    obtain ⟨h0, gs, dd, tk, oss⟩ := s
    wp_walk using wpAny_loadPart' g1, wpAny_loadPart' g2
    have e1 : p[((i : Nat) : Int).toNat]? = some p[i] := by simp [h1]
    have e2 : q[((i : Nat) : Int).toNat]? = some q[i] := by simp [h2]
    have ec : ((i : Int) + 1) = ((i + 1 : Nat) : Int) := by omega
    rw [e1, e2]
    refine wpAny_bind (wpAny_mono tt (fun r s2 q2 => ?_) fun _ _ x => x)
    obtain ⟨rfl, q2⟩ := q2
    cases hb : bs i with
    | true =>
      have hrec := lst_eqLoop hl fin k (i + 1) (by omega) (by omega) (fun j hj => by
        rcases Nat.lt_succ_iff_lt_or_eq.mp hj with hj | rfl
        · exact ht j hj
        · exact hb) s2 q2
      obtain ⟨hp2, gs2, d2, tk2, os2⟩ := s2
      wp_walk
      rw [ec]
      exact ⟨plainId_quiet plain_eq_loop _, codeAny_builtin entry_eq_loop (by rw [Around.under_plainId plain_eq_loop _]; exact hrec)⟩
    | false =>
      have hR := fin s2 q2
      rw [all_false (by omega) hb] at hR
      obtain ⟨p', q', n', n2', g1', g2', z1', z2', _⟩ := hl _ q2
      obtain ⟨hp2, gs2, d2, tk2, os2⟩ := s2
      have f1 : p'[((i : Nat) : Int).toNat]? = some (p'[i]'(by omega)) := by simp <;> omega
      have f2 : q'[((i : Nat) : Int).toNat]? = some (q'[i]'(by omega)) := by simp <;> omega
      wp_walk using wpAny_loadPart' g1', wpAny_loadPart' g2'
      rw [f1, f2]
      wp_walk
      simpa using hR
theorem lst_neLoop (hl : Both prog w A (fun e s' => R (.error e) s') l b N bs J) (fin : ∀ s, J s → R (.ok (.ret (.bool (!(List.range N).all bs)))) s) : ∀ (k i : Nat), N - i = k → i ≤ N → (∀ j, j < i → bs j = true) → ∀ s, J s →
    wpAny (model prog w) A.in1 (Builtin.«list.__eq__.loop» ⟨[.ref l, .ref b, rawInt i, rawInt 3], []⟩) (FinOf prog w A R) (fun e s' => R (.error e) s') s
  | 0, i, hk, hi, ht, s, h => by
    obtain ⟨p, q, n, n2, g1, g2, z1, z2, _⟩ := hl _ h
    have ei : i = N := by omega
    subst ei
    have hR := fin s h
    rw [all_true ht] at hR
    obtain ⟨h0, gs, dd, tk, oss⟩ := s
    wp_walk using wpAny_loadPart' g1, wpAny_loadPart' g2
    have e1 : p[((i : Nat) : Int).toNat]? = none := by simp <;> omega
    have e2 : q[((i : Nat) : Int).toNat]? = none := by simp <;> omega
    rw [e1, e2]
    wp_walk using wpAny_loadPart' g1, wpAny_loadPart' g2
    show R (.ok (.ret (.bool (p.size != q.size)))) _
    rw [z1, z2, bne_self_eq_false]
    exact hR
  | k + 1, i, hk, hi, ht, s, h => by
    obtain ⟨p, q, n, n2, g1, g2, z1, z2, turn⟩ := hl _ h
    have h1 : i < p.size := by omega
    have h2 : i < q.size := by omega
    have tt := turn i h1 h2 ht
    obtain ⟨h0, gs, dd, tk, oss⟩ := s
    wp_walk using wpAny_loadPart' g1, wpAny_loadPart' g2
    have e1 : p[((i : Nat) : Int).toNat]? = some p[i] := by simp [h1]
    have e2 : q[((i : Nat) : Int).toNat]? = some q[i] := by simp [h2]
    have ec : ((i : Int) + 1) = ((i + 1 : Nat) : Int) := by omega
    rw [e1, e2]
    refine wpAny_bind (wpAny_mono tt (fun r s2 q2 => ?_) fun _ _ x => x)
    obtain ⟨rfl, q2⟩ := q2
    cases hb : bs i with
    | true =>
      have hrec := lst_neLoop hl fin k (i + 1) (by omega) (by omega) (fun j hj => by
        rcases Nat.lt_succ_iff_lt_or_eq.mp hj with hj | rfl
        · exact ht j hj
        · exact hb) s2 q2
      obtain ⟨hp2, gs2, d2, tk2, os2⟩ := s2
      wp_walk
      rw [ec]
      exact ⟨plainId_quiet plain_eq_loop _, codeAny_builtin entry_eq_loop (by rw [Around.under_plainId plain_eq_loop _]; exact hrec)⟩
    | false =>
      have hR := fin s2 q2
      rw [all_false (by omega) hb] at hR
      obtain ⟨p', q', n', n2', g1', g2', z1', z2', _⟩ := hl _ q2
      obtain ⟨hp2, gs2, d2, tk2, os2⟩ := s2
      have f1 : p'[((i : Nat) : Int).toNat]? = some (p'[i]'(by omega)) := by simp <;> omega
      have f2 : q'[((i : Nat) : Int).toNat]? = some (q'[i]'(by omega)) := by simp <;> omega
      wp_walk using wpAny_loadPart' g1', wpAny_loadPart' g2'
      rw [f1, f2]
      wp_walk
      simpa using hR
theorem lst_eqB (hl : Both prog w A (fun e s' => R (.error e) s') l b N bs J) (fin : ∀ s, J s → R (.ok (.ret (.bool ((List.range N).all bs)))) s) {s : Shared} (h : J s) :
    wpAny (model prog w) A.in1 (Builtin.«list.__eq__» ⟨[.ref l, .ref b], []⟩) (FinOf prog w A R) (fun e s' => R (.error e) s') s := by
  obtain ⟨p, q, n, n2, g1, g2, z1, z2, _⟩ := hl _ h
  have hrec := lst_eqLoop (A := A) (R := R) hl fin _ 0 rfl (Nat.zero_le _) (fun j hj => absurd hj (Nat.not_lt_zero _)) s h
  obtain ⟨h0, gs, dd, tk, oss⟩ := s
  have f3 := AutoSeq1.sub_list_list
  have ne : ¬ (p.size != q.size) = true := by simp [z1, z2]
  wp_walk using wpAny_loadPart' g1, wpAny_loadPart' g2
  exact ⟨plainId_quiet plain_eq_loop _, codeAny_builtin entry_eq_loop (by rw [Around.under_plainId plain_eq_loop _]; exact hrec)⟩
theorem lst_neB (hl : Both prog w A (fun e s' => R (.error e) s') l b N bs J) (fin : ∀ s, J s → R (.ok (.ret (.bool (!(List.range N).all bs)))) s) {s : Shared} (h : J s) :
    wpAny (model prog w) A.in1 (Builtin.«list.__ne__» ⟨[.ref l, .ref b], []⟩) (FinOf prog w A R) (fun e s' => R (.error e) s') s := by
  obtain ⟨p, q, n, n2, g1, g2, z1, z2, _⟩ := hl _ h
  have hrec := lst_neLoop (A := A) (R := R) hl fin _ 0 rfl (Nat.zero_le _) (fun j hj => absurd hj (Nat.not_lt_zero _)) s h
  obtain ⟨h0, gs, dd, tk, oss⟩ := s
  have f3 := AutoSeq1.sub_list_list
  have ne : ¬ (p.size != q.size) = true := by simp [z1, z2]
  wp_walk using wpAny_loadPart' g1, wpAny_loadPart' g2
  exact ⟨plainId_quiet plain_eq_loop _, codeAny_builtin entry_eq_loop (by rw [Around.under_plainId plain_eq_loop _]; exact hrec)⟩
end
section
variable {prog : Program} {w : World} {A : Around} {R : Result → Shared → Prop} {l b : Addr} {bs : Nat → Bool} {J : Shared → Prop}
theorem tup_eqB (p q : Array Value) (n n2 : Nat) (dd dd2 : Option Addr) (sl sl2 : Array (Option Value))
    (turn : ∀ i (h1 : i < p.size) (h2 : i < q.size), (∀ j, j < i → bs j = true) → ∀ s, J s → wpAny (model prog w) A.in1 (eqBool p[i] q[i]) (fun r s' => r = bs i ∧ J s') (fun e s' => R (.error e) s') s)
    (fin : ∀ s, J s → R (.ok (.ret (.bool ((List.range (min p.size q.size)).all bs && p.size == q.size)))) s) {s : Shared} (g1 : s.heap.get? l = some { cls := .type "tuple", dict := dd, data := .seq p n, slots := sl })
    (g2 : s.heap.get? b = some { cls := .type "tuple", dict := dd2, data := .seq q n2, slots := sl2 }) (h : J s) :
    wpAny (model prog w) A.in1 (Builtin.«tuple.__eq__» ⟨[.ref l, .ref b], []⟩) (FinOf prog w A R) (fun e s' => R (.error e) s') s := by
  have f2 := AutoSeq1.sub_tuple_tuple
  have hZ : (p.toList.zip q.toList).length = min p.size q.size := by simp
  have hJ := h
  obtain ⟨h0, gs, dr, tk, oss⟩ := s
  wp_walk using wpAny_loadPart' g1, wpAny_loadPart' g2, wpAny_forIn_list _ (fun rest c s' => c.1 = none ∧ ∃ i, rest = (p.toList.zip q.toList).drop i ∧ i ≤ min p.size q.size ∧ (∀ j, j < i → bs j = true) ∧ J s') _
  case turn =>
    rintro ⟨y, x⟩ rest c s' ⟨hc, i, hz, hi, ht, hI⟩
    have hlt : i < (p.toList.zip q.toList).length := (Nat.lt_or_ge i _).resolve_right fun z => by rw [List.drop_of_length_le z] at hz; cases hz
    have hm : i < min p.size q.size := hZ ▸ hlt
    have h1 : i < p.size := by omega
    have h2 : i < q.size := by omega
    rw [List.drop_eq_getElem_cons hlt] at hz
    injection hz with e1 e2
    have hy : y = p[i] := by simpa using congrArg Prod.fst e1
    have hx : x = q[i] := by simpa using congrArg Prod.snd e1
    subst hy hx
    refine wpAny_bind (wpAny_mono (turn i h1 h2 ht s' hI) (fun r s2 q2 => ?_) fun _ _ x => x)
    obtain ⟨rfl, q2⟩ := q2
    cases hb : bs i with
    | true =>
      wp_walk
      refine ⟨rfl, i + 1, e2, hm, fun j hj => ?_, q2⟩
      rcases Nat.lt_succ_iff_lt_or_eq.mp hj with hj | rfl
      · exact ht j hj
      · exact hb
    | false =>
      have hR := fin s2 q2
      rw [all_false hm hb, Bool.false_and] at hR
      wp_walk
      simpa using hR
  case fin =>
    rintro ⟨c1, c2⟩ s' ⟨hc, i, hz, hi, ht, hI⟩
    simp only at hc
    subst hc
    have hge : min p.size q.size ≤ i := (Nat.lt_or_ge i (p.toList.zip q.toList).length).elim (fun z => by rw [List.drop_eq_getElem_cons z] at hz; cases hz) fun z => hZ ▸ z
    have ei : i = min p.size q.size := by omega
    subst ei
    have hR := fin s' hI
    rw [all_true ht, Bool.true_and] at hR
    wp_walk
    simpa [Builtin.Tuple.tupleCompareSizes, bne] using hR
  case h => exact ⟨rfl, 0, rfl, Nat.zero_le _, fun j hj => absurd hj (Nat.not_lt_zero _), hJ⟩
end
section
variable {prog : Program} {w : World} {A : Around} {R : Result → Shared → Prop} {l b : Addr} {bs : Nat → Bool} {J : Shared → Prop}
theorem tup_neB (p q : Array Value) (n n2 : Nat) (dd dd2 : Option Addr) (sl sl2 : Array (Option Value))
    (turn : ∀ i (h1 : i < p.size) (h2 : i < q.size), (∀ j, j < i → bs j = true) → ∀ s, J s → wpAny (model prog w) A.in1 (eqBool p[i] q[i]) (fun r s' => r = bs i ∧ J s') (fun e s' => R (.error e) s') s)
    (fin : ∀ s, J s → R (.ok (.ret (.bool !((List.range (min p.size q.size)).all bs && p.size == q.size)))) s) {s : Shared} (g1 : s.heap.get? l = some { cls := .type "tuple", dict := dd, data := .seq p n, slots := sl })
    (g2 : s.heap.get? b = some { cls := .type "tuple", dict := dd2, data := .seq q n2, slots := sl2 }) (h : J s) :
    wpAny (model prog w) A.in1 (Builtin.«tuple.__ne__» ⟨[.ref l, .ref b], []⟩) (FinOf prog w A R) (fun e s' => R (.error e) s') s := by
  have f2 := AutoSeq1.sub_tuple_tuple
  have hZ : (p.toList.zip q.toList).length = min p.size q.size := by simp
  have hJ := h
  obtain ⟨h0, gs, dr, tk, oss⟩ := s
  wp_walk using wpAny_loadPart' g1, wpAny_loadPart' g2, wpAny_forIn_list _ (fun rest c s' => c.1 = none ∧ ∃ i, rest = (p.toList.zip q.toList).drop i ∧ i ≤ min p.size q.size ∧ (∀ j, j < i → bs j = true) ∧ J s') _
  case turn =>
    rintro ⟨y, x⟩ rest c s' ⟨hc, i, hz, hi, ht, hI⟩
    have hlt : i < (p.toList.zip q.toList).length := (Nat.lt_or_ge i _).resolve_right fun z => by rw [List.drop_of_length_le z] at hz; cases hz
    have hm : i < min p.size q.size := hZ ▸ hlt
    have h1 : i < p.size := by omega
    have h2 : i < q.size := by omega
    rw [List.drop_eq_getElem_cons hlt] at hz
    injection hz with e1 e2
    have hy : y = p[i] := by simpa using congrArg Prod.fst e1
    have hx : x = q[i] := by simpa using congrArg Prod.snd e1
    subst hy hx
    refine wpAny_bind (wpAny_mono (turn i h1 h2 ht s' hI) (fun r s2 q2 => ?_) fun _ _ x => x)
    obtain ⟨rfl, q2⟩ := q2
    cases hb : bs i with
    | true =>
      wp_walk
      refine ⟨rfl, i + 1, e2, hm, fun j hj => ?_, q2⟩
      rcases Nat.lt_succ_iff_lt_or_eq.mp hj with hj | rfl
      · exact ht j hj
      · exact hb
    | false =>
      have hR := fin s2 q2
      rw [all_false hm hb, Bool.false_and] at hR
      wp_walk
      simpa using hR
  case fin =>
    rintro ⟨c1, c2⟩ s' ⟨hc, i, hz, hi, ht, hI⟩
    simp only at hc
    subst hc
    have hge : min p.size q.size ≤ i := (Nat.lt_or_ge i (p.toList.zip q.toList).length).elim (fun z => by rw [List.drop_eq_getElem_cons z] at hz; cases hz) fun z => hZ ▸ z
    have ei : i = min p.size q.size := by omega
    subst ei
    have hR := fin s' hI
    rw [all_true ht, Bool.true_and] at hR
    wp_walk
    simpa [Builtin.Tuple.tupleCompareSizes, bne] using hR
  case h => exact ⟨rfl, 0, rfl, Nat.zero_le _, fun j hj => absurd hj (Nat.not_lt_zero _), hJ⟩
end
end GB

/-! Mi14: == and != of data that holds instances with an own __eq__ -/
namespace Mi
open PySem PySem.Spec L2

/-! ### might two values be one -/
mutual
def same : D → D → Bool
  | .non, .non => true
  | .bl a, .bl b => a == b
  | .int a, .int b => a == b
  | .str a, .str b => a == b
  | .tup xs, .tup ys => sames xs ys
  | .lv xs, .lv ys => sames xs ys
  | .ins _ fs, .ins _ gs => samef fs gs
  | x, y => !flD x && !flD y
def sames : List D → List D → Bool
  | [], [] => true
  | x :: xs, y :: ys => same x y && sames xs ys
  | _, _ => false
def samef : List (Nat × D) → List (Nat × D) → Bool
  | [], [] => true
  | (n, x) :: xs, (m, y) :: ys => n == m && (same x y && samef xs ys)
  | _, _ => false
end
theorem same_test : same (.tup [.int 1, .ins 3 [(1, .int 2)]]) (.tup [.int 1, .ins 3 [(1, .int 3)]]) = false := by decide
section
variable {X : Cx} {ct : CT} {pins : List (Addr × Obj)} {σ : L2.St} {H : Hp} {s : Shared} {S : Addr → Prop}
theorem lst_inj {a : Addr} {xs ys : List V} (h : H a = some (.lst xs)) (h' : H a = some (.lst ys)) : xs = ys := by
  rw [h] at h'; cases h'; rfl
theorem tup_inj (I : Inv X pins σ H s) {a : Addr} {xs ys : List V} (h : H a = some (.tup xs) ∧ S a) (h' : H a = some (.tup ys) ∧ S a) : xs = ys :=
  I.tuple_inj (.inl (.inl h.1)) (.inl (.inl h'.1))
mutual
theorem same_of (I : Inv X pins σ H s) : ∀ {x : D} {v : V}, DR X.K ct S H x v → ∀ {y : D}, DR X.K ct S H y v → same x y = true
  | _, _, .non, _, r => by cases r; rfl
  | _, _, .bl b, _, r => by cases r; simp [same]
  | _, _, .int b, _, r => by cases r; simp [same]
  | _, _, .str b, _, r => by cases r; simp [same]
  | _, _, .tup h t, _, r => by
    cases r with
    | tup h' t' =>
      have e := tup_inj I h h'
      subst e
      simp only [same]
      exact sames_of I t t'
    | _ => simp [same, flD]
  | _, _, .lv h q t, _, r => by
    cases r with
    | lv h' _ t' =>
      have e := lst_inj h h'
      subst e
      simp only [same]
      exact sames_of I t t'
    | _ => simp [same, flD]
  | _, _, .scr h t, _, r => by cases r <;> simp [same, flD]
  | _, _, .dk h _ t, _, r => by cases r <;> simp [same, flD]
  | _, _, .dt h _ t, _, r => by cases r <;> simp [same, flD]
  | _, _, .ins h _ t, _, r => by
    cases r with
    | ins h' _ t' =>
      rw [h] at h'
      injection h' with h'
      injection h' with _ _ e
      subst e
      simp only [same]
      exact samef_of I t t'
    | _ => simp [same, flD]
  | _, _, .exb _ _, _, r => by cases r <;> simp [same, flD]
  | _, _, .exd _ _ _ _ _, _, r => by cases r <;> simp [same, flD]
  | _, _, .exq _, _, r => by cases r <;> simp [same, flD]
  | _, _, .exr _ _ _ _, _, r => by cases r <;> simp [same, flD]
theorem sames_of (I : Inv X pins σ H s) : ∀ {x : List D} {v : List V}, DRs X.K ct S H x v → ∀ {y : List D}, DRs X.K ct S H y v → sames x y = true
  | _, _, .nil, _, r => by cases r; rfl
  | _, _, .cons q t, _, r => by
    cases r with
    | cons q' t' => simp only [sames, same_of I q q', sames_of I t t']; rfl
theorem samef_of (I : Inv X pins σ H s) : ∀ {x : List (Nat × D)} {v : List (Str × V)}, DRf X.K ct S H x v → ∀ {y : List (Nat × D)}, DRf X.K ct S H y v → samef x y = true
  | _, _, .nil, _, r => by cases r; rfl
  | _, _, .cons (n := k) (d := d1) (v := v1) q t, y, r => by
    generalize hh : (ct.nm k, v1) = z at r
    cases r with
    | cons q' t' =>
      injection hh with e1 e2
      have := ct.inj _ _ e1
      subst this e2
      simp only [samef, same_of I q q', samef_of I t t', beq_self_eq_true]; rfl
end
mutual
theorem fun_of (I : Inv X pins σ H s) : ∀ {x : D} {v : V}, DR X.K ct S H x v → ∀ {y : D}, DR X.K ct S H y v → x.pd.canLay0 = true → y.pd.canLay0 = true → x = y
  | _, _, .non, _, r, _, _ => by cases r; rfl
  | _, _, .bl b, _, r, _, _ => by cases r; rfl
  | _, _, .int b, _, r, _, _ => by cases r; rfl
  | _, _, .str b, _, r, _, _ => by cases r; rfl
  | _, _, .tup h t, _, r, c, c' => by
    cases r with
    | tup h' t' =>
      have e := tup_inj I h h'
      subst e
      simp only [D.pd, PyData.canLay0] at c c'
      rw [funs_of I t t' c c']
    | lv h' _ _ =>
      exfalso
      obtain ⟨its, _, ⟨o, e, hc, _⟩, _⟩ := I.tuple (.inl (.inl h.1))
      obtain ⟨_, n, _, e', _⟩ := I.lst h'
      rw [e] at e'
      have z := congrArg (Option.map Obj.cls) e'
      simp [hc] at z
    | _ => simp [D.pd, PyData.canLay0] at c'
  | _, _, .lv h q t, _, r, c, c' => by
    cases r with
    | lv h' _ t' =>
      have e := lst_inj h h'
      subst e
      simp only [D.pd, PyData.canLay0] at c c'
      rw [funs_of I t t' c c']
    | tup h' _ =>
      exfalso
      obtain ⟨its, _, ⟨o, e, hc, _⟩, _⟩ := I.tuple (.inl (.inl h'.1))
      obtain ⟨_, n, _, e', _⟩ := I.lst h
      rw [e] at e'
      have z := congrArg (Option.map Obj.cls) e'
      simp [hc] at z
    | _ => simp [D.pd, PyData.canLay0] at c'
  | _, _, .scr h t, _, r, c, _ => by simp [D.pd, PyData.canLay0] at c
  | _, _, .dk h _ t, _, r, c, _ => by simp [D.pd, PyData.canLay0] at c
  | _, _, .dt h _ t, _, r, c, _ => by simp [D.pd, PyData.canLay0] at c
  | _, _, .ins h _ t, _, r, c, _ => by simp [D.pd, PyData.canLay0] at c
  | _, _, .exb _ _, _, r, c, _ => by simp [D.pd, PyData.canLay0] at c
  | _, _, .exd _ _ _ _ _, _, r, c, _ => by simp [D.pd, PyData.canLay0] at c
  | _, _, .exq _, _, r, c, _ => by simp [D.pd, PyData.canLay0] at c
  | _, _, .exr _ _ _ _, _, r, c, _ => by simp [D.pd, PyData.canLay0] at c
theorem funs_of (I : Inv X pins σ H s) : ∀ {x : List D} {v : List V}, DRs X.K ct S H x v → ∀ {y : List D}, DRs X.K ct S H y v → PyData.canLayAll0 (D.pds x) = true → PyData.canLayAll0 (D.pds y) = true → x = y
  | _, _, .nil, _, r, _, _ => by cases r; rfl
  | _, _, .cons q t, _, r, c, c' => by
    cases r with
    | cons q' t' =>
      simp only [D.pds, PyData.canLayAll0, Bool.and_eq_true] at c c'
      rw [fun_of I q q' c.1 c'.1, funs_of I t t' c.2 c'.2]
end
mutual
theorem eqv_refl : ∀ {d : D}, d.pd.canLay0 = true → PyData.eqv d.pd d.pd = true
  | .non, _ => by simp [D.pd, PyData.eqv]
  | .bl _, _ => by simp [D.pd, PyData.eqv]
  | .int _, _ => by simp [D.pd, PyData.eqv]
  | .str _, _ => by simp [D.pd, PyData.eqv]
  | .tup xs, c => by
    simp only [D.pd, PyData.canLay0] at c
    simp only [D.pd, PyData.eqv]
    exact eqvs_refl c
  | .lv xs, c => by
    simp only [D.pd, PyData.canLay0] at c
    simp only [D.pd, PyData.eqv]
    exact eqvs_refl c
  | .scr _, c => by simp [D.pd, PyData.canLay0] at c
  | .dk _, c => by simp [D.pd, PyData.canLay0] at c
  | .dt _, c => by simp [D.pd, PyData.canLay0] at c
  | .ins _ _, c => by simp [D.pd, PyData.canLay0] at c
  | .exc _ _, c => by simp [D.pd, PyData.canLay0] at c
theorem eqvs_refl : ∀ {d : List D}, PyData.canLayAll0 (D.pds d) = true → PyData.eqvAll (D.pds d) (D.pds d) = true
  | [], _ => by simp [D.pds, PyData.eqvAll]
  | x :: xs, c => by
    simp only [D.pds, PyData.canLayAll0, Bool.and_eq_true] at c
    simp only [D.pds, PyData.eqvAll, eqv_refl c.1, eqvs_refl c.2]; rfl
end

/-! ### the meaning -/
def insE (T : List (Nat × Nat)) (call : CallT) : D → D → Option Bool
  | .ins C fs, .ins C' gs => (match T.lookup C, T.lookup C' with
    | some i, some _ => (match call i [.d (.ins C fs), .d (.ins C' gs)] [] with
      | .ok (.d (.bl b)) _ => if b = true ∨ samef fs gs = false then some b else none
      | _ => none)
    | _, _ => none)
  | _, _ => none
def eqZ (f : D → D → Option Bool) : List D → List D → Option Bool
  | x :: xs, y :: ys => (match f x y with
    | some true => eqZ f xs ys
    | some false => some false
    | none => none)
  | _, _ => some true
def eqP (x y : D) : Option Bool := if flD x = true ∧ flD y = true then some (eqF x y) else if shp x = true ∧ shp y = true then some (PyData.eqv x.pd y.pd) else none
def eqO (T : List (Nat × Nat)) (call : CallT) : Nat → D → D → Option Bool
  | 0, x, y => (match eqP x y with
    | some b => some b
    | none => insE T call x y)
  | n + 1, x, y => (match eqP x y with
    | some b => some b
    | none => (match x, y with
      | .tup xs, .tup ys => (eqZ (eqO T call n) xs ys).map fun r => r && xs.length == ys.length
      | .lv xs, .lv ys => if xs.length = ys.length then eqZ (eqO T call n) xs ys else some false
      | x, y => insE T call x y))
def bsOf (f : D → D → Option Bool) (xs ys : List D) (i : Nat) : Bool := match xs[i]?, ys[i]? with
  | some x, some y => f x y == some true
  | _, _ => true
theorem eqZ_spec {f : D → D → Option Bool} : ∀ {xs ys : List D} {r : Bool}, eqZ f xs ys = some r →
    (∀ (i : Nat) x y, xs[i]? = some x → ys[i]? = some y → (∀ j, j < i → bsOf f xs ys j = true) → f x y = some (bsOf f xs ys i)) ∧ r = (List.range (min xs.length ys.length)).all (bsOf f xs ys)
  | [], ys, r, h => by
    cases h
    exact ⟨fun i x y h => by simp at h, by simp⟩
  | x :: xs, [], r, h => by
    cases h
    exact ⟨fun i x y _ h => by simp at h, by simp⟩
  | x :: xs, y :: ys, r, h => by
    unfold eqZ at h
    have hm : min (x :: xs).length (y :: ys).length = min xs.length ys.length + 1 := by simp
    have hr : (List.range (min xs.length ys.length + 1)).all (bsOf f (x :: xs) (y :: ys)) = ((f x y == some true) && (List.range (min xs.length ys.length)).all (bsOf f xs ys)) := by
      rw [List.range_succ_eq_map, List.all_cons, List.all_map]
      rfl
    rw [hm, hr]
    split at h
    · rename_i e
      obtain ⟨i1, i2⟩ := eqZ_spec h
      refine ⟨fun i a b ha hb ht => ?_, by rw [e, ← i2]; rfl⟩
      cases i with
      | zero =>
        cases ha; cases hb
        show f x y = some (f x y == some true)
        rw [e]; rfl
      | succ i => exact i1 i a b ha hb fun j hj => ht (j + 1) (Nat.succ_lt_succ hj)
    · rename_i e
      cases h
      refine ⟨fun i a b ha hb ht => ?_, by rw [e]; rfl⟩
      cases i with
      | zero =>
        cases ha; cases hb
        show f x y = some (f x y == some true)
        rw [e]; rfl
      | succ i =>
        have := ht 0 (Nat.succ_pos _)
        have e2 : (f x y == some true) = true := this
        rw [e] at e2
        cases e2
    · cases h
end
end Mi

/-! Mi15: == and != of data that holds instances with an own __eq__: they are as the meaning says -/
namespace Mi
open PySem PySem.Spec L2

/-- somewhere below the running body, by so many steps of the C stack -/
structure Blw (X : Cx) (d : Nat) (A : Around) : Prop where
  hd : A.handled = X.A.handled
  dp : A.depth = X.A.depth
  un : A.units ≤ X.A.units + d
  fr : A.frames = X.A.frames
  gd : A.guards = X.A.guards
theorem Blw.top {X : Cx} : Blw X 0 X.A := ⟨rfl, rfl, Nat.le_refl _, rfl, rfl⟩
theorem Blw.in1 {X : Cx} {d : Nat} {A : Around} (b : Blw X d A) : Blw X (d + 1) A.in1 := ⟨b.hd, b.dp, by have := b.un; show A.units + 1 ≤ _; omega, b.fr, b.gd⟩
theorem Blw.room {X : Cx} {d k : Nat} {A : Around} (b : Blw X d A) (hr : Room (k + 1) X.A) (h : d ≤ 16) : Room k A :=
  ⟨⟨b.hd.trans hr.hd, by have := hr.dp; rw [b.dp]; omega, by have := hr.un; have := b.un; omega⟩, b.gd.trans hr.gd⟩
/-- the table of the classes with an own __eq__ -/
structure EqT (X : Cx) (ct : CT) (fns : List Fn) (T : List (Nat × Nat)) : Prop where
  own : ∀ C i, T.lookup C = some i → ∃ F, fns[i]? = some F ∧ PySem.W.findIn X.K (.ref (ct.ca C)) "__eq__" = some (some (.ref F.f)) ∧ PySem.W.isFn X.K (.ref F.f) = true ∧ Binds X.K F.fd F.ps []
  two : ∀ C i C' i', T.lookup C = some i → T.lookup C' = some i' → PySem.W.notFirst X.K (ct.ca C) (.ref (ct.ca C')) = true

section
variable {X : Cx} {ct : CT} {fns : List Fn} {T : List (Nat × Nat)} {call : CallT} {n : Nat}
/-- what == is to do -/
def EqS (X : Cx) (ct : CT) (d : Nat) (f : D → D → Option Bool) : Prop :=
  ∀ (A : Around) (pins : List (Addr × Obj)) (s : Shared) (σ : L2.St) (H : Hp) (x y : D) (v1 v2 : V) (u1 u2 : Value) (b : Bool), Blw X d A → Inv X pins σ H s → DR X.K ct (fun _ => True) H x v1 → DR X.K ct (fun _ => True) H y v2 → RelV v1 u1 → RelV v2 u2 → f x y = some b →
    wpAny (model X.prog X.w) A (eqBool u1 u2) (fun r s' => r = b ∧ ∃ H', Inv X pins σ H' s' ∧ L2.Ext H H') X.xe s
/-- an answer that is told of a value and itself is yes -/
def Rfl (X : Cx) (ct : CT) (f : D → D → Option Bool) : Prop :=
  ∀ (pins : List (Addr × Obj)) (s : Shared) (σ : L2.St) (H : Hp) (x y : D) (v : V) (b : Bool), Inv X pins σ H s → DR X.K ct (fun _ => True) H x v → DR X.K ct (fun _ => True) H y v → f x y = some b → b = true
theorem eqP_some {x y : D} {b : Bool} (h : eqP x y = some b) : (flD x = true ∧ flD y = true ∧ eqF x y = b) ∨ (shp x = true ∧ shp y = true ∧ PyData.eqv x.pd y.pd = b) := by
  unfold eqP at h
  split at h
  · rename_i c; cases h; exact .inl ⟨c.1, c.2, rfl⟩
  · split at h
    · rename_i c; cases h; exact .inr ⟨c.1, c.2, rfl⟩
    · cases h
theorem eqV_refl {v : V} (h : flatV v = true) : eqV v v = true := by
  cases v <;> first | (cases h; done) | simp [eqV]
theorem eqP_rfl : Rfl X ct eqP := fun pins s σ H x y v b I r1 r2 h => by
  rcases eqP_some h with ⟨c1, c2, e⟩ | ⟨c1, c2, e⟩
  · rw [← e, ← eqF_of c1 c2 r1 r2]
    exact eqV_refl (fl_of c1 r1)
  · have k1 := SeqAt.canLay_of_shaped c1
    have k2 := SeqAt.canLay_of_shaped c2
    have := fun_of I r1 r2 k1 k2
    subst this
    rw [← e]
    exact eqv_refl k1
theorem eqP_sound {d : Nat} (hr : Room 1 X.A) (hd : d ≤ 16) : EqS X ct d eqP := fun A pins s σ H x y v1 v2 u1 u2 b sb I r1 r2 q1 q2 h => by
  rcases eqP_some h with ⟨c1, c2, e⟩ | ⟨c1, c2, e⟩
  · have q := eqAt_V (A := A) (s := s) q1 q2 (fl_of c1 r1) (fl_of c2 r2)
    rw [eqF_of c1 c2 r1 r2, e] at q
    exact q X.prog X.w X.xe _ ⟨rfl, H, I, Ext.rfl'⟩
  · have k1 := SeqAt.canLay_of_shaped c1
    have k2 := SeqAt.canLay_of_shaped c2
    obtain ⟨as, e1⟩ := Dp.reads I x.pd v1 u1 (dp_of r1 k1) q1
    obtain ⟨bs, e2⟩ := Dp.reads I y.pd v2 u2 (dp_of r2 k2) q2
    have q := SeqAt.eqAt_reads x.pd y.pd A s u1 u2 as bs e1 e2 k1 k2 (SeqAt.room_of_shaped c1 (by have := sb.un; have := hr.un; omega))
    rw [e] at q
    exact q X.prog X.w X.xe _ ⟨rfl, H, I, Ext.rfl'⟩
theorem insE_some {x y : D} {b : Bool} (h : insE T call x y = some b) : ∃ C fs C' gs i i' h', x = .ins C fs ∧ y = .ins C' gs ∧ T.lookup C = some i ∧ T.lookup C' = some i' ∧ call i [.d x, .d y] [] = .ok (.d (.bl b)) h' ∧ (b = true ∨ samef fs gs = false) := by
  unfold insE at h
  split at h
  · split at h
    · rename_i C fs C' gs _ _ i i' e1 e2
      split at h
      · rename_i b' h' e3
        split at h
        · rename_i hb
          cases h
          exact ⟨C, fs, C', gs, i, i', h', rfl, rfl, e1, e2, e3, hb⟩
        · cases h
      · cases h
    · cases h
  · cases h
theorem insE_rfl : Rfl X ct (insE T call) := fun pins s σ H x y v b I r1 r2 h => by
  obtain ⟨C, fs, C', gs, i, i', h', rfl, rfl, e1, e2, e3, hb⟩ := insE_some h
  rcases hb with hb | hb
  · exact hb
  · have := same_of I r1 r2
    simp only [same] at this
    rw [hb] at this
    cases this
theorem sf_nil (a : Addr) : Sf [] [] a := fun ⟨k, o, e, _⟩ => by simp at e
theorem hr_nil {K : PySem.W.Frag} {H : Hp} : HR K ct [] [] H := ⟨rfl, fun i j a e => by simp at e, fun k a o e => by simp at e⟩
/-- the rich comparison by an own __eq__ -/
theorem insE_rc (co : CallOk X.prog X.w X.K X.mg X.base ct fns call n) (ET : EqT X ct fns T) {A : Around} (hr : Room (2 * n + 1) A) (hf : A.frames = X.A.frames) {pins : List (Addr × Obj)} {s : Shared} {σ : L2.St} {H : Hp} {x y : D} {v1 v2 : V} {u1 u2 : Value} {b : Bool}
    (I : Inv X pins σ H s) (r1 : DR X.K ct (fun _ => True) H x v1) (r2 : DR X.K ct (fun _ => True) H y v2) (q1 : RelV v1 u1) (q2 : RelV v2 u2) (h : insE T call x y = some b) :
    wpAny (model X.prog X.w) A (richCompare .Eq u1 u2) (fun r s' => r = .bool b ∧ ∃ H', Inv X pins σ H' s' ∧ L2.Ext H H') X.xe s := by
  obtain ⟨C, fs, C', gs, i, i', h', rfl, rfl, e1, e2, e3, hb⟩ := insE_some h
  obtain ⟨F, hF, hs, hfn, hbd⟩ := ET.own C i e1
  have hnf := ET.two C i C' i' e1 e2
  have G := co.ok i F hF
  have kp : Kp (fun _ => True) H (Sf [] []) H := fun a o e _ => ⟨e, sf_nil a⟩
  have hsp : spC X.K ct call i [v1, v2] H (fun v H' => v = .bl b ∧ L2.Ext H H') (fun _ _ _ => False) := by
    refine ⟨[], [], [.d (.ins C fs), .d (.ins C' gs)], hr_nil, .cons (DR.mono kp r1) (.cons (DR.mono kp r2) .nil), ?_⟩
    rw [e3]
    refine fun m2 H2 w2 hr2 ex2 rw2 => ?_
    cases rw2
    exact ⟨rfl, fun a o e => (ex2.kp a o e (sf_nil a)).1⟩
  cases r1 with
  | @ins a1 _ dx1 _ vs1 g1 _ t1 =>
  cases r2 with
  | @ins a2 _ dx2 _ vs2 g2 _ t2 =>
  cases q1
  cases q2
  obtain ⟨mA, J, _⟩ := ins_get I.hok g1
  obtain ⟨mB, J', _⟩ := ins_get I.hok g2
  obtain ⟨od, J, _⟩ := J.look
  obtain ⟨od', J', _⟩ := J'.look
  obtain ⟨m, hFr⟩ := I.fr
  refine PySem.W.cmp_K (op := .Eq) (tb := .ref (ct.ca C')) hr.units0 hFr I.ok.mod.kin J J'.type hnf hs hfn ?_
  have ee := I.env0
  have e0 : Env0 X.prog X.w X.K X.mg X.base A X.stack s H := ⟨by rw [hf]; exact ee.frames, ee.mod, ee.bs, ee.bsz, ee.funs, ee.frf, ee.hok, ee.bare⟩
  have hl := G.len _ _ _ _ hsp
  have hv : Vals [V.ref a1, V.ref a2] [Value.ref a1, Value.ref a2] := .cons rfl (.cons rfl .nil)
  have hbn := hbd s [.ref a1, .ref a2] I.kIn (by simpa using hl)
  refine wpAny_call (codeAny_mono (G.run A X.stack s H ⟨[.ref a1, .ref a2], []⟩ [.ref a1, .ref a2] [.ref a1, .ref a2] _ _ hr e0 (by simpa using hbn) hv hsp) fun r s' hq => ?_)
  cases r with
  | error e =>
    obtain ⟨_, _, _, _, _, _, _, _, _, _, _, _, _, _, _, _, w⟩ := XE.of_call (W := W0) I (fun _ _ _ q => q) hq
    exact w.elim
  | ok fl =>
    cases fl with
    | ret w =>
      obtain ⟨z, H', I', rz, ez, ex⟩ := I.after hq
      subst ez
      cases rz
      exact ⟨rfl, H', I', ex⟩
    | next => exact False.elim hq
    | brk => exact False.elim hq
    | cont => exact False.elim hq
theorem ref_of {K : PySem.W.Frag} {S : Addr → Prop} {H : Hp} {x : D} {v : V} (r : DR K ct S H x v) (h : flD x = false) : ∃ a, v = .ref a := by
  cases r <;> first | (cases h; done) | exact ⟨_, rfl⟩
/-- from the rich comparison of two references to == -/
theorem eqb_ref {A : Around} {pins : List (Addr × Obj)} {s : Shared} {σ : L2.St} {H : Hp} {a1 a2 : Addr} {b : Bool} (I : Inv X pins σ H s) (hb : a1 = a2 → b = true)
    (h : wpAny (model X.prog X.w) A (richCompare .Eq (.ref a1) (.ref a2)) (fun r s' => r = .bool b ∧ ∃ H', Inv X pins σ H' s' ∧ L2.Ext H H') X.xe s) :
    wpAny (model X.prog X.w) A (eqBool (.ref a1) (.ref a2)) (fun r s' => r = b ∧ ∃ H', Inv X pins σ H' s' ∧ L2.Ext H H') X.xe s := by
  by_cases e : a1 = a2
  · subst e
    exact SeqAt.EqAt.same (A := A) (s := s) (.ref a1) X.prog X.w X.xe _ ⟨(hb rfl).symm, H, I, Ext.rfl'⟩
  · refine GQ.eqBool_refG e (wpAny_mono h (fun r s' q => ?_) fun _ _ x => x)
    exact ⟨b, q.1, rfl, q.2⟩
/-- the turn of a loop over two rows of items -/
theorem turn_of {d : Nat} {f : D → D → Option Bool} (h : EqS X ct (d + 1) f) {A : Around} (sb : Blw X d A) {pins : List (Addr × Obj)} {σ : L2.St} {H : Hp} {xs ys : List D} {vs ws : List V} {p q : List Value} (rx : DRs X.K ct (fun _ => True) H xs vs) (ry : DRs X.K ct (fun _ => True) H ys ws)
    (rp : Vals vs p) (rq : Vals ws q) {r : Bool} (hz : eqZ f xs ys = some r) (i : Nat) (h1 : i < p.toArray.size) (h2 : i < q.toArray.size) (ht : ∀ j, j < i → bsOf f xs ys j = true) (s' : Shared) (l : ∃ H', Inv X pins σ H' s' ∧ L2.Ext H H') :
    wpAny (model X.prog X.w) A.in1 (eqBool p.toArray[i] q.toArray[i]) (fun r s2 => r = bsOf f xs ys i ∧ ∃ H', Inv X pins σ H' s2 ∧ L2.Ext H H') X.xe s' := by
  obtain ⟨H1, I1, e1⟩ := l
  have kp : Kp (fun _ => True) H (fun _ => True) H1 := fun a o e _ => ⟨e1 a o e, trivial⟩
  have k1 : i < xs.length := by rw [rx.length, rp.length]; simpa using h1
  have k2 : i < ys.length := by rw [ry.length, rq.length]; simpa using h2
  obtain ⟨v1, g1, t1⟩ := (rx.mono kp).get (List.getElem?_eq_getElem k1)
  obtain ⟨v2, g2, t2⟩ := (ry.mono kp).get (List.getElem?_eq_getElem k2)
  obtain ⟨u1, m1, w1⟩ := rp.get g1
  obtain ⟨u2, m2, w2⟩ := rq.get g2
  have z1 : p.toArray[i] = u1 := by
    have : i < p.length := by simpa using h1
    rw [List.getElem?_eq_getElem this] at m1
    simpa using m1
  have z2 : q.toArray[i] = u2 := by
    have : i < q.length := by simpa using h2
    rw [List.getElem?_eq_getElem this] at m2
    simpa using m2
  rw [z1, z2]
  refine wpAny_mono (h A.in1 pins s' σ H1 _ _ v1 v2 u1 u2 _ sb.in1 I1 t1 t2 w1 w2 ((eqZ_spec hz).1 i _ _ (List.getElem?_eq_getElem k1) (List.getElem?_eq_getElem k2) ht)) (fun r s2 q => ?_) fun _ _ x => x
  exact ⟨q.1, let ⟨H2, I2, e2⟩ := q.2; ⟨H2, I2, e1.trans e2⟩⟩
theorem eqZ_rfl {f : D → D → Option Bool} (h : Rfl X ct f) {pins : List (Addr × Obj)} {s : Shared} {σ : L2.St} {H : Hp} (I : Inv X pins σ H s) : ∀ {xs ys : List D} {vs : List V} {b : Bool}, DRs X.K ct (fun _ => True) H xs vs → DRs X.K ct (fun _ => True) H ys vs → eqZ f xs ys = some b → b = true
  | [], _, _, _, _, _, e => by cases e; rfl
  | _ :: _, [], _, _, _, _, e => by cases e; rfl
  | x :: xs, y :: ys, _, b, .cons r t, .cons r' t', e => by
    unfold eqZ at e
    split at e
    · exact eqZ_rfl h I t t' e
    · rename_i e2
      cases e
      exact h _ _ _ _ _ _ _ _ I r r' e2
    · cases e
theorem eqO_rfl : ∀ k : Nat, Rfl X ct (eqO T call k)
  | 0 => fun pins s σ H x y v b I r1 r2 h => by
    unfold eqO at h
    split at h
    · rename_i e; cases h; exact eqP_rfl _ _ _ _ _ _ _ _ I r1 r2 e
    · exact insE_rfl _ _ _ _ _ _ _ _ I r1 r2 h
  | k + 1 => fun pins s σ H x y v b I r1 r2 h => by
    unfold eqO at h
    split at h
    · rename_i e; cases h; exact eqP_rfl _ _ _ _ _ _ _ _ I r1 r2 e
    · split at h
      · cases r1 with
        | tup g1 t1 =>
        cases r2 with
        | tup g2 t2 =>
        have e := tup_inj (S := fun _ => True) I g1 g2
        subst e
        cases hz : eqZ (eqO T call k) _ _ with
        | none => rw [hz] at h; cases h
        | some r =>
          rw [hz] at h
          cases h
          rw [eqZ_rfl (eqO_rfl k) I t1 t2 hz, t1.length, t2.length, beq_self_eq_true]; rfl
      · cases r1 with
        | lv g1 _ t1 =>
        cases r2 with
        | lv g2 _ t2 =>
        have e := lst_inj g1 g2
        subst e
        rw [if_pos (t1.length.trans t2.length.symm)] at h
        exact eqZ_rfl (eqO_rfl k) I t1 t2 h
      · exact insE_rfl _ _ _ _ _ _ _ _ I r1 r2 h
/-- the rich comparison of two lists, of two tuples, of two instances -/
theorem eqO_rc (ne : Bool) (co : CallOk X.prog X.w X.K X.mg X.base ct fns call n) (ET : EqT X ct fns T) (hr : Room (2 * n + 2) X.A) {d k : Nat} (hd : d + k < 16) (ih : EqS X ct (d + 1) (eqO T call k)) {A : Around} {pins : List (Addr × Obj)} {s : Shared} {σ : L2.St} {H : Hp} {xs ys : List D} {t : Bool} {v1 v2 : V} {u1 u2 : Value} {b : Bool}
    (sb : Blw X d A) (I : Inv X pins σ H s) (r1 : DR X.K ct (fun _ => True) H (if t then .tup xs else .lv xs) v1) (r2 : DR X.K ct (fun _ => True) H (if t then .tup ys else .lv ys) v2) (q1 : RelV v1 u1) (q2 : RelV v2 u2)
    (h : (if t then (eqZ (eqO T call k) xs ys).map fun r => r && xs.length == ys.length else if xs.length = ys.length then eqZ (eqO T call k) xs ys else some false) = some b) :
    wpAny (model X.prog X.w) A (richCompare (if ne then .NotEq else .Eq) u1 u2) (fun r s' => r = .bool (if ne then !b else b) ∧ ∃ H', Inv X pins σ H' s' ∧ L2.Ext H H') X.xe s := by
  have hu : A.units < cLine := (sb.room hr (by omega)).units0
  cases t with
  | true =>
    simp only [if_true] at r1 r2 h
    cases r1 with
    | @tup a1 _ vs1 g1 t1 =>
    cases r2 with
    | @tup a2 _ vs2 g2 t2 =>
    cases q1
    cases q2
    obtain ⟨p, rp, ⟨⟨c1, dd1, da1, sl1⟩, o1, hc1, n1, hd1⟩, _⟩ := I.tuple (.inl (.inl g1.1))
    obtain ⟨q, rq, ⟨⟨c2, dd2, da2, sl2⟩, o2, hc2, n2, hd2⟩, _⟩ := I.tuple (.inl (.inl g2.1))
    simp only at hc1 hd1 hc2 hd2
    subst hc1 hd1 hc2 hd2
    cases hz : eqZ (eqO T call k) xs ys with
    | none => rw [hz] at h; cases h
    | some r =>
      rw [hz] at h
      cases h
      have sp := (eqZ_spec hz).2
      have l1 : p.toArray.size = xs.length := by rw [List.size_toArray, ← rp.length, t1.length]
      have l2 : q.toArray.size = ys.length := by rw [List.size_toArray, ← rq.length, t2.length]
      cases ne with
      | false =>
        refine wpAny_richCompare_same_room (op := .Eq) ⟨_, o1, rfl⟩ ⟨_, o2, rfl⟩ F.slot_tuple_eq (GQ.call_here F.slot_tuple_eq ⟨_, o1, rfl⟩ F.entry_tuple_eq (F.args_tuple_eq_2 _ _) ?_) hu
        refine GB.tup_eqB (J := fun s' => ∃ H', Inv X pins σ H' s' ∧ L2.Ext H H') (bs := bsOf (eqO T call k) xs ys) p.toArray q.toArray n1 n2 dd1 dd2 sl1 sl2 (fun i h1 h2 ht s' l => turn_of ih sb t1 t2 rp rq hz i h1 h2 ht s' l) (fun s' l => ⟨(fun z => nomatch z), ?_, l⟩) o1 o2 ⟨H, I, Ext.rfl'⟩
        rw [l1, l2, ← sp]; rfl
      | true =>
        refine wpAny_richCompare_same_room (op := .NotEq) ⟨_, o1, rfl⟩ ⟨_, o2, rfl⟩ F.slot_tuple_ne (GQ.call_here F.slot_tuple_ne ⟨_, o1, rfl⟩ F.entry_tuple_ne (F.args_tuple_ne_2 _ _) ?_) hu
        refine GB.tup_neB (J := fun s' => ∃ H', Inv X pins σ H' s' ∧ L2.Ext H H') (bs := bsOf (eqO T call k) xs ys) p.toArray q.toArray n1 n2 dd1 dd2 sl1 sl2 (fun i h1 h2 ht s' l => turn_of ih sb t1 t2 rp rq hz i h1 h2 ht s' l) (fun s' l => ⟨(fun z => nomatch z), ?_, l⟩) o1 o2 ⟨H, I, Ext.rfl'⟩
        rw [l1, l2, ← sp]; rfl
  | false =>
    rw [if_neg Bool.false_ne_true] at r1 r2 h
    cases r1 with
    | @lv a1 _ vs1 g1 _ t1 =>
    cases r2 with
    | @lv a2 _ vs2 g2 _ t2 =>
    cases q1
    cases q2
    obtain ⟨p, n1, rp, o1, _⟩ := I.lst g1
    obtain ⟨q, n2, rq, o2, _⟩ := I.lst g2
    have l1 : p.length = xs.length := by rw [← rp.length, t1.length]
    have l2 : q.length = ys.length := by rw [← rq.length, t2.length]
    by_cases hl : xs.length = ys.length
    · rw [if_pos hl] at h
      have sp := (eqZ_spec h).2
      rw [← hl, Nat.min_self] at sp
      have bo : GB.Both X.prog X.w A X.xe a1 a2 xs.length (bsOf (eqO T call k) xs ys) (fun s' => ∃ H', Inv X pins σ H' s' ∧ L2.Ext H H') := fun s' l => by
        obtain ⟨H1, I1, e1⟩ := id l
        obtain ⟨p', n1', rp', o1', _⟩ := I1.lst (e1 _ _ g1)
        obtain ⟨q', n2', rq', o2', _⟩ := I1.lst (e1 _ _ g2)
        exact ⟨p'.toArray, q'.toArray, n1', n2', o1', o2', by rw [List.size_toArray, ← rp'.length, t1.length], by rw [List.size_toArray, ← rq'.length, ← t2.length, hl], fun i h1 h2 ht => turn_of ih sb t1 t2 rp' rq' h i h1 h2 ht s' l⟩
      cases ne with
      | false =>
        refine wpAny_richCompare_same_room (op := .Eq) ⟨_, o1, rfl⟩ ⟨_, o2, rfl⟩ F.slot_list_eq (GQ.call_here F.slot_list_eq ⟨_, o1, rfl⟩ F.entry_list_eq (F.args_list_eq_2 _ _) ?_) hu
        exact GB.lst_eqB bo (fun s' l => ⟨(fun z => nomatch z), by rw [← sp]; rfl, l⟩) ⟨H, I, Ext.rfl'⟩
      | true =>
        refine wpAny_richCompare_same_room (op := .NotEq) ⟨_, o1, rfl⟩ ⟨_, o2, rfl⟩ F.slot_list_ne (GQ.call_here F.slot_list_ne ⟨_, o1, rfl⟩ F.entry_list_ne (F.args_list_ne_2 _ _) ?_) hu
        exact GB.lst_neB bo (fun s' l => ⟨(fun z => nomatch z), by rw [← sp]; rfl, l⟩) ⟨H, I, Ext.rfl'⟩
    · rw [if_neg hl] at h
      cases h
      have hsz : (p.toArray.size != q.toArray.size) = true := by rw [List.size_toArray, List.size_toArray, l1, l2]; exact bne_iff_ne.mpr hl
      cases ne with
      | false => exact SeqAt.RcAt.lists_lengths ⟨_, o1, rfl, _, rfl⟩ ⟨_, o2, rfl, _, rfl⟩ hsz hu X.prog X.w X.xe _ ⟨rfl, H, I, Ext.rfl'⟩
      | true => exact SeqAt.RcNeAt.lists_lengths ⟨_, o1, rfl, _, rfl⟩ ⟨_, o2, rfl, _, rfl⟩ hsz hu X.prog X.w X.xe _ ⟨rfl, H, I, Ext.rfl'⟩
theorem eqO_sound (co : CallOk X.prog X.w X.K X.mg X.base ct fns call n) (ET : EqT X ct fns T) (hr : Room (2 * n + 2) X.A) : ∀ (k d : Nat), d + k < 16 → EqS X ct d (eqO T call k)
  | 0, d, hd => fun A pins s σ H x y v1 v2 u1 u2 b sb I r1 r2 q1 q2 h => by
    have hi := h
    unfold eqO at h
    split at h
    · rename_i e; cases h; exact eqP_sound (hr.mono (by omega)) (by omega) A pins s σ H x y v1 v2 u1 u2 _ sb I r1 r2 q1 q2 e
    · obtain ⟨C, fs, C', gs, i, i', h', rfl, rfl, _⟩ := insE_some h
      have rc := insE_rc co ET (sb.room hr (by omega)) sb.fr I r1 r2 q1 q2 h
      obtain ⟨a1, rfl⟩ := ref_of r1 rfl
      obtain ⟨a2, rfl⟩ := ref_of r2 rfl
      cases q1
      cases q2
      exact eqb_ref I (fun e => by subst e; exact insE_rfl _ _ _ _ _ _ _ _ I r1 r2 h) rc
  | k + 1, d, hd => fun A pins s σ H x y v1 v2 u1 u2 b sb I r1 r2 q1 q2 h => by
    have hi := h
    unfold eqO at h
    split at h
    · rename_i e; cases h; exact eqP_sound (hr.mono (by omega)) (by omega) A pins s σ H x y v1 v2 u1 u2 _ sb I r1 r2 q1 q2 e
    · split at h
      · have rc := eqO_rc false co ET hr (k := k) (by omega) (eqO_sound co ET hr k (d + 1) (by omega)) (t := true) sb I r1 r2 q1 q2 h
        obtain ⟨a1, rfl⟩ := ref_of r1 rfl
        obtain ⟨a2, rfl⟩ := ref_of r2 rfl
        cases q1
        cases q2
        exact eqb_ref I (fun e => by subst e; exact eqO_rfl (k + 1) _ _ _ _ _ _ _ _ I r1 r2 hi) rc
      · have rc := eqO_rc false co ET hr (k := k) (by omega) (eqO_sound co ET hr k (d + 1) (by omega)) (t := false) sb I r1 r2 q1 q2 h
        obtain ⟨a1, rfl⟩ := ref_of r1 rfl
        obtain ⟨a2, rfl⟩ := ref_of r2 rfl
        cases q1
        cases q2
        exact eqb_ref I (fun e => by subst e; exact eqO_rfl (k + 1) _ _ _ _ _ _ _ _ I r1 r2 hi) rc
      · obtain ⟨C, fs, C', gs, i, i', h', rfl, rfl, _⟩ := insE_some h
        have rc := insE_rc co ET (sb.room hr (by omega)) sb.fr I r1 r2 q1 q2 h
        obtain ⟨a1, rfl⟩ := ref_of r1 rfl
        obtain ⟨a2, rfl⟩ := ref_of r2 rfl
        cases q1
        cases q2
        exact eqb_ref I (fun e => by subst e; exact insE_rfl _ _ _ _ _ _ _ _ I r1 r2 h) rc
/-- data as it is seen by a comparison: a changeable list is its items -/
def eqTop (T : List (Nat × Nat)) (call : CallT) (x y : D) : Option Bool := match deq x y with
  | some b => some b
  | none => (match x, y with
    | .tup xs, .tup ys => (eqZ (eqO T call 6) xs ys).map fun r => r && xs.length == ys.length
    | .lv xs, .lv ys => if xs.length = ys.length then eqZ (eqO T call 6) xs ys else some false
    | _, _ => none)
def oEqO (ne : Bool) (T : List (Nat × Nat)) (call : CallT) : Op2 := fun x y h => match viewD x h, viewD y h with
  | some a, some b => (match eqTop T call a b with
    | some r => some (.d (.bl (if ne then !r else r)), h)
    | none => (match ne, x, y with
      | false, .d u, .d v => (insE T call u v).map fun r => (.d (.bl r), h)
      | _, _, _ => none))
  | _, _ => none
theorem view_dr {K : PySem.W.Frag} {m : List Addr} {ah : Hs} {x : Vl} {d : D} {v : V} {H : Hp} (e : viewD x ah = some d) (hr : HR K ct m ah H) (r : VlR K ct m ah H x v) : DR K ct (fun _ => True) H d v := by
  have kp : Kp (Sf m ah) H (fun _ => True) H := fun a o e _ => ⟨e, trivial⟩
  unfold viewD at e
  split at e
  · cases e; exact DR.mono kp r
  · rename_i k
    split at e
    · rename_i xs hk
      cases e
      obtain ⟨a, vs, _, rfl, h1, h2⟩ := hr.lstK hk r
      exact .lv h1 trivial (h2.mono kp)
    · cases e
theorem cmp_rc (ne : Bool) (u1 u2 : Value) : compareOp (if ne then .NotEq else .Eq) u1 u2 = richCompare (if ne then .NotEq else .Eq) u1 u2 := by cases ne <;> rfl
theorem eqo_sound (ne : Bool) (co : CallOk X.prog X.w X.K X.mg X.base ct fns call n) (ET : EqT X ct fns T) (hr : Room (2 * n + 2) X.A) : OpR X (compareOp (if ne then .NotEq else .Eq)) (rOp X.K ct (oEqO ne T call)) := by
  intro pins s σ H x y u1 u2 Q I q1 q2 ⟨m, ah, a, b, h1, ra, rb, p⟩
  unfold oEqO at p
  split at p
  · rename_i d e va vb
    have r1 := view_dr va h1 ra
    have r2 := view_dr vb h1 rb
    have go : ∀ {r : Bool} {H' : Hp} {s' : Shared}, Inv X pins σ H' s' → L2.Ext H H' → Pp X.K ct m ah H (some (.d (.bl r), ah)) Q → EP X pins σ Q (.bool r) s' := fun I' ex p' => by
      obtain ⟨hr', ex'⟩ := h1.more ex
      exact ⟨.bl _, _, I', rfl, p' m _ _ hr' ex' (.bl _)⟩
    split at p
    · rename_i r hq
      unfold eqTop at hq
      split at hq
      · rename_i r' hd
        cases hq
        unfold deq at hd
        split at hd
        · rename_i hc
          cases hd
          have hc' := Bool.and_eq_true_iff.mp hc
          cases ne with
          | false => exact (op_eqD hr.units) pins s σ H x y u1 u2 Q I q1 q2 ⟨d.pd, e.pd, view_dp h1 va ra hc'.1, view_dp h1 vb rb hc'.2, hc'.1, hc'.2, p.same h1 (.bl _)⟩
          | true => exact (op_neD hr.units) pins s σ H x y u1 u2 Q I q1 q2 ⟨d.pd, e.pd, view_dp h1 va ra hc'.1, view_dp h1 vb rb hc'.2, hc'.1, hc'.2, p.same h1 (.bl _)⟩
        · cases hd
      · split at hq
        · have rc := eqO_rc ne co ET hr (d := 0) (k := 6) (by omega) (eqO_sound co ET hr 6 1 (by omega)) (t := true) Blw.top I r1 r2 q1 q2 hq
          rw [cmp_rc]
          refine wpAny_mono rc (fun w s' q => ?_) fun _ _ z => z
          obtain ⟨rfl, H', I', ex⟩ := q
          exact go I' ex p
        · have rc := eqO_rc ne co ET hr (d := 0) (k := 6) (by omega) (eqO_sound co ET hr 6 1 (by omega)) (t := false) Blw.top I r1 r2 q1 q2 hq
          rw [cmp_rc]
          refine wpAny_mono rc (fun w s' q => ?_) fun _ _ z => z
          obtain ⟨rfl, H', I', ex⟩ := q
          exact go I' ex p
        · cases hq
    · split at p
      · rename_i u v
        have eu : viewD (.d u) ah = some u := rfl
        have ev : viewD (.d v) ah = some v := rfl
        cases hi : insE T call u v with
        | none => rw [hi] at p; exact p.elim
        | some r =>
          rw [hi] at p
          have rc := insE_rc co ET (hr.mono (by omega)) rfl I (view_dr eu h1 ra) (view_dr ev h1 rb) q1 q2 hi
          refine wpAny_mono (show wpAny (model X.prog X.w) X.A (compareOp .Eq u1 u2) _ X.xe s from rc) (fun w s' q => ?_) fun _ _ z => z
          obtain ⟨rfl, H', I', ex⟩ := q
          exact go I' ex p
      · exact p.elim
  · exact p.elim
theorem eqoE_sound (co : CallOk X.prog X.w X.K X.mg X.base ct fns call n) (ET : EqT X ct fns T) (hr : Room (2 * n + 2) X.A) : OpR X (compareOp .Eq) (rOp X.K ct (oEqO false T call)) := eqo_sound false co ET hr
theorem eqoN_sound (co : CallOk X.prog X.w X.K X.mg X.base ct fns call n) (ET : EqT X ct fns T) (hr : Room (2 * n + 2) X.A) : OpR X (compareOp .NotEq) (rOp X.K ct (oEqO true T call)) := eqo_sound true co ET hr
end
end Mi

/-! Mi16: tuples and texts repeated, orders of texts, all, any, a sign in a text -/
namespace Mi
open PySem PySem.Spec L2

/-! ### tuple * int: the same object, none -/
theorem tmul_same (l : Addr) (p : Array Value) (n : Nat) (dd : Option Addr) (sl : Array (Option Value)) (x : Int) (u : Tok) (c0 : (decide (x < -(2 ^ 63)) || decide (x ≥ 2 ^ 63)) = false) (c1 : (p.isEmpty || x == 1) = true) :
    Meets (Builtin.«tuple.__mul__» ⟨[.ref l, .int x u], []⟩) (fun _ R s => s.heap.get? l = some { cls := .type "tuple", dict := dd, data := .seq p n, slots := sl } ∧ R (.ok (.ret (Value.ref l))) s) :=
  .of_wp fun prog w A R s h => by
    obtain ⟨hp, g, d, tk, os⟩ := s
    obtain ⟨hl, h⟩ := h
    have f1 := AutoSeq1.idx_int
    wp_walk using AutoSeq1.wpAny_loadPart' hl
    refine wpAny_ite_false (decide_eq_false (by rw [c0]; exact Bool.false_ne_true)) ?_
    wp_walk using AutoSeq1.wpAny_loadPart' hl
    exact ⟨_, rfl, h⟩
theorem tmul_none (l : Addr) (p : Array Value) (n : Nat) (dd : Option Addr) (sl : Array (Option Value)) (x : Int) (u : Tok) (c0 : (decide (x < -(2 ^ 63)) || decide (x ≥ 2 ^ 63)) = false) (c1 : (p.isEmpty || x == 1) = false) (c2 : (decide (x ≤ 0) || p.isEmpty) = true) :
    Meets (Builtin.«tuple.__mul__» ⟨[.ref l, .int x u], []⟩) (fun _ R s => s.heap.get? l = some { cls := .type "tuple", dict := dd, data := .seq p n, slots := sl } ∧
      R (.ok (.ret (Value.ref s.heap.objs.size))) { s with heap := s.heap.push { cls := Value.type "tuple", data := Data.seq #[] }, toks := s.toks }) :=
  .of_wp fun prog w A R s h => by
    obtain ⟨hp, g, d, tk, os⟩ := s
    obtain ⟨hl, h⟩ := h
    have f1 := AutoSeq1.idx_int
    wp_walk using AutoSeq1.wpAny_loadPart' hl
    refine wpAny_ite_false (decide_eq_false (by rw [c0]; exact Bool.false_ne_true)) ?_
    wp_walk using AutoSeq1.wpAny_loadPart' hl
    exact ⟨_, rfl, h⟩
def rRepM (K : PySem.W.Frag) : R2 := fun x y H Q => ∃ l k xs, x = .ref l ∧ y = .int k ∧ SqT K H l xs ∧ -1000 ≤ k ∧ k ≤ 1000 ∧ xs.length ≤ 1000 ∧ ((xs = [] ∨ k = 1) → Q (.ref l) H) ∧ (xs ≠ [] → k ≠ 1 → ∀ p, H p = none → Q (.ref p) (upd H p (.tup (List.replicate k.toNat xs).flatten)))
theorem op_repM {X : Cx} : OpR X (binaryOp .Mult) (rRepM X.K) := by
  intro pins s σ H x y v u Q I rx ry h
  obtain ⟨l, k, xs, rfl, rfl, hT, h1, h2, hz, q1, q2⟩ := h
  by_cases hs : xs = [] ∨ k = 1
  · cases rx
    obtain ⟨t, rfl⟩ := ry
    obtain ⟨its, r, ⟨⟨cls, dd, data, sl⟩, ho, hc, n, hd⟩, hss⟩ := I.tuple hT
    simp only at hc hd
    subst hc hd
    have c0 : (decide (k < -(2 ^ 63)) || decide (k ≥ 2 ^ 63)) = false := by
      rw [decide_eq_false (by omega), decide_eq_false (by omega)]; rfl
    have c1 : (its.toArray.isEmpty || k == 1) = true := by
      rcases hs with rfl | rfl
      · cases r; rfl
      · simp
    refine wpAny_binaryOp_repeat_ref (T := "tuple") (U := "int") (by decide) ⟨_, ho, rfl⟩ (fun s' => typeIs_int s' k t) noFill_tuple_mul F.fills_int_mul F.slot_int_rmul repeat_tuple F.slot_int_index.lookup
      (call_meets F.slot_int_rmul (typeIs_int s k t) F.entry_int_rmul (F.args_int_rmul_2 _ _) (int_rmul_tuple k t l its.toArray n dd sl)
        ⟨ho, rfl, ⟨_, ho, rfl⟩, call_meets F.slot_tuple_mul ⟨_, ho, rfl⟩ F.entry_tuple_mul (F.args_tuple_mul_2 _ _) (tmul_same l its.toArray n dd sl k t c0 c1) ⟨ho, ?_⟩⟩)
    exact ⟨.ref l, H, I, rfl, q1 hs⟩
  · have hne : xs ≠ [] := fun e => hs (.inl e)
    have hk1 : k ≠ 1 := fun e => hs (.inr e)
    by_cases h3 : 2 ≤ k
    · exact op_repT pins s σ H _ _ v u Q I rx ry ⟨l, k, xs, rfl, rfl, hT, hne, h3, h2, hz, q2 hne hk1⟩
    · cases rx
      obtain ⟨t, rfl⟩ := ry
      obtain ⟨its, r, ⟨⟨cls, dd, data, sl⟩, ho, hc, n, hd⟩, hss⟩ := I.tuple hT
      simp only at hc hd
      subst hc hd
      have c0 : (decide (k < -(2 ^ 63)) || decide (k ≥ 2 ^ 63)) = false := by
        rw [decide_eq_false (by omega), decide_eq_false (by omega)]; rfl
      have hi : its.toArray.isEmpty = false := by
        cases its with
        | nil => cases r; exact absurd rfl hne
        | cons a b => rfl
      have c1 : (its.toArray.isEmpty || k == 1) = false := by
        rw [hi, Bool.false_or]; exact beq_eq_false_iff_ne.mpr hk1
      have c2 : (decide (k ≤ 0) || its.toArray.isEmpty) = true := by
        rw [decide_eq_true (by omega)]; rfl
      have e0 : k.toNat = 0 := by omega
      have q := q2 hne hk1
      rw [e0, List.replicate_zero, List.flatten_nil] at q
      refine wpAny_binaryOp_repeat_ref (T := "tuple") (U := "int") (by decide) ⟨_, ho, rfl⟩ (fun s' => typeIs_int s' k t) noFill_tuple_mul F.fills_int_mul F.slot_int_rmul repeat_tuple F.slot_int_index.lookup
        (call_meets F.slot_int_rmul (typeIs_int s k t) F.entry_int_rmul (F.args_int_rmul_2 _ _) (int_rmul_tuple k t l its.toArray n dd sl)
          ⟨ho, rfl, ⟨_, ho, rfl⟩, call_meets F.slot_tuple_mul ⟨_, ho, rfl⟩ F.entry_tuple_mul (F.args_tuple_mul_2 _ _) (tmul_none l its.toArray n dd sl k t c0 c1 c2) ⟨ho, ?_⟩⟩)
      refine ⟨.ref s.heap.objs.size, _, I.laid (t' := s.toks) (o := .tup []) (fun b ob q => Heap.get?_push_of_some _ q) (Nat.le_refl _) ?_, rfl, q _ (I.hok.fresh (Nat.le_refl _))⟩
      exact ⟨Nat.zero_le _, [], .nil, PyProof.Rows.IsTup.new _ _⟩
/-- text * int -/
def rRepS : R2 := fun x y H Q => ∃ (z : Str) (k : Int), x = .str z ∧ y = .int k ∧ 0 ≤ k ∧ k ≤ 1000 ∧ z.length ≤ 1000 ∧ Q (.str ⟨(List.replicate k.toNat z.cps.toList).flatten.toArray⟩) H
theorem fold_rep (p : Array Nat) : ∀ (m : Nat) (acc : Array Nat), (List.replicate m p).foldl (· ++ ·) acc = (acc.toList ++ (List.replicate m p.toList).flatten).toArray
  | 0, acc => by simp
  | m + 1, acc => by
    rw [List.replicate_succ, List.foldl_cons, fold_rep p m, List.replicate_succ, List.flatten_cons]
    simp
theorem op_repS {X : Cx} : OpR X (binaryOp .Mult) rRepS := by
  intro pins s σ H x y v u Q I rx ry h
  obtain ⟨z, k, rfl, rfl, h1, h2, hz, q⟩ := h
  obtain ⟨t, rfl⟩ := rx
  obtain ⟨t2, rfl⟩ := ry
  have lz : z.length = z.cps.size := rfl
  have bnd : z.length * k.toNat ≤ 1000000 := by
    have a1 : z.length * k.toNat ≤ 1000 * 1000 := Nat.mul_le_mul hz (by omega)
    omega
  have e : ((List.replicate k.toNat z.cps).foldl (· ++ ·) #[]) = (List.replicate k.toNat z.cps.toList).flatten.toArray := by
    rw [fold_rep]; simp
  have ln : (List.replicate k.toNat z.cps.toList).flatten.length = z.length * k.toNat := by
    rw [PyProof.Rows.lm_len_rep_flat, lz, Nat.mul_comm]; rfl
  refine PySem.P.mul_str (by rw [decide_eq_false (by omega), decide_eq_false (by omega)]; rfl) (fun g1 _ => ?_) (fun _ _ => ?_) ?_
  · have hk : (0 : Int) < k := by omega
    have : (z.length : Int) ≤ (2 ^ 63 - 1) / k := by
      rw [Int.le_ediv_iff_mul_le hk]
      have a2 : (z.length : Int) * k = ((z.length * k.toNat : Nat) : Int) := by rw [Int.natCast_mul, Int.toNat_of_nonneg h1]
      rw [a2]; omega
    omega
  · unfold PySem.Builtin.Str.tooLong
    rw [sizeLine_eq]
    exact decide_eq_false (by omega)
  · have fin : ∀ (y : Str) (tk t' : Nat), y = ⟨(List.replicate k.toNat z.cps.toList).flatten.toArray⟩ → EP X pins σ Q (.str y tk) { s with toks := t' } := fun y tk t' e => by
      subst e
      exact ⟨.str _, H, I.tok t', ⟨tk, rfl⟩, q⟩
    by_cases g1 : k < 1
    · rw [if_pos g1]
      have e0 : k.toNat = 0 := by omega
      refine ⟨by decide, fin _ _ _ ?_⟩
      rw [e0]; rfl
    · rw [if_neg g1]
      by_cases g2 : (k == 1 || z.length == 0) = true
      · rw [if_pos g2]
        refine fin z t s.toks ?_
        rcases Bool.or_eq_true_iff.mp g2 with g | g
        · rw [beq_iff_eq.mp g]; simp
        · have : z.cps = #[] := Array.eq_empty_of_size_eq_zero (by rw [← lz]; exact beq_iff_eq.mp g)
          obtain ⟨c⟩ := z
          simp only at this
          subst this
          simp
      · rw [if_neg g2, e]
        refine ⟨?_, fin _ _ _ rfl⟩
        show (List.replicate k.toNat z.cps.toList).flatten.toArray.size ≤ _
        rw [List.size_toArray, ln, sizeLine_eq]
        omega

/-! ### the operators -/
def oMulT : Op2 := fun x y h => match x, y with
  | .d (.tup xs), .d (.int k) => if decide (-1000 ≤ k) && (decide (k ≤ 1000) && Nat.ble xs.length 1000) then some (.d (.tup (List.replicate k.toNat xs).flatten), h) else none
  | .d (.str z), .d (.int k) => if decide (0 ≤ k) && (decide (k ≤ 1000) && Nat.ble z.length 1000) then some (.d (.str ⟨(List.replicate k.toNat z.cps.toList).flatten.toArray⟩), h) else none
  | _, _ => none
section
variable {X : Cx} {ct : CT} {W : WX}
theorem rep_drs {K : PySem.W.Frag} {S : Addr → Prop} {H : Hp} {xs : List D} {vs : List V} (r : DRs K ct S H xs vs) : ∀ n : Nat, DRs K ct S H (List.replicate n xs).flatten (List.replicate n vs).flatten
  | 0 => .nil
  | n + 1 => by
    rw [List.replicate_succ, List.replicate_succ, List.flatten_cons, List.flatten_cons]
    exact r.append (rep_drs r n)
theorem mulT_sound : OpR X (binaryOp .Mult) (rOp X.K ct oMulT) := by
  refine OpR.imp (op_repM.or op_repS) fun x y H Q ⟨m, ah, a, b, hr, ra, rb, p⟩ => ?_
  unfold oMulT at p
  split at p
  · rename_i xs k
    cases rb
    split at p
    · rename_i hc
      simp only [Bool.and_eq_true, decide_eq_true_eq] at hc
      obtain ⟨l, vs, rfl, h1, r1⟩ := tup_of ra
      refine .inl ⟨l, k, vs, rfl, rfl, h1, hc.1, hc.2.1, by rw [← r1.length]; exact Nat.le_of_ble_eq_true hc.2.2, fun hs => ?_, fun _ _ => p.new hr fun a ha kp s => new_tup (rep_drs r1 _) kp s⟩
      refine p.same hr ?_
      rcases hs with rfl | rfl
      · cases r1
        have : (List.replicate k.toNat ([] : List D)).flatten = [] := by simp
        rw [this]; exact ra
      · have : (List.replicate (Int.toNat 1) xs).flatten = xs := by simp
        rw [this]; exact ra
    · exact p.elim
  · cases ra; cases rb
    split at p
    · rename_i hc
      simp only [Bool.and_eq_true, decide_eq_true_eq] at hc
      exact .inr ⟨_, _, rfl, rfl, hc.1, hc.2.1, Nat.le_of_ble_eq_true hc.2.2, p.same hr (.str _)⟩
    · exact p.elim
  · exact p.elim
/-- texts by their order -/
def oS (g : List Nat → List Nat → Bool) : Op2 := fun x y h => match x, y with
  | .d (.str a), .d (.str b) => some (.d (.bl (g a.cps.toList b.cps.toList)), h)
  | _, _ => none
theorem oS_sound {op : CmpOp} {g : List Nat → List Nat → Bool} (ho : OpR X (compareOp op) (fun x y H Q => ∃ i j, x = .str i ∧ y = .str j ∧ Q (.bl (g i.cps.toList j.cps.toList)) H)) : OpR X (compareOp op) (rOp X.K ct (oS g)) :=
  OpR.imp ho fun x y H Q ⟨m, ah, a, b, hr, ra, rb, p⟩ => by
    unfold oS at p
    split at p
    · cases ra; cases rb; exact ⟨_, _, rfl, rfl, p.same hr (.bl _)⟩
    · exact p.elim
def oLeS : Op2 := oS fun i j => !decide (j < i)
def oGtS : Op2 := oS fun i j => decide (j < i)
def oGeS : Op2 := oS fun i j => !decide (i < j)
theorem leS_sound : OpR X (compareOp .LtE) (rOp X.K ct oLeS) := oS_sound op_le_str
theorem gtS_sound : OpR X (compareOp .Gt) (rOp X.K ct oGtS) := oS_sound op_gt_str
theorem geS_sound : OpR X (compareOp .GtE) (rOp X.K ct oGeS) := oS_sound op_ge_str
/-- one sign in a text -/
def oInC (neg : Bool) : Op2 := fun x y h => match x, y with
  | .d (.str a), .d (.str z) => (match a.cps.toList with
    | [c] => some (.d (.bl (if neg then !decide (c ∈ z.cps.toList) else decide (c ∈ z.cps.toList))), h)
    | _ => none)
  | _, _ => none
theorem str_one {a : Str} {c : Nat} (h : a.cps.toList = [c]) : a = ⟨#[c]⟩ := by
  obtain ⟨⟨l⟩⟩ := a
  simp only at h
  subst h; rfl
theorem inC_sound : OpR X (compareOp .In) (rOp X.K ct (oInC false)) := OpR.imp op_in_sign fun x y H Q ⟨m, ah, a, b, hr, ra, rb, p⟩ => by
  unfold oInC at p
  split at p
  · split at p
    · rename_i e
      cases ra; cases rb; exact ⟨_, _, congrArg V.str (str_one e), rfl, p.same hr (.bl _)⟩
    · exact p.elim
  · exact p.elim
theorem notInC_sound : OpR X (compareOp .NotIn) (rOp X.K ct (oInC true)) := OpR.imp op_notIn_sign fun x y H Q ⟨m, ah, a, b, hr, ra, rb, p⟩ => by
  unfold oInC at p
  split at p
  · split at p
    · rename_i e
      cases ra; cases rb; exact ⟨_, _, congrArg V.str (str_one e), rfl, p.same hr (.bl _)⟩
    · exact p.elim
  · exact p.elim
/-- flat things of one kind -/
def scF : D → D → Bool
  | .non, .non => true | .bl _, .bl _ => true | .int _, .int _ => true | .str _, .str _ => true
  | .non, .str _ => true | .str _, .non => true | .non, .int _ => true | .int _, .non => true | .non, .bl _ => true | .bl _, .non => true
  | .int _, .str _ => true | .str _, .int _ => true | .bl _, .str _ => true | .str _, .bl _ => true
  | _, _ => false
def oEqF (ne : Bool) : Op2 := fun x y h => match x, y with
  | .d a, .d b => if scF a b = true then some (.d (.bl (if ne then !eqF a b else eqF a b)), h) else none
  | _, _ => none
theorem scF_of {K : PySem.W.Frag} {S : Addr → Prop} {H : Hp} {a b : D} {x y : V} (h : scF a b = true) (ra : DR K ct S H a x) (rb : DR K ct S H b y) : scal x y = true ∧ decide (x = y) = eqF a b := by
  cases ra <;> cases rb <;> first | (cases h; done) | (refine ⟨rfl, ?_⟩; simp [eqF, Bool.beq_eq_decide_eq])
theorem eqF_sound : OpR X (compareOp .Eq) (rOp X.K ct (oEqF false)) := OpR.imp op_eq fun x y H Q ⟨m, ah, a, b, hr, ra, rb, p⟩ => by
  unfold oEqF at p
  split at p
  · split at p
    · rename_i hs
      obtain ⟨h1, h2⟩ := scF_of hs ra rb
      refine ⟨h1, ?_⟩
      rw [h2]
      exact p.same hr (.bl _)
    · exact p.elim
  · exact p.elim
theorem neF_sound : OpR X (compareOp .NotEq) (rOp X.K ct (oEqF true)) := OpR.imp op_ne fun x y H Q ⟨m, ah, a, b, hr, ra, rb, p⟩ => by
  unfold oEqF at p
  split at p
  · split at p
    · rename_i hs
      obtain ⟨h1, h2⟩ := scF_of hs ra rb
      refine ⟨h1, ?_⟩
      rw [h2]
      exact p.same hr (.bl _)
    · exact p.elim
  · exact p.elim
/-! ### all, any of a list of truths -/
def bls : List D → Option (List Bool)
  | [] => some []
  | .bl b :: xs => (bls xs).map (b :: ·)
  | _ :: _ => none
theorem bls_of {K : PySem.W.Frag} {S : Addr → Prop} {H : Hp} : ∀ {xs : List D} {vs : List V} {bs : List Bool}, DRs K ct S H xs vs → bls xs = some bs → vs = bs.map V.bl
  | _, _, _, .nil, h => by cases h; rfl
  | _, _, _, .cons (d := d) r t, h => by
    cases r <;> first | (cases h; done) | skip
    rename_i b
    unfold bls at h
    cases q : bls _ with
    | none => rw [q] at h; cases h
    | some l =>
      rw [q] at h
      cases h
      rw [bls_of t q]; rfl
def nBs (g : List Bool → Bool) : OpN := fun xs h => match xs with
  | [x] => (match lstOf x h with
    | some ys => (bls ys).map fun bs => (.d (.bl (g bs)), h)
    | none => none)
  | _ => none
theorem nBs_sound {id : String} {g : List Bool → Bool} (hc : CallR X (.builtin id) (fun vs H Q => ∃ (a : Addr) (bs : List Bool), vs = [V.ref a] ∧ SqL X.K H a (bs.map V.bl) ∧ Q (.bl (g bs)) H)) : CallR X (.builtin id) (rN X.K ct (nBs g)) := by
  refine CallR.imp hc fun vs H Q ⟨m, ah, xs, hr, rs, p⟩ => ?_
  unfold nBs at p
  split at p
  · cases rs with
    | cons r t =>
      cases t
      split at p
      · rename_i ys e
        obtain ⟨a, ws, rfl, h1, r1⟩ := lst_of hr e r
        cases q : bls ys with
        | none => rw [q] at p; exact p.elim
        | some bs =>
          rw [q] at p
          have ew := bls_of r1 q
          subst ew
          exact ⟨a, bs, rfl, .of h1, p.same hr (.bl _)⟩
      · exact p.elim
  · exact p.elim
def nAll : OpN := nBs fun bs => bs.all id
def nAny : OpN := nBs fun bs => bs.any id
theorem all_sound (hc : X.calm = true) : CallR X (.builtin "all") (rN X.K ct nAll) := nBs_sound (cr_all hc)
theorem any_sound (hc : X.calm = true) : CallR X (.builtin "any") (rN X.K ct nAny) := nBs_sound (cr_any hc)
/-! ### try that runs through -/
end
section
variable {X : Cx} {ct : CT} {W : WX} {pos : Pos} {body : List Stmt} {h0 : ExceptHandler} {hs : List ExceptHandler} {u : SemS}
/-- no exception leaves -/
def sThru (f : SemS) : SemS := fun σ h => match f σ h with
  | .exc _ _ _ => .bad
  | r => r
theorem ss_thru (hb : SSs X.nox ct W0 body u) : SS X ct W (.Try body (h0 :: hs) [] [] pos) (sThru u) := PS.imp (ps_try_thru0 hb) fun D σV H ⟨m, ah, σ, hr, lr, p⟩ => by
  refine ⟨m, ah, σ, hr, lr, ?_⟩
  unfold sThru at p
  cases e : u σ ah with
  | ok f σ' h' => rw [e] at p; exact p
  | exc x σ' h' => rw [e] at p; exact p.elim
  | bad => rw [e] at p; exact p.elim
end
end Mi

/-! Mi17: facts of many classes at once -/
namespace Mi
open PySem PySem.Spec L2
/-- own classes told apart by isinstance, built-in ones denied -/
def isiT (ok : List Nat) (bt : List String) (C : Nat) : List (Ty × Bool) := ok.map (fun E => (Ty.c E, E == C)) ++ bt.map fun s => (Ty.b s, false)
theorem IsiOk.mapC {K : PySem.W.Frag} {ct : CT} {u : Value} {g : Nat → Bool} {l : List (Ty × Bool)} (h : IsiOk K ct u l) : ∀ {ok : List Nat}, (∀ E ∈ ok, PySem.W.kitOne K (.ref (ct.ca E)) u = some (g E) ∧ IsiC K (ct.ca E)) → IsiOk K ct u (ok.map (fun E => (Ty.c E, g E)) ++ l)
  | [], _ => h
  | E :: ok, q => .consC (q E List.mem_cons_self).1 (q E List.mem_cons_self).2 (IsiOk.mapC h fun E' hE => q E' (List.mem_cons_of_mem _ hE))
theorem IsiOk.mapB {K : PySem.W.Frag} {ct : CT} {u : Value} : ∀ {bt : List String}, (∀ s ∈ bt, PySem.W.kitOne K (.type s) u = some false) → IsiOk K ct u (bt.map fun s => (Ty.b s, false))
  | [], _ => .nil
  | E :: ok, q => .consB (q E List.mem_cons_self) (IsiOk.mapB fun E' hE => q E' (List.mem_cons_of_mem _ hE))
theorem isiT_ok {K : PySem.W.Frag} {ct : CT} {cn : List Str} {ok : List Nat} {bt : List String} {cs : List Nat} {C : Nat} (hca : ∀ C, ct.ca C = cga K cn C) (hc : ∀ E ∈ ok, Cls K (ct.ca E)) (h1 : isiAllB K cn ok = true) (h2 : kitAllB K cn ok bt cs = true) (hC : C ∈ cs) : IsiOk K ct (.ref (ct.ca C)) (isiT ok bt C) := by
  have k := List.all_eq_true.mp h2 C hC
  have k1 := Bool.and_eq_true_iff.mp k
  rw [hca]
  refine IsiOk.mapC (.mapB fun s hs => kitA_ok (List.all_eq_true.mp k1.2 s hs)) fun E hE => ?_
  have h3 := List.all_eq_true.mp h1 E hE
  rw [← hca] at h3
  refine ⟨?_, isiB_ok (hc E hE) h3⟩
  rw [hca]
  exact kitA_ok (List.all_eq_true.mp k1.1 E hE)
/-- one class with an own __eq__ -/
structure EqC (X : Cx) (ct : CT) (fns : List Fn) (C i : Nat) : Prop where
  ex : ∃ F, fns[i]? = some F ∧ Meth X.K (ct.ca C) "__eq__" F.f ∧ FnI X.K F
theorem EqC.mk' {X : Cx} {ct : CT} {fns : List Fn} {C i : Nat} {F : Fn} (h : fns[i]? = some F) (m : Meth X.K (ct.ca C) "__eq__" F.f) (f : FnI X.K F) : EqC X ct fns C i := ⟨⟨F, h, m, f⟩⟩
inductive EqCs (X : Cx) (ct : CT) (fns : List Fn) : List (Nat × Nat) → Prop
  | nil : EqCs X ct fns []
  | cons {C i l} : EqC X ct fns C i → EqCs X ct fns l → EqCs X ct fns ((C, i) :: l)
theorem EqCs.at_ {X : Cx} {ct : CT} {fns : List Fn} {C i : Nat} : ∀ {l : List (Nat × Nat)}, EqCs X ct fns l → l.lookup C = some i → EqC X ct fns C i ∧ C ∈ l.map (·.1)
  | _, .nil, h => by cases h
  | _, .cons (C := C') (i := i') h t, e => by
    by_cases q : C = C'
    · subst q
      simp only [List.lookup, beq_self_eq_true] at e
      cases e
      exact ⟨h, List.mem_cons_self⟩
    · have b : (C == C') = false := beq_eq_false_iff_ne.mpr q
      simp only [List.lookup, b] at e
      exact ⟨(t.at_ e).1, List.mem_cons_of_mem _ (t.at_ e).2⟩
theorem EqCs.tab {X : Cx} {ct : CT} {fns : List Fn} {cn : List Str} {T : List (Nat × Nat)} (h : EqCs X ct fns T) (hca : ∀ C, ct.ca C = cga X.K cn C) (hn : nfAllB X.K cn (T.map (·.1)) = true) : EqT X ct fns T where
  own C i e := by
    obtain ⟨F, h1, h2, h3⟩ := (h.at_ e).1.ex
    exact ⟨F, h1, h2.at_, h2.fn, h3.bi⟩
  two C i C' i' e e' := by
    rw [hca, hca]
    exact List.all_eq_true.mp (List.all_eq_true.mp hn C (h.at_ e).2) C' (h.at_ e').2
/-- a number, a text of the module -/
theorem se_gI {X : Cx} {ct : CT} {W : WX} {pos : Pos} {x : Str} {i : Int} (hg : Gl X x) (hm : ∃ t, X.mg x = some (.int i t)) (hd : (x == ("__debug__" : Str)) = false := by decide) : SE X ct W (.Name x pos) (eK (.int i)) :=
  let ⟨_, h⟩ := hm; se_globI hg h hd
theorem se_gS {X : Cx} {ct : CT} {W : WX} {pos : Pos} {x : Str} {i : Str} (hg : Gl X x) (hm : ∃ t, X.mg x = some (.str i t)) (hd : (x == ("__debug__" : Str)) = false := by decide) : SE X ct W (.Name x pos) (eK (.str i)) :=
  let ⟨_, h⟩ := hm; se_globS hg h hd
end Mi

/-! Mi18: the head's own hook for many classes: each object is met once -/
namespace Mi
open PySem PySem.Spec L2
end Mi

/-! Mi19: drawn numbers, for any law; the further operators at work -/
namespace Mi
open PySem PySem.Spec
section
variable {h : Hs}
@[simp] theorem o_eqF_int (ne : Bool) (i j : Int) : oEqF ne (.d (.int i)) (.d (.int j)) h = some (.d (.bl (if ne then !(i == j) else i == j)), h) := rfl
@[simp] theorem o_eqF_str (ne : Bool) (i j : Str) : oEqF ne (.d (.str i)) (.d (.str j)) h = some (.d (.bl (if ne then !(i == j) else i == j)), h) := rfl
@[simp] theorem o_eqF_bl (ne : Bool) (i j : Bool) : oEqF ne (.d (.bl i)) (.d (.bl j)) h = some (.d (.bl (if ne then !(i == j) else i == j)), h) := rfl
@[simp] theorem ap_thru {σ : Lo} (f : SemS) : sThru f σ h = match f σ h with
  | .exc _ _ _ => .bad
  | r => r := rfl
end
/-- == of two data -/
def eqD2 (T : List (Nat × Nat)) (call : CallT) (x y : D) : Option Bool := match eqTop T call x y with
  | some r => some r
  | none => insE T call x y
theorem o_eqO {T : List (Nat × Nat)} {call : CallT} {x y : D} {b : Bool} (h : Hs) (e : eqD2 T call x y = some b) : oEqO false T call (.d x) (.d y) h = some (.d (.bl b), h) := by
  unfold eqD2 at e
  unfold oEqO
  dsimp only [viewD]
  cases q : eqTop T call x y with
  | some r => rw [q] at e; cases e; rfl
  | none => rw [q] at e; dsimp only at e ⊢; rw [e]; rfl
theorem o_neO {T : List (Nat × Nat)} {call : CallT} {x y : Vl} {d e : D} {b : Bool} (h : Hs) (hx : viewD x h = some d) (hy : viewD y h = some e) (q : eqTop T call d e = some b) : oEqO true T call x y h = some (.d (.bl (!b)), h) := by
  unfold oEqO
  rw [hx, hy]
  dsimp only
  rw [q]; rfl
def takeB (call : CallT) : SemS := (sSq (sIf (tBl (eBin (oEqF false) (eBin oIx (eVar 0) (eK (.int 2))) (eK (.int 0))))
      (sSq (sAs (eK (.int 0)) (gNm 2))
      (sSq (sIf (tBl (eBin oLt (eBin oIx (eVar 0) (eK (.int 1))) (eN nLen (aCons (eBin oIx (eVar 0) (eK (.int 0))) aNil))))
      (sAs (eBin oIx (eBin oIx (eVar 0) (eK (.int 0))) (eBin oIx (eVar 0) (eK (.int 1)))) (gNm 2))
      sNil)
      (sSq (sAs (eBin oAdd (eBin oIx (eVar 0) (eK (.int 1))) (eK (.int 1))) (gSt (eVar 0) (eK (.int 1))))
      (sIf (tBl (eBin oGe (eVar 2) (eBin oPow (eK (.int 10)) (eK (.int 18)))))
      (sAs (eVar 2) (gSt (eVar 0) (eK (.int 2))))
      (sSq (sAs (eBin oMod (eN nInt (aCons (eBin oAdd (eBin oAdd (eBin oAdd (eBin oMulI (eBin oIx (eVar 0) (eK (.int 3))) (eK (.int 69621))) (eBin oMulI (eBin oMod (eN nInt (aCons (eVar 2) aNil)) (eK (.int 2147483629))) (eK (.int 48271)))) (eBin oMulI (eBin oIx (eVar 0) (eK (.int 1))) (eK (.int 7919)))) (eK (.int 1))) aNil)) (eK (.int 2147483647))) (gNm 3))
      (sSq (sAs (eBin oMod (eN nInt (aCons (eBin oAdd (eBin oAdd (eBin oMulI (eVar 3) (eVar 3)) (eBin oMulI (eBin oIx (eVar 0) (eK (.int 1))) (eK (.int 104729)))) (eK (.int 13))) aNil)) (eK (.int 2147483629))) (gNm 3))
      (sSq (sAs (eVar 3) (gSt (eVar 0) (eK (.int 3))))
      (sRt (eBin oMod (eBin oDiv (eVar 3) (eK (.int 7))) (eVar 1))))))))))
      sNil)
      (sSq (sAs (eBin oMod (eN nInt (aCons (eBin oIx (eVar 0) (eK (.int 2))) aNil)) (eVar 1)) (gNm 4))
      (sSq (sAs (eBin oDiv (eBin oIx (eVar 0) (eK (.int 2))) (eVar 1)) (gSt (eVar 0) (eK (.int 2))))
      (sRt (eVar 4)))))
theorem atI_nat {α : Type} (xs : List α) (k : Nat) : L2.atI xs (k : Int) = xs[k]? := by
  unfold L2.atI L2.ixN
  by_cases h : k < xs.length
  · rw [if_pos (by omega), if_pos (by omega)]; simp
  · rw [if_pos (by omega), if_neg (by omega), List.getElem?_eq_none (by omega)]; rfl
theorem atI_back {α : Type} (xs : List α) (k : Nat) (h : k < xs.length) : L2.atI xs ((xs.length : Int) - 1 - (k : Int)) = xs.reverse[k]? := by
  rw [show (xs.length : Int) - 1 - (k : Int) = ((xs.length - 1 - k : Nat) : Int) by omega, atI_nat, List.getElem?_reverse h]
theorem cut_from {α : Type} (xs : List α) (k : Nat) : cutL xs (some (k : Int)) none = xs.drop k := by
  unfold cutL
  rw [HT.sIx_nat, HT.sIx_none]
  by_cases h : k ≤ xs.length
  · rw [Nat.min_eq_left h, List.take_of_length_le (by simp)]
  · rw [Nat.min_eq_right (by omega), List.drop_length, List.drop_eq_nil_of_le (by omega)]; simp
theorem cut_to {α : Type} (xs : List α) (k : Nat) : cutL xs none (some (k : Int)) = xs.take k := by
  unfold cutL
  rw [HT.sIx_nat, HT.sIx_none, List.drop_zero, Nat.sub_zero]
  by_cases h : k ≤ xs.length
  · rw [Nat.min_eq_left h]
  · rw [Nat.min_eq_right (by omega), List.take_length, List.take_of_length_le (by omega)]
/-! ### what both strippings do -/
def sF : List Int → List Int → List Int × List Int
  | x :: xs, y :: ys => if x = y then sF xs ys else (x :: xs, y :: ys)
  | xs, ys => (xs, ys)
def sB (l r : List Int) : List Int × List Int := ((sF (sF l r).1.reverse (sF l r).2.reverse).1.reverse, (sF (sF l r).1.reverse (sF l r).2.reverse).2.reverse)
theorem sF_nil_l (r : List Int) : sF [] r = ([], r) := by cases r <;> rfl
theorem sF_nil_r (l : List Int) : sF l [] = (l, []) := by cases l <;> rfl
theorem drop_cons {α : Type} {xs : List α} {k : Nat} {x : α} (e : xs[k]? = some x) : xs.drop k = x :: xs.drop (k + 1) := by
  obtain ⟨h, rfl⟩ := List.getElem?_eq_some_iff.mp e
  exact List.drop_eq_getElem_cons h
theorem map_get (l : List Int) (k : Nat) : (l.map D.int)[k]? = (l[k]?).map D.int := List.getElem?_map
theorem minI (a b : Nat) : (if (b : Int) < (a : Int) then (b : Int) else (a : Int)) = ((min a b : Nat) : Int) := by
  by_cases h : b < a
  · rw [if_pos (by omega), Nat.min_eq_right (by omega)]
  · rw [if_neg (by omega), Nat.min_eq_left (by omega)]
/-! ### drawn numbers -/
/-- the law's source of numbers, drawn from k times at most -/
def Src (k : Nat) (o : O) : Prop := ∃ (sc : List Int) (a : Nat) (b : Int) (c : Nat), o = .lst [.lv (sc.map D.int), .int (a : Int), .int b, .int (c : Int)] ∧ a ≤ k ∧ c < 2147483647
theorem Src.up {k m : Nat} {o : O} (h : Src k o) (hk : k ≤ m) : Src m o := by
  obtain ⟨sc, a, b, c, e, h1, h2⟩ := h
  exact ⟨sc, a, b, c, e, Nat.le_trans h1 hk, h2⟩
theorem cm {i j : Int} (h1 : i.natAbs < 2 ^ 200) (h2 : j.natAbs < 2 ^ 200) : cMulW i j = true := by
  unfold cMulW
  apply decide_eq_true
  have a : i.natAbs.log2 < 200 := by
    by_cases z : i.natAbs = 0
    · rw [z]; decide
    · exact (Nat.log2_lt z).mpr h1
  have b : j.natAbs.log2 < 200 := by
    by_cases z : j.natAbs = 0
    · rw [z]; decide
    · exact (Nat.log2_lt z).mpr h2
  omega
theorem cd {i j : Int} (h1 : 0 < j) (h2 : j.natAbs < 2 ^ 200) : cDivW i j = true := by
  unfold cDivW
  rw [Bool.and_eq_true, decide_eq_true_eq, decide_eq_true_eq]
  refine ⟨h1, ?_⟩
  have : j.natAbs.log2 < 200 := (Nat.log2_lt (by omega)).mpr h2
  omega
@[simp] theorem at0 {o : O} {t : Hs} : (o :: t)[0]? = some o := rfl
theorem e_take {defs : List MDef} {ix : Nat} (hd : defs[ix]? = some ⟨2, 5, false, takeB⟩) (n k : Nat) (hk : k < 1000000) {src : O} (hs : Src k src) (M : Nat) (hM : 0 < M) (hM2 : M < 2 ^ 180) (t : Hs) : ∃ v : Nat, v < M ∧ ∃ src', Src (k + 1) src' ∧ callF defs (n + 1) ix [.r 0, .d (.int (M : Int))] (src :: t) = .ok (.d (.int (v : Int))) (src' :: t) := by
  obtain ⟨sc, a, b, c, rfl, ha, hc⟩ := hs
  rw [callF_at (md := ⟨2, 5, false, takeB⟩) hd rfl]
  have dsh : ∀ (σ : Lo) (h : Hs), (⟨2, 5, false, takeB⟩ : MDef).body (callF defs n) σ h = takeB (callF defs n) σ h := fun _ _ => rfl
  have x0 : ∀ w x y z : D, L2.atI [w, x, y, z] 0 = some w := fun _ _ _ _ => rfl
  have x1 : ∀ w x y z : D, L2.atI [w, x, y, z] 1 = some x := fun _ _ _ _ => rfl
  have x2 : ∀ w x y z : D, L2.atI [w, x, y, z] 2 = some y := fun _ _ _ _ => rfl
  have x3 : ∀ w x y z : D, L2.atI [w, x, y, z] 3 = some z := fun _ _ _ _ => rfl
  have i1 : L2.ixN 4 1 = some 1 := rfl
  have i2 : L2.ixN 4 2 = some 2 := rfl
  have i3 : L2.ixN 4 3 = some 3 := rfl
  have rI : ∀ (xs : List D) (t : Hs) (i : Int), oIx (.r 0) (.d (.int i)) (.lst xs :: t) = (L2.atI xs i).map fun d => (.d d, .lst xs :: t) := fun xs t i => o_ixR rfl i
  have hMI : (0 : Int) < (M : Int) := by omega
  have dM : ∀ i : Int, cDivW i (M : Int) = true := fun i => cd hMI (by omega)
  have md : ∀ i : Int, ∃ v : Nat, v < M ∧ i % (M : Int) = (v : Int) := fun i => ⟨(i % (M : Int)).toNat, by
    have h1 := Int.emod_nonneg i (show (M : Int) ≠ 0 by omega)
    have h2 := Int.emod_lt_of_pos i hMI
    omega, by
    have h1 := Int.emod_nonneg i (show (M : Int) ≠ 0 by omega)
    omega⟩
  have pw : ∀ h : Hs, oPow (.d (.int 10)) (.d (.int 18)) h = some (.d (.int 1000000000000000000), h) := fun h => by
    rw [o_pow, show cPow 10 18 = true by decide +kernel]; rfl
  have d7 : ∀ i : Int, cDivW i 7 = true := fun i => cd (by omega) (by decide)
  by_cases hb : b = 0
  · subst hb
    have mix : ∀ cell : Int, ∃ c1 : Nat, c1 < 2147483647 ∧ ((c : Int) * 69621 + cell % 2147483629 * 48271 + ((a : Int) + 1) * 7919 + 1) % 2147483647 = (c1 : Int) := fun cell => by
      have h1 := Int.emod_nonneg ((c : Int) * 69621 + cell % 2147483629 * 48271 + ((a : Int) + 1) * 7919 + 1) (show (2147483647 : Int) ≠ 0 by omega)
      have h2 := Int.emod_lt_of_pos ((c : Int) * 69621 + cell % 2147483629 * 48271 + ((a : Int) + 1) * 7919 + 1) (show (0 : Int) < 2147483647 by omega)
      generalize ((c : Int) * 69621 + cell % 2147483629 * 48271 + ((a : Int) + 1) * 7919 + 1) % 2147483647 = z at *
      exact ⟨z.toNat, by omega, by omega⟩
    have mix2 : ∀ c1 : Nat, ∃ c2 : Nat, c2 < 2147483647 ∧ ((c1 : Int) * (c1 : Int) + ((a : Int) + 1) * 104729 + 13) % 2147483629 = (c2 : Int) := fun c1 => by
      have h1 := Int.emod_nonneg ((c1 : Int) * (c1 : Int) + ((a : Int) + 1) * 104729 + 13) (show (2147483629 : Int) ≠ 0 by omega)
      have h2 := Int.emod_lt_of_pos ((c1 : Int) * (c1 : Int) + ((a : Int) + 1) * 104729 + 13) (show (0 : Int) < 2147483629 by omega)
      generalize ((c1 : Int) * (c1 : Int) + ((a : Int) + 1) * 104729 + 13) % 2147483629 = z at *
      exact ⟨z.toNat, by omega, by omega⟩
    have q1 : cMulW (c : Int) 69621 = true := cm (by omega) (by decide)
    have q2 : ∀ cell : Int, cMulW (cell % 2147483629) 48271 = true := fun cell => by
      have h1 := Int.emod_nonneg cell (show (2147483629 : Int) ≠ 0 by omega)
      have h2 := Int.emod_lt_of_pos cell (show (0 : Int) < 2147483629 by omega)
      generalize cell % 2147483629 = z at *
      exact cm (by omega) (by decide)
    have q3 : cMulW ((a : Int) + 1) 7919 = true := cm (by omega) (by decide)
    have q4 : cMulW ((a : Int) + 1) 104729 = true := cm (by omega) (by decide)
    have q5 : ∀ c1 : Nat, c1 < 2147483647 → cMulW (c1 : Int) (c1 : Int) = true := fun c1 h => cm (by omega) (by omega)
    by_cases hlt : a < sc.length
    · have hlt' : (a : Int) < (sc.length : Int) := by omega
      have g : L2.atI (sc.map D.int) (a : Int) = some (.int sc[a]) := by rw [atI_nat, map_get, List.getElem?_eq_getElem hlt]; rfl
      generalize sc[a] = cell at *
      by_cases hbig : 1000000000000000000 ≤ cell
      · obtain ⟨v, hv, ev⟩ := md cell
        refine ⟨v, hv, .lst [.lv (sc.map D.int), .int ((a + 1 : Nat) : Int), .int (cell / (M : Int)), .int (c : Int)], ⟨sc, a + 1, _, c, rfl, by omega, hc⟩, ?_⟩
        simp [startL, takeB, rI, x0, x1, x2, x3, i1, i2, i3, hlt', g, pw, hbig, hM, dM, ev]
      · obtain ⟨c1, hc1, e1⟩ := mix cell
        obtain ⟨c2, hc2, e2⟩ := mix2 c1
        obtain ⟨v, hv, ev⟩ := md ((c2 : Int) / 7)
        refine ⟨v, hv, .lst [.lv (sc.map D.int), .int ((a + 1 : Nat) : Int), .int 0, .int (c2 : Int)], ⟨sc, a + 1, 0, c2, rfl, by omega, hc2⟩, ?_⟩
        simp [startL, takeB, rI, x0, x1, x2, x3, i1, i2, i3, hlt', g, pw, hbig, hM, dM, d7, q1, q2, q3, q4, q5 c1 hc1, e1, e2, ev]
    · have hlt' : ¬ (a : Int) < (sc.length : Int) := by omega
      obtain ⟨c1, hc1, e1⟩ := mix 0
      obtain ⟨c2, hc2, e2⟩ := mix2 c1
      obtain ⟨v, hv, ev⟩ := md ((c2 : Int) / 7)
      refine ⟨v, hv, .lst [.lv (sc.map D.int), .int ((a + 1 : Nat) : Int), .int 0, .int (c2 : Int)], ⟨sc, a + 1, 0, c2, rfl, by omega, hc2⟩, ?_⟩
      have q20 := q2 0
      simp at e1 q20
      simp [startL, takeB, rI, x0, x1, x2, x3, i1, i2, i3, hlt', pw, hM, dM, d7, q1, q20, q3, q4, q5 c1 hc1, e1, e2, ev]
  · obtain ⟨v, hv, ev⟩ := md b
    refine ⟨v, hv, .lst [.lv (sc.map D.int), .int (a : Int), .int (b / (M : Int)), .int (c : Int)], ⟨sc, a, _, c, rfl, by omega, hc⟩, ?_⟩
    simp [startL, takeB, rI, x0, x1, x2, x3, i1, i2, i3, hb, hM, dM, ev]
end Mi
namespace Mi
open PySem PySem.Spec
theorem cmpL_draw {vs : List Nat} {g : SemG} {f : SemE} {σ : Lo} (cost K : Nat) (P : D → Prop) (t : Hs) : ∀ (ds : List D) (k : Nat) (src : O) (acc : List D),
    (∀ d ∈ ds, ∀ k src h', k + cost ≤ K → Src k src → ∃ σ1 y src', (∀ h, g (.d d) (wipeL σ vs) h = some (σ1, h)) ∧ P y ∧ Src (k + cost) src' ∧ f σ1 (src :: h') = .ok (.d y) (src' :: h')) →
    Src k src → k + cost * ds.length ≤ K → acc.length + ds.length < sizeLine →
    ∃ ys src', ys.length = ds.length ∧ (∀ y ∈ ys, P y) ∧ Src (k + cost * ds.length) src' ∧ cmpL vs g tYs f (t.length + 1) ds σ (src :: (t ++ [.lst acc])) = some (src' :: (t ++ [.lst (acc ++ ys)]))
  | [], k, src, acc, _, hs, _, _ => ⟨[], src, rfl, fun y hy => (by cases hy), hs.up (by simp), by simp [cmpL]⟩
  | d :: ds, k, src, acc, step, hs, hK, hz => by
    rw [List.length_cons, Nat.mul_succ] at hK
    rw [List.length_cons] at hz
    obtain ⟨σ1, y, src1, e1, py, s1, e2⟩ := step d List.mem_cons_self k src (t ++ [.lst acc]) (by omega) hs
    obtain ⟨ys, src', h1, h2, h3, h4⟩ := cmpL_draw cost K P t ds (k + cost) src1 (acc ++ [y]) (fun d hd => step d (List.mem_cons_of_mem _ hd)) s1 (by omega) (by rw [List.length_append, List.length_singleton]; omega)
    have ca := cmpAdd_d (h := src1 :: t) (acc := acc) (d := y) (by omega)
    rw [List.length_cons, List.cons_append, List.cons_append] at ca
    refine ⟨y :: ys, src', by rw [List.length_cons, h1, List.length_cons], fun z hz => ?_, h3.up (by rw [List.length_cons, Nat.mul_succ]; omega), ?_⟩
    · rcases List.mem_cons.mp hz with rfl | hz
      · exact py
      · exact h2 z hz
    · rw [cmpL, e1]
      dsimp only
      rw [ap_tys]
      dsimp only
      rw [if_pos rfl, e2]
      dsimp only
      rw [ca]
      dsimp only
      rw [h4, List.append_assoc]
      rfl
theorem ints_of {P : Int → Prop} : ∀ {ys : List D}, (∀ y ∈ ys, ∃ i : Int, y = .int i ∧ P i) → ∃ w : List Int, ys = w.map D.int ∧ (∀ i ∈ w, P i) ∧ w.length = ys.length
  | [], _ => ⟨[], rfl, fun i hi => (by cases hi), rfl⟩
  | y :: ys, h => by
    obtain ⟨i, rfl, pi⟩ := h y List.mem_cons_self
    obtain ⟨w, rfl, pw, lw⟩ := ints_of fun z hz => h z (List.mem_cons_of_mem _ hz)
    refine ⟨i :: w, rfl, fun j hj => ?_, by simp⟩
    rcases List.mem_cons.mp hj with rfl | hj
    · exact pi
    · exact pw j hj
end Mi

/-! Mi20: calls with defaults -/
namespace Mi
open PySem PySem.Spec L2
/-- a def whose last parameters are filled by defaults -/
structure FnD (K : PySem.W.Frag) (ct : CT) (F : Fn) (ds : List D) : Prop where
  kp : PySem.W.keepIn K (.ref F.f) = true
  bi : ∃ (dvs : List V) (dus : List Value), Dfl K ct ds dvs ∧ Vals dvs dus ∧ Binds K F.fd F.ps dus
theorem Dfl.int {K : PySem.W.Frag} {ct : CT} {i : Int} {ds : List D} {dvs : List V} (h : Dfl K ct ds dvs) : Dfl K ct (.int i :: ds) (.int i :: dvs) := fun m ah H => .cons (.int i) (h m ah H)
theorem Dfl.str {K : PySem.W.Frag} {ct : CT} {i : Str} {ds : List D} {dvs : List V} (h : Dfl K ct ds dvs) : Dfl K ct (.str i :: ds) (.str i :: dvs) := fun m ah H => .cons (.str i) (h m ah H)
theorem Dfl.non {K : PySem.W.Frag} {ct : CT} {ds : List D} {dvs : List V} (h : Dfl K ct ds dvs) : Dfl K ct (.non :: ds) (.non :: dvs) := fun m ah H => .cons .non (h m ah H)
section
variable {X : Cx} {ct : CT} {W : WX} {pos p apos : Pos} {e o : Expr} {es : List Expr} {f : SemE} {fs : SemA} {call : CallT} {n i : Nat} {F : Fn} {x : Str} {fns : List Fn} {ds : List D}
theorem sc_callD (c : Cq X ct fns call n) (tk : Takes X W) (fi : FnD X.K ct F ds) (hm : X.mg x = some (.ref F.f)) (hF : fns[i]? = some F) (hg : Gl X x) (ha : SA X ct W (e :: es) fs) (hdb : (x == ("__debug__" : Str)) = false := by decide)
    (he : starEach (e :: es) X.env = (false, eval e X.env) :: starEach es X.env := by rfl) (hpl : (backTo pos (starEach es X.env)).any (·.1) = false := by rfl) : SE X ct W (.Call (.Name x p) (e :: es) [] pos) (eCl call i ds fs) :=
  let ⟨_, _, h1, h2, h3⟩ := fi.bi
  se_call c.co tk (c.ro.mono (Nat.le_succ _)) hF hg hm fi.kp h3 h2 h1 ha hdb he hpl
theorem sc_callD0 (c : Cq X ct fns call n) (tk : Takes X W) (fi : FnD X.K ct F ds) (hm : X.mg x = some (.ref F.f)) (hF : fns[i]? = some F) (hg : Gl X x) (hdb : (x == ("__debug__" : Str)) = false := by decide) : SE X ct W (.Call (.Name x p) [] [] pos) (eCl call i ds aNil) :=
  let ⟨_, _, h1, h2, h3⟩ := fi.bi
  se_call0 c.co tk (c.ro.mono (Nat.le_succ _)) hF hg hm fi.kp h3 h2 h1 hdb
theorem sc_makeD {C : Nat} (c : Cq X ct fns call n) (tk : Takes X W) (fi : FnD X.K ct F ds) (M : Mk X.K (ct.ca C) F.f) (hm : X.mg x = some (.ref (ct.ca C))) (hF : fns[i]? = some F) (hg : Gl X x) (ha : SA X ct W (e :: es) fs) (hdb : (x == ("__debug__" : Str)) = false := by decide)
    (he : starEach (e :: es) X.env = (false, eval e X.env) :: starEach es X.env := by rfl) (hpl : (backTo pos (starEach es X.env)).any (·.1) = false := by rfl) : SE X ct W (.Call (.Name x p) (e :: es) [] pos) (eMk call i C ds fs) :=
  let ⟨_, _, h1, h2, h3⟩ := fi.bi
  se_make c.co tk c.ro hF M hg hm h3 h2 h1 ha hdb he hpl
end
end Mi

/-! Mi21: repr, divmod, dicts with keys that are tuples -/
namespace Mi
open PySem PySem.Spec L2

/-! ### repr -/
def rprOk (d : D) : Bool := shp d && (d.pd.showable && Nat.ble d.pd.shown.length sizeLine)
def nRepr : OpN := fun xs h => match xs with
  | [.d .non] => some (.d (.str "None"), h)
  | [.d (.bl b)] => some (.d (.str (if b then "True" else "False")), h)
  | [.d (.int i)] => if Nat.ble i.natAbs.log2 1900 = true then some (.d (.str (toString i : String)), h) else none
  | [x] => (match viewD x h with
    | some d => if flD d = false ∧ rprOk d = true then some (.d (.str d.pd.shown), h) else none
    | none => none)
  | _ => none
theorem ref_flat {K : PySem.W.Frag} {ct : CT} {m : List Addr} {ah : Hs} {H : Hp} (hr : HR K ct m ah H) {x : Vl} {d : D} {v : V} (e : viewD x ah = some d) (r : VlR K ct m ah H x v) (h : flD d = false) : ∃ a, v = .ref a := ref_of (view_dr e hr r) h
theorem repr_sound {X : Cx} {ct : CT} {k : Nat} (hr : Room (k + 1) X.A) : CallR X (.builtin "repr") (rN X.K ct nRepr) := by
  intro pins s σ H vs us Q I rv ⟨m, ah, xs, h1, rs, p⟩
  unfold nRepr at p
  split at p
  · cases rs with
    | cons r t =>
      cases t; cases r
      obtain ⟨u, rfl, ru⟩ := rv.one
      cases ru
      exact PySem.P.repr_of_none ⟨.str _, H, I.tok _, ⟨_, rfl⟩, p.same h1 (.str _)⟩
  · cases rs with
    | cons r t =>
      cases t; cases r
      obtain ⟨u, rfl, ru⟩ := rv.one
      cases ru
      exact PySem.P.repr_of_bool ⟨.str _, H, I.tok _, ⟨_, rfl⟩, p.same h1 (.str _)⟩
  · split at p
    · rename_i hl
      cases rs with
      | cons r t =>
        cases t; cases r
        obtain ⟨u, rfl, ru⟩ := rv.one
        obtain ⟨tk, rfl⟩ := ru
        exact PySem.P.repr_of_int (by have := Nat.le_of_ble_eq_true hl; omega) ⟨.str _, H, I.tok _, ⟨_, rfl⟩, p.same h1 (.str _)⟩
    · exact p.elim
  · cases rs with
    | cons r t =>
      cases t
      split at p
      · rename_i d e
        split at p
        · rename_i hc
          obtain ⟨hf, hk⟩ := hc
          unfold rprOk at hk
          simp only [Bool.and_eq_true] at hk
          obtain ⟨k1, k2, k3⟩ := hk
          have kl := SeqAt.canLay_of_shaped k1
          obtain ⟨a, rfl⟩ := ref_flat h1 e r hf
          obtain ⟨u, rfl, ru⟩ := rv.one
          cases ru
          obtain ⟨as, rd⟩ := Dp.reads I d.pd (.ref a) (.ref a) (view_dp h1 e r k1) rfl
          have dp := SeqAt.depth_of_shaped k1
          have un := hr.un
          refine repr_of_reads' rd k2 (PyData.noDict_hsm (PyData.hasDict_of_canLay _ kl)) hr.gd (by omega) (fun _ _ q => q) (fun h' u tk hk => ?_) (Nat.le_of_ble_eq_true k3)
          exact ⟨.str _, H, I.kept hk, ⟨_, rfl⟩, p.same h1 (.str _)⟩
        · exact p.elim
      · exact p.elim
  · exact p.elim

/-! ### divmod -/
def nDm : OpN := fun xs h => match xs with
  | [.d (.int i), .d (.int j)] => if decide (0 < j) && Nat.ble j.natAbs 1000000 then some (.d (.tup [.int (i / j), .int (i % j)]), h) else none
  | _ => none
theorem divmod_sound {X : Cx} {ct : CT} : CallR X (.builtin "divmod") (rN X.K ct nDm) := by
  refine CallR.imp call_divmod fun vs H Q ⟨m, ah, xs, hr, rs, p⟩ => ?_
  unfold nDm at p
  split at p
  · cases rs with
    | cons r t =>
      cases t with
      | cons r2 t =>
        cases t; cases r; cases r2
        split at p
        · rename_i hc
          simp only [Bool.and_eq_true, decide_eq_true_eq] at hc
          have := Nat.le_of_ble_eq_true hc.2
          exact ⟨_, _, rfl, ⟨hc.1, by omega⟩, p.new hr fun a ha k s => new_tup (.cons (.int _) (.cons (.int _) .nil)) k s⟩
        · exact p.elim
  · exact p.elim
end Mi

/-! Mi22: dicts with keys of ints and texts, or of tuples of them -/
namespace Mi
open PySem PySem.Spec L2

def keyK : D → Option Key
  | .int i => some (.inl i)
  | .str x => some (.inr x)
  | _ => none
def keysK : List D → Option (List Key)
  | [] => some []
  | d :: ds => (keyK d).bind fun k => (keysK ds).map (k :: ·)
def keyT : D → Option (List Key)
  | .tup ds => keysK ds
  | _ => none
section
variable {κ : Type} [DecidableEq κ]
def valD (kvs : List (κ × D)) (k : κ) : Option D := (kvs.find? fun kv => decide (kv.1 = k)).map (·.2)
def putD (kvs : List (κ × D)) (k : κ) (v : D) : List (κ × D) := if (kvs.any fun kv => decide (kv.1 = k)) = true then kvs.map (fun kv => if kv.1 = k then (kv.1, v) else kv) else kvs ++ [(k, v)]
end
section
variable {K : PySem.W.Frag} {ct : CT} {S : Addr → Prop} {H : Hp}
theorem key_of {d : D} {y : V} {k : Key} (r : DR K ct S H d y) (e : keyK d = some k) : y = kV k := by
  unfold keyK at e
  split at e
  · cases e; cases r; rfl
  · cases e; cases r; rfl
  · cases e
theorem keys_of : ∀ {ds : List D} {vs : List V} {ks : List Key}, DRs K ct S H ds vs → keysK ds = some ks → vs = ks.map kV
  | _, _, _, .nil, e => by cases e; rfl
  | _, _, _, .cons r t, e => by
    unfold keysK at e
    obtain ⟨k, e1, e2⟩ := Option.bind_eq_some_iff.mp e
    obtain ⟨ks, e3, rfl⟩ := Option.map_eq_some_iff.mp e2
    rw [key_of r e1, keys_of t e3]; rfl
theorem val_k {k : Key} : ∀ {kvs : List (Key × D)} {vs : List (Key × V)}, DRk K ct S H kvs vs → (valD kvs k = none → valV vs k = none) ∧ ∀ d, valD kvs k = some d → ∃ v, valV vs k = some v ∧ DR K ct S H d v
  | _, _, .nil => ⟨fun _ => rfl, fun d e => by cases e⟩
  | _, _, .cons (k := j) r t => by
    obtain ⟨i1, i2⟩ := val_k (k := k) t
    unfold valD valV at *
    by_cases q : j = k
    · subst q
      simp only [List.find?_cons, decide_true, Option.map_some]
      exact ⟨fun e => (by cases e), fun d e => by cases e; exact ⟨_, rfl, r⟩⟩
    · simp only [List.find?_cons, decide_eq_false q]
      exact ⟨i1, i2⟩
theorem val_t {k : List Key} : ∀ {kvs : List (List Key × D)} {vs : List (List Key × V)}, DRt K ct S H kvs vs → (valD kvs k = none → valV vs k = none) ∧ ∀ d, valD kvs k = some d → ∃ v, valV vs k = some v ∧ DR K ct S H d v
  | _, _, .nil => ⟨fun _ => rfl, fun d e => by cases e⟩
  | _, _, .cons (k := j) r t => by
    obtain ⟨i1, i2⟩ := val_t (k := k) t
    unfold valD valV at *
    by_cases q : j = k
    · subst q
      simp only [List.find?_cons, decide_true, Option.map_some]
      exact ⟨fun e => (by cases e), fun d e => by cases e; exact ⟨_, rfl, r⟩⟩
    · simp only [List.find?_cons, decide_eq_false q]
      exact ⟨i1, i2⟩
theorem any_k {k : Key} : ∀ {kvs : List (Key × D)} {vs : List (Key × V)}, DRk K ct S H kvs vs → (kvs.any fun kv => decide (kv.1 = k)) = vs.any fun kv => decide (kv.1 = k)
  | _, _, .nil => rfl
  | _, _, .cons r t => by rw [List.any_cons, List.any_cons, any_k t]
theorem any_t {k : List Key} : ∀ {kvs : List (List Key × D)} {vs : List (List Key × V)}, DRt K ct S H kvs vs → (kvs.any fun kv => decide (kv.1 = k)) = vs.any fun kv => decide (kv.1 = k)
  | _, _, .nil => rfl
  | _, _, .cons r t => by rw [List.any_cons, List.any_cons, any_t t]
theorem map_k {k : Key} {d : D} {v : V} (rv : DR K ct S H d v) : ∀ {kvs : List (Key × D)} {vs : List (Key × V)}, DRk K ct S H kvs vs → DRk K ct S H (kvs.map fun kv => if kv.1 = k then (kv.1, d) else kv) (vs.map fun kv => if kv.1 = k then (kv.1, v) else kv)
  | _, _, .nil => .nil
  | _, _, .cons (k := j) r t => by
    rw [List.map_cons, List.map_cons]
    by_cases q : j = k
    · simp only [if_pos q]; exact .cons rv (map_k rv t)
    · simp only [if_neg q]; exact .cons r (map_k rv t)
theorem map_t {k : List Key} {d : D} {v : V} (rv : DR K ct S H d v) : ∀ {kvs : List (List Key × D)} {vs : List (List Key × V)}, DRt K ct S H kvs vs → DRt K ct S H (kvs.map fun kv => if kv.1 = k then (kv.1, d) else kv) (vs.map fun kv => if kv.1 = k then (kv.1, v) else kv)
  | _, _, .nil => .nil
  | _, _, .cons (k := j) r t => by
    rw [List.map_cons, List.map_cons]
    by_cases q : j = k
    · simp only [if_pos q]; exact .cons rv (map_t rv t)
    · simp only [if_neg q]; exact .cons r (map_t rv t)
theorem app_k {k : Key} {d : D} {v : V} (rv : DR K ct S H d v) : ∀ {kvs : List (Key × D)} {vs : List (Key × V)}, DRk K ct S H kvs vs → DRk K ct S H (kvs ++ [(k, d)]) (vs ++ [(k, v)])
  | _, _, .nil => .cons rv .nil
  | _, _, .cons r t => .cons r (app_k rv t)
theorem app_t {k : List Key} {d : D} {v : V} (rv : DR K ct S H d v) : ∀ {kvs : List (List Key × D)} {vs : List (List Key × V)}, DRt K ct S H kvs vs → DRt K ct S H (kvs ++ [(k, d)]) (vs ++ [(k, v)])
  | _, _, .nil => .cons rv .nil
  | _, _, .cons r t => .cons r (app_t rv t)
theorem put_k {k : Key} {d : D} {v : V} (rv : DR K ct S H d v) {kvs : List (Key × D)} {vs : List (Key × V)} (r : DRk K ct S H kvs vs) : DRk K ct S H (putD kvs k d) (putK vs k v) := by
  unfold putD putK
  rw [any_k r]
  split
  · exact map_k rv r
  · exact app_k rv r
theorem put_t {k : List Key} {d : D} {v : V} (rv : DR K ct S H d v) {kvs : List (List Key × D)} {vs : List (List Key × V)} (r : DRt K ct S H kvs vs) : DRt K ct S H (putD kvs k d) (putK vs k v) := by
  unfold putD putK
  rw [any_t r]
  split
  · exact map_t rv r
  · exact app_t rv r
end
/-- the value of a key -/
def dGet (x y : Vl) (h : Hs) : Option (Option D) := match y with
  | .d k => (match x with
    | .d (.dk kvs) => (keyK k).map (valD kvs)
    | .d (.dt kvs) => (keyT k).map (valD kvs)
    | .r i => (match h[i]? with
      | some (.dk kvs) => (keyK k).map (valD kvs)
      | some (.dt kvs) => (keyT k).map (valD kvs)
      | _ => none)
    | _ => none)
  | _ => none
section
variable {K : PySem.W.Frag} {ct : CT} {m : List Addr} {ah : Hs} {H : Hp}
theorem get_k {a : Addr} {kvs : List (Key × D)} {vs : List (Key × V)} {k : D} {w : V} {o : Option D} (hH : H a = some (.dK vs)) (r : DRk K ct (Sf m ah) H kvs vs) (rk : DR K ct (Sf m ah) H k w) (e : (keyK k).map (valD kvs) = some o) :
    ∃ ov, DGet H a w ov ∧ IsD H a ∧ (o = none → ov = none) ∧ ∀ d, o = some d → ∃ u, ov = some u ∧ DR K ct (Sf m ah) H d u := by
  obtain ⟨key, e1, rfl⟩ := Option.map_eq_some_iff.mp e
  have ew := key_of rk e1
  subst ew
  obtain ⟨i1, i2⟩ := val_k (k := key) r
  exact ⟨_, DGet.k hH, .inl ⟨_, .inl hH⟩, i1, i2⟩
theorem get_t {a : Addr} {kvs : List (List Key × D)} {vs : List (List Key × V)} {k : D} {w : V} {o : Option D} (hH : H a = some (.dT vs)) (r : DRt K ct (Sf m ah) H kvs vs) (rk : DR K ct (Sf m ah) H k w) (e : (keyT k).map (valD kvs) = some o) :
    ∃ ov, DGet H a w ov ∧ IsD H a ∧ (o = none → ov = none) ∧ ∀ d, o = some d → ∃ u, ov = some u ∧ DR K ct (Sf m ah) H d u := by
  obtain ⟨key, e1, rfl⟩ := Option.map_eq_some_iff.mp e
  unfold keyT at e1
  split at e1
  · cases rk with
    | tup h1 t =>
      have ew := keys_of t e1
      subst ew
      obtain ⟨i1, i2⟩ := val_t (k := key) r
      exact ⟨_, DGet.t hH h1.1, .inr ⟨_, .inl hH⟩, i1, i2⟩
  · cases e1
theorem dget_of (hr : HR K ct m ah H) {x y : Vl} {v w : V} {o : Option D} (rx : VlR K ct m ah H x v) (ry : VlR K ct m ah H y w) (e : dGet x y ah = some o) :
    ∃ a ov, v = .ref a ∧ DGet H a w ov ∧ IsD H a ∧ (o = none → ov = none) ∧ ∀ d, o = some d → ∃ u, ov = some u ∧ DR K ct (Sf m ah) H d u := by
  unfold dGet at e
  split at e
  · split at e
    · cases rx with
      | dk h1 _ t => exact ⟨_, (get_k h1 t ry e).choose, rfl, (get_k h1 t ry e).choose_spec⟩
    · cases rx with
      | dt h1 _ t => exact ⟨_, (get_t h1 t ry e).choose, rfl, (get_t h1 t ry e).choose_spec⟩
    · rename_i i
      obtain ⟨a, ha, rfl⟩ := rx
      split at e
      · rename_i kvs hk
        obtain ⟨u, h1, h2⟩ := hr.ob i a _ ha hk
        cases h2 with
        | dk t => exact ⟨a, (get_k h1 t ry e).choose, rfl, (get_k h1 t ry e).choose_spec⟩
      · rename_i kvs hk
        obtain ⟨u, h1, h2⟩ := hr.ob i a _ ha hk
        cases h2 with
        | dt t => exact ⟨a, (get_t h1 t ry e).choose, rfl, (get_t h1 t ry e).choose_spec⟩
      · cases e
    · cases e
  · cases e
end
def oDIn (neg : Bool) : Op2 := fun x y h => (dGet y x h).map fun o => (.d (.bl (if neg then !o.isSome else o.isSome)), h)
def oDGet : Op2 := fun x y h => match dGet x y h with
  | some (some d) => some (.d d, h)
  | _ => none
def eDg1 (f g : SemE) : SemE := fun σ h => rb (f σ h) fun x h1 => rb (g σ h1) fun y h2 => match dGet x y h2 with
  | some o => .ok (.d (o.getD .non)) h2
  | none => .bad
def isDct (x : Vl) (h : Hs) : Bool := match x with
  | .d (.dk _) => true
  | .d (.dt _) => true
  | .r i => (match h[i]? with
    | some (.dk _) => true
    | some (.dt _) => true
    | _ => false)
  | _ => false
def eDg2 (f g k : SemE) : SemE := fun σ h => rb (f σ h) fun x h1 => if isDct x h1 = true then rb (g σ h1) fun y h2 => rb (k σ h2) fun z h3 => (match dGet x y h3 with
  | some (some d) => .ok (.d d) h3
  | some none => .ok z h3
  | none => .bad) else .bad
theorem isDct_of {K : PySem.W.Frag} {ct : CT} {m : List Addr} {ah : Hs} {H : Hp} (hr : HR K ct m ah H) {x : Vl} {v : V} (rx : VlR K ct m ah H x v) (e : isDct x ah = true) : ∃ a, v = .ref a ∧ IsD H a := by
  unfold isDct at e
  split at e
  · cases rx with
    | dk h1 _ _ => exact ⟨_, rfl, .inl ⟨_, .inl h1⟩⟩
  · cases rx with
    | dt h1 _ _ => exact ⟨_, rfl, .inr ⟨_, .inl h1⟩⟩
  · rename_i i
    obtain ⟨a, ha, rfl⟩ := rx
    split at e
    · rename_i hk
      obtain ⟨u, h1, h2⟩ := hr.ob i a _ ha hk
      cases h2; exact ⟨a, rfl, .inl ⟨_, .inl h1⟩⟩
    · rename_i hk
      obtain ⟨u, h1, h2⟩ := hr.ob i a _ ha hk
      cases h2; exact ⟨a, rfl, .inr ⟨_, .inl h1⟩⟩
    · cases e
  · cases e
def dPut (x k : Vl) (d : D) (h : Hs) : Option Hs := match x, k with
  | .r i, .d k => (match h[i]? with
    | some (.dk kvs) => (keyK k).bind fun key => if kvs.length < sizeLine then some (h.set i (.dk (putD kvs key d))) else none
    | some (.dt kvs) => (keyT k).bind fun key => if kvs.length < sizeLine then some (h.set i (.dt (putD kvs key d))) else none
    | _ => none)
  | _, _ => none
def sDp (f g v : SemE) : SemS := fun σ h => sb (v σ h) σ fun y h1 => match toD y h1 with
  | none => .bad
  | some (d, h2) => sb (f σ h2) σ fun x h3 => sb (g σ h3) σ fun k h4 => match dPut x k d h4 with
    | some h5 => .ok .nx σ h5
    | none => .bad
theorem DRk.length' {K : PySem.W.Frag} {ct : CT} {S : Addr → Prop} {H : Hp} {d : List (Key × D)} {v : List (Key × V)} (h : DRk K ct S H d v) : d.length = v.length := DRk.length h
section
variable {X : Cx} {ct : CT} {W : WX} {pos pos' apos cpos : Pos} {o i e a b value : Expr} {f g k v : SemE}
theorem din_sound (hu : X.A.units + 65 < cLine) : OpR X (compareOp .In) (rOp X.K ct (oDIn false)) := by
  intro pins s σ H x y u1 u2 Q I q1 q2 ⟨m, ah, a, b, h1, ra, rb, p⟩
  unfold oDIn at p
  cases e : dGet b a ah with
  | none => rw [e] at p; exact p.elim
  | some o =>
    rw [e] at p
    obtain ⟨c, ov, rfl, g1, g2, n1, n2⟩ := dget_of h1 rb ra e
    have es : ov.isSome = o.isSome := by
      cases o with
      | none => rw [n1 rfl]; rfl
      | some d => obtain ⟨u, e2, _⟩ := n2 d rfl; rw [e2]; rfl
    cases q2
    exact d_in (by omega) I g1 q1 fun s' I' => ⟨.bl _, H, I', rfl, by rw [es]; exact p.same h1 (.bl _)⟩
theorem dnotin_sound (hu : X.A.units + 65 < cLine) : OpR X (compareOp .NotIn) (rOp X.K ct (oDIn true)) := by
  intro pins s σ H x y u1 u2 Q I q1 q2 ⟨m, ah, a, b, h1, ra, rb, p⟩
  unfold oDIn at p
  cases e : dGet b a ah with
  | none => rw [e] at p; exact p.elim
  | some o =>
    rw [e] at p
    obtain ⟨c, ov, rfl, g1, g2, n1, n2⟩ := dget_of h1 rb ra e
    have es : ov.isSome = o.isSome := by
      cases o with
      | none => rw [n1 rfl]; rfl
      | some d => obtain ⟨u, e2, _⟩ := n2 d rfl; rw [e2]; rfl
    cases q2
    exact d_notIn (by omega) I g1 q1 fun s' I' => ⟨.bl _, H, I', rfl, by rw [es]; exact p.same h1 (.bl _)⟩
theorem se_dget (hu : X.A.units + 65 < cLine) (ho : SE X ct W o f) (hi : SE X ct W i g) (hs : NoSl i := by exact fun _ _ => rfl) : SE X ct W (.Subscript o i pos) (eBin oDGet f g) :=
  PE.imp (pe_dget (by omega) ho hi hs) fun σV H Q ⟨m, ah, σ, hr, lr, p⟩ => ⟨m, ah, σ, hr, lr, (Po.bind (R := VlR X.K ct) p).imp fun x H1 ⟨m1, h1, x', hr1, e1, r1, p1⟩ =>
    ⟨m1, h1, σ, hr1, lr.ext e1, (Po.bind (R := VlR X.K ct) p1).imp fun y H2 ⟨m2, h2, y', hr2, e2, r2, p2⟩ => by
      have p3 := Pp.of p2
      unfold oDGet at p3
      split at p3
      · rename_i d e
        obtain ⟨c, ov, rfl, g1, _, _, n2⟩ := dget_of hr2 (VlR.ext e2 r1) r2 e
        obtain ⟨u, rfl, ru⟩ := n2 d rfl
        exact ⟨c, u, rfl, g1, p3.same hr2 ru⟩
      · exact p3.elim⟩⟩
theorem se_dg2 (hu : X.A.units + 65 < cLine) (ho : SE X ct W o f) (he : SE X ct W e g) (hk : SE X ct W a k) (mm : M2 X o "get" apos e a cpos) : SE X ct W (.Call (.Attribute o "get" apos) [e, a] [] cpos) (eDg2 f g k) :=
  PE.imp (pe_dget2 (by omega) ho he hk mm) fun σV H Q ⟨m, ah, σ, hr, lr, p⟩ => ⟨m, ah, σ, hr, lr, (Po.bind (R := VlR X.K ct) p).imp fun x H1 ⟨m1, h1, x', hr1, e1, r1, p1⟩ => by
    dsimp only at p1
    split at p1
    · rename_i hd
      obtain ⟨c, rfl, hD⟩ := isDct_of hr1 r1 hd
      refine ⟨c, rfl, hD, m1, h1, σ, hr1, lr.ext e1, (Po.bind (R := VlR X.K ct) p1).imp fun y H2 ⟨m2, h2, y', hr2, e2, r2, p2⟩ => ⟨m2, h2, σ, hr2, (lr.ext e1).ext e2, (Po.bind (R := VlR X.K ct) p2).imp fun z H3 ⟨m3, h3, z', hr3, e3, r3, p3⟩ => ?_⟩⟩
      dsimp only at p3
      split at p3
      · rename_i d e
        obtain ⟨c', ov, ee, g1, _, _, n2⟩ := dget_of hr3 (VlR.ext e3 (VlR.ext e2 r1)) (VlR.ext e3 r2) e
        cases ee
        obtain ⟨u, rfl, ru⟩ := n2 d rfl
        exact ⟨some u, g1, p3 m3 H3 u hr3 (Ext.refl _ _ _) ru⟩
      · rename_i e
        obtain ⟨c', ov, ee, g1, _, n1, _⟩ := dget_of hr3 (VlR.ext e3 (VlR.ext e2 r1)) (VlR.ext e3 r2) e
        cases ee
        have := n1 rfl
        subst this
        exact ⟨none, g1, p3 m3 H3 z hr3 (Ext.refl _ _ _) r3⟩
      · exact p3.elim
    · exact p1.elim⟩
theorem ss_dput (hu : X.A.units + 65 < cLine) (ho : SE X ct W o f) (hi : SE X ct W i g) (hv : SE X ct W value v) (hs : swapsWith value (some (.Subscript o i pos')) pos.line X.env = pure false := by rfl) :
    SS X ct W (.Assign [.Subscript o i pos'] value pos) (sDp f g v) :=
  PS.imp (ps_dput (by omega) ho hi hv hs) fun D σV H ⟨m, ah, σ, hr, lr, p⟩ => ⟨m, ah, σ, hr, lr, (PoS.bind (R := VlR X.K ct) lr p).imp fun y H1 ⟨m1, h1, y', hr1, e1, r1, p1⟩ => by
    dsimp only at p1
    cases q : toD y' h1 with
    | none => rw [q] at p1; exact p1.elim
    | some z =>
      obtain ⟨d, h2⟩ := z
      rw [q] at p1
      dsimp only at p1
      obtain ⟨hr2, e2, r2⟩ := toD_sound hr1 q r1
      have l2 := (lr.ext e1).ext e2
      refine ⟨m1, h2, σ, hr2, l2, (PoS.bind (R := VlR X.K ct) l2 (PoS.ext (r := sb (f σ h2) σ fun x h3 => _) p1 e2)).imp fun x H2 ⟨m3, h3, x', hr3, e3, r3, p3⟩ => ?_⟩
      have l3 := l2.ext e3
      refine ⟨m3, h3, σ, hr3, l3, (PoS.bind (R := VlR X.K ct) l3 p3).imp fun w H4 ⟨m4, h4, w', hr4, e4, r4, p4⟩ => ?_⟩
      dsimp only at p4
      cases q2 : dPut x' w' d h4 with
      | none => rw [q2] at p4; exact p4.elim
      | some h5 =>
        rw [q2] at p4
        dsimp only at p4
        cases x' with
        | d _ => cases q2
        | r j =>
        cases w' with
        | r _ => cases q2
        | d key =>
          unfold dPut at q2
          dsimp only at q2
          obtain ⟨a, ha, rfl⟩ := VlR.ext e4 r3
          have rd := r2.mono (e3.kp.trans e4.kp)
          split at q2
          · rename_i kvs hk
            obtain ⟨u, h1', h2'⟩ := hr4.ob j a _ ha hk
            obtain ⟨kk, k1, k2⟩ := Option.bind_eq_some_iff.mp q2
            split at k2
            · rename_i hl
              cases k2
              cases h2' with
              | dk t =>
                have ew := key_of r4 k1
                subst ew
                obtain ⟨hr6, e6⟩ := hr4.write ha hk (by simp) (OR.dk (put_k (k := kk) rd t))
                exact ⟨a, _, rfl, DPut.k h1' (by rw [← t.length]; exact hl), p4 m4 _ σV hr6 e6 ((l3.ext e4).ext e6)⟩
            · cases k2
          · rename_i kvs hk
            obtain ⟨u, h1', h2'⟩ := hr4.ob j a _ ha hk
            obtain ⟨kk, k1, k2⟩ := Option.bind_eq_some_iff.mp q2
            split at k2
            · rename_i hl
              cases k2
              cases h2' with
              | dt t =>
                unfold keyT at k1
                split at k1
                · cases r4 with
                  | tup g1 tt =>
                    have ew := keys_of tt k1
                    subst ew
                    obtain ⟨hr6, e6⟩ := hr4.write ha hk (by simp) (OR.dt (put_t (k := kk) rd t))
                    exact ⟨a, _, rfl, DPut.t h1' g1.1 (by rw [← t.length]; exact hl), p4 m4 _ σV hr6 e6 ((l3.ext e4).ext e6)⟩
                · cases k1
            · cases k2
          · cases q2⟩
end
end Mi

/-! Mi23: zip of two sequences, each a list or a tuple -/
namespace Mi
open PySem PySem.Spec L2
/-- a tuple (true) or a list (false) that is read -/
def SqB : Bool → PySem.W.Frag → Hp → Addr → List V → Prop
  | true => SqT
  | false => SqL
def ObB : Bool → Heap → Addr → Array Value → Prop
  | true => Heap.IsTuple
  | false => Heap.IsList
def ItB : Bool → Heap → Addr → Addr → Nat → Prop
  | true => Heap.IsTupleIter
  | false => Heap.IsListIter
def nwB (t : Bool) (a : Addr) : Obj := { cls := .type (if t then "tuple_iterator" else "list_iterator"), data := .fields #[.ref a, .int 0 0] }
theorem SqB.get {X : Cx} {pins : List (Addr × Obj)} {σ : L2.St} {H : Hp} {s : Shared} {a : Addr} {xs : List V} (I : Inv X pins σ H s) : ∀ {t : Bool}, SqB t X.K H a xs → ∃ its : List Value, Vals xs its ∧ ObB t s.heap a its.toArray
  | true, h => let ⟨its, r, p, _⟩ := I.tuple h; ⟨its, r, p⟩
  | false, h => let ⟨its, r, p, _⟩ := I.list h; ⟨its, r, p.isList⟩
theorem SqB.inj {X : Cx} {pins : List (Addr × Obj)} {σ : L2.St} {H : Hp} {s : Shared} {a : Addr} {xs ys : List V} (I : Inv X pins σ H s) : ∀ {t : Bool}, SqB t X.K H a xs → SqB t X.K H a ys → xs = ys
  | true, h, g => I.tuple_inj h g
  | false, h, g => I.list_inj h g
theorem ObB.lt {h : Heap} {a : Addr} {its : Array Value} : ∀ {t : Bool}, ObB t h a its → a < h.objs.size
  | true, q => by obtain ⟨o, ho, _⟩ := q; exact Heap.lt_size ho
  | false, q => by obtain ⟨o, ho, _⟩ := q; exact Heap.lt_size ho
theorem ItB.obj {h : Heap} {it l : Addr} {i : Nat} : ∀ {t : Bool}, ItB t h it l i → ∃ o, h.get? it = some o ∧ ∀ v, o.data ≠ .cell v
  | true, q => by obtain ⟨o, ho, _, hd⟩ := q; exact ⟨o, ho, fun v z => by rw [hd] at z; cases z⟩
  | false, q => by obtain ⟨o, ho, _, hd⟩ := q; exact ⟨o, ho, fun v z => by rw [hd] at z; cases z⟩
theorem ItB.keep {h h' : Heap} {it l : Addr} {i : Nat} (k : ∀ o, h.get? it = some o → h'.get? it = some o) : ∀ {t : Bool}, ItB t h it l i → ItB t h' it l i
  | true, q => Heap.IsTupleIter.at q k
  | false, q => Heap.IsListIter.at q k
theorem ItB.new {h : Heap} {it a : Addr} : ∀ {t : Bool}, h.get? it = some (nwB t a) → ItB t h it a 0
  | true, q => ⟨_, q, rfl, rfl⟩
  | false, q => ⟨_, q, rfl, rfl⟩
theorem drB {prog : Program} {w : World} {A : Around} (hh : A.handled = none) (it l : Addr) (hne : l ≠ it) (items : Array Value) :
    ∀ t : Bool, Draws prog w A it [it, l] items.size (fun i v => items[i]? = some v) fun i h => ItB t h it l i ∧ ObB t h l items
  | true => Draws.tuple hh it l hne items
  | false => Draws.list hh it l hne items
theorem endB {prog : Program} {w : World} {A : Around} (hh : A.handled = none) {it l : Addr} {items : Array Value} {i : Nat} (hi : items.size ≤ i) {s : Shared} {Q E : Value → Shared → Prop} : ∀ {t : Bool}, ItB t s.heap it l i → ObB t s.heap l items →
    (∀ h' e, Heap.ExtBut it s.heap h' → (∃ o, h'.get? e = some o ∧ o.cls = .type "StopIteration") → E (.ref e) { s with heap := h' }) → wpAny (model prog w) A (Builtin.SmallTypes.nextOf (.ref it)) Q E s
  | true, a, b, c => wpAny_nextOf_tuple_end hh a b (Array.getElem?_eq_none hi) c
  | false, a, b, c => wpAny_nextOf_list_end hh a b (Array.getElem?_eq_none hi) c
/-- at the i-th turn, be it past the end -/
theorem drX {prog : Program} {w : World} {A : Around} (hh : A.handled = none) {it l : Addr} (hne : l ≠ it) {items : Array Value} {t : Bool} {i : Nat} {h : Heap} (a : ItB t h it l i) (b : ObB t h l items) :
    ∃ n P St, Draws prog w A it [it, l] n P St ∧ St i h ∧ i ≤ n ∧ (items.size ≤ i → i = n) := by
  by_cases q : items.size ≤ i
  · refine ⟨i, fun _ _ => False, fun j g => j = i ∧ ItB t g it l i ∧ ObB t g l items, ⟨fun j g st => ?_, fun j g g' st k => ⟨st.1, st.2.1.keep fun o z => k it List.mem_cons_self o z, ?_⟩, fun j s Q E hj st _ => ?_, fun s Q E st hE => endB hh q st.2.1 st.2.2 hE⟩, ⟨rfl, a, b⟩, Nat.le_refl _, fun _ => rfl⟩
    · obtain ⟨o, z, _⟩ := st.2.1.obj; exact ⟨o, z⟩
    · have st2 := st.2.2
      cases t
      · exact Heap.IsList.at st2 fun o z => k l (List.mem_cons_of_mem _ List.mem_cons_self) o z
      · exact Heap.IsTuple.at st2 fun o z => k l (List.mem_cons_of_mem _ List.mem_cons_self) o z
    · exact absurd st.1 (Nat.ne_of_lt hj)
  · exact ⟨_, _, _, drB hh it l hne items t, ⟨a, b⟩, by omega, fun z => absurd z q⟩
theorem bgB (l : Addr) (items : Array Value) : ∀ t : Bool, Begins (.ref l) (nwB t l) fun h => ObB t h l items
  | true => begins_tuple l items
  | false => begins_list l items
/-- the two at a and b as they stand at each turn, the items in new pairs -/
def ItzB (K : PySem.W.Frag) (t u : Bool) (a b : Addr) : It :=
  { go := fun i H => ∃ (xs ys : List V) (x y : V), SqB t K H a xs ∧ SqB u K H b ys ∧ (xs[i]? = some x ∧ ys[i]? = some y)
    yld := fun i H v H' => ∃ T x y, v = .ref T ∧ (H T = none ∧ H' = upd H T (.tup [x, y])) ∧ (∀ xs, SqB t K H a xs → xs[i]? = some x) ∧ ∀ ys, SqB u K H b ys → ys[i]? = some y
    stop := fun i H => ∃ xs ys : List V, SqB t K H a xs ∧ SqB u K H b ys ∧ (xs.length ≤ i ∨ ys.length ≤ i) }
theorem sep_of {z TI TO i1 i2 a b : Addr} (D : ZipApart z TI TO i1 i2 a b) : ZipSep2 z TI TO i1 i2 [i1, a] [i2, b] where
  TIz := D.TIz
  TOz := D.TOz
  TITO := D.TITO
  TIi1 := D.TIi1
  mem1 := List.mem_cons_self
  zf1 := fun q => by rcases List.mem_cons.mp q with q | q; exact D.i1z q.symm; exact D.l1z (List.mem_singleton.mp q).symm
  Tf1 := fun q => by rcases List.mem_cons.mp q with q | q; exact D.TOi1 q; exact D.l1TO (List.mem_singleton.mp q).symm
  TIi2 := D.TIi2
  mem2 := List.mem_cons_self
  zf2 := fun q => by rcases List.mem_cons.mp q with q | q; exact D.i2z q.symm; exact D.l2z (List.mem_singleton.mp q).symm
  Tf2 := fun q => by rcases List.mem_cons.mp q with q | q; exact D.TOi2 q; exact D.l2TO (List.mem_singleton.mp q).symm
  sep1_2 := fun q => by rcases List.mem_cons.mp q with q | q; exact D.i12 q; exact D.l2i1 (List.mem_singleton.mp q).symm
  sep2_1 := fun q => by rcases List.mem_cons.mp q with q | q; exact D.i12 q.symm; exact D.l1i2 (List.mem_singleton.mp q).symm
theorem mem5 {c z TI TO i1 i2 : Addr} (h : c ∈ [z, TI, TO, i1, i2]) : c = z ∨ c = TI ∨ c = TO ∨ c = i1 ∨ c = i2 := by simpa using h
theorem turn_zipB {P : Program} {w : World} {K : PySem.W.Frag} {elts : List Expr} {kk : Nat} {tpos : Pos} {t u : Bool} {a b z TI TO i1 i2 : Addr} (D : ZipApart z TI TO i1 i2 a b) :
    Turn P w K (.Tuple elts kk tpos) (ItzB K t u a b) [z, TI, TO, i1, i2] z (fun i h => (IsZip h z TI TO .none ∧ IsPair h TI (.ref i1) (.ref i2)) ∧ (∃ x y, IsPair h TO x y) ∧ (ItB t h i1 a i ∧ ItB u h i2 b i)) where
  mem := by simp
  obj := fun i h ⟨⟨hz, hTI⟩, ⟨x, y, hTO⟩, h1, h2⟩ c hc => by
    rcases mem5 hc with q | q | q | q | q
    · subst q; refine ⟨_, hz, ?_⟩; intro v e; cases e
    · subst q; refine ⟨_, hTI, ?_⟩; intro v e; cases e
    · subst q; refine ⟨_, hTO, ?_⟩; intro v e; cases e
    · exact q ▸ h1.obj
    · exact q ▸ h2.obj
  keep := fun i h h' ⟨⟨hz, hTI⟩, ⟨x, y, hTO⟩, h1, h2⟩ k => ⟨⟨k z (by simp) _ hz, k TI (by simp) _ hTI⟩, ⟨x, y, k TO (by simp) _ hTO⟩, h1.keep fun o q => k i1 (by simp) o q, h2.keep fun o q => k i2 (by simp) o q⟩
  item := by
    rintro X rfl rfl rfl hc i pins s σ H E I hf ⟨⟨hz, hTI⟩, ⟨x0, y0, hTO⟩, h1, h2⟩ ⟨xs, ys, x, y, hqx, hqy, hx, hy⟩
    obtain ⟨its, rv, p⟩ := SqB.get I hqx
    obtain ⟨its2, rv2, p2⟩ := SqB.get I hqy
    obtain ⟨v1, hv1, r1⟩ := rv.get hx
    obtain ⟨v2, hv2, r2⟩ := rv2.get hy
    have hh : X.A.in1.handled = none := I.ok.hd hc
    have hzl : z < s.heap.objs.size := Heap.lt_size hz
    refine wpAny_pyNext_zipD2_item (sep_of D) (drB hh i1 a D.l1i1 its.toArray t) (drB hh i2 b D.l2i2 its2.toArray u) hz hTI hTO ⟨h1, p⟩ ⟨h2, p2⟩ (by have := (List.getElem?_eq_some_iff.mp hv1).1; simpa using this) (by have := (List.getElem?_eq_some_iff.mp hv2).1; simpa using this)
      fun x1 x2 h' tk e1 e2 z' TO' s1' s2' hT hsz hk => ?_
    have ex1 : x1 = v1 := by
      have q : its.toArray[i]? = some v1 := by simpa using hv1
      rw [e1] at q; exact Option.some.inj q
    have ex2 : x2 = v2 := by
      have q : its2.toArray[i]? = some v2 := by simpa using hv2
      rw [e2] at q; exact Option.some.inj q
    subst ex1 ex2
    refine ⟨_, rfl, wpAny_letOwnedTupleGo_zip (s := { s with heap := h', toks := tk }) z' fun h'' z'' sb => ?_⟩
    have hT2 := (sb.2 _ (Nat.ne_of_gt hzl)).trans hT
    have new : ObjOk X.prog X.w (upd H s.heap.objs.size (.tup [x, y])) h'' s.heap.objs.size (.tup [x, y]) :=
      ⟨Nat.le_trans (by decide : 2 ≤ 16) (by decide), [x1, x2], .cons r1 (.cons r2 .nil), ⟨_, hT2, rfl, _, rfl⟩⟩
    have no : ∀ c, c ∉ [z, TI, TO, i1, i2] → (c ≠ z ∧ c ≠ TO) ∧ c ≠ i1 ∧ c ≠ i2 := fun c hb => ⟨⟨fun q => hb (by simp [q]), fun q => hb (by simp [q])⟩, fun q => hb (by simp [q]), fun q => hb (by simp [q])⟩
    have I1 : Inv X pins σ (upd H s.heap.objs.size (.tup [x, y])) { s with heap := h'', toks := tk } :=
      I.turnedNew (ch := [z, TI, TO, i1, i2]) (fun c o hb q => (sb.2 c (no c hb).1.1).trans (hk c o (no c hb).1.1 (no c hb).1.2 (no c hb).2.1 (no c hb).2.2 q)) hf (Nat.le_refl _) new
    refine ⟨.ref s.heap.objs.size, _, I1, rfl, ⟨_, x, y, rfl, ⟨I.hok.fresh (Nat.le_refl _), rfl⟩, fun l hl => by rw [SqB.inj I hl hqx]; exact hx, fun l hl => by rw [SqB.inj I hl hqy]; exact hy⟩, ⟨⟨z'', ?_⟩, ⟨x1, x2, ?_⟩, ?_, ?_⟩, fun c hcm => ?_⟩
    · exact (sb.2 TI D.TIz).trans (hk TI _ D.TIz D.TITO D.TIi1 D.TIi2 hTI)
    · exact (sb.2 TO D.TOz).trans TO'
    · exact s1'.1.keep fun o q => (sb.2 i1 D.i1z).trans q
    · exact s2'.1.keep fun o q => (sb.2 i2 D.i2z).trans q
    · have hlt : c < s.heap.objs.size := by
        obtain ⟨o1, g1, _⟩ := h1.obj
        obtain ⟨o2, g2, _⟩ := h2.obj
        rcases mem5 hcm with q | q | q | q | q
        · exact q ▸ hzl
        · exact q ▸ Heap.lt_size hTI
        · exact q ▸ Heap.lt_size hTO
        · exact q ▸ Heap.lt_size g1
        · exact q ▸ Heap.lt_size g2
      rw [upd_ne (Nat.ne_of_lt hlt)]
      exact (hf c hcm).1
  done := by
    rintro X rfl rfl rfl hc i pins s σ H E I hf ⟨⟨hz, hTI⟩, ⟨x0, y0, hTO⟩, h1, h2⟩ ⟨xs, ys, hqx, hqy, hend⟩
    obtain ⟨its, rv, p⟩ := SqB.get I hqx
    obtain ⟨its2, rv2, p2⟩ := SqB.get I hqy
    have l1 := rv.length
    have l2 := rv2.length
    have hh : X.A.in1.handled = none := I.ok.hd hc
    have no : ∀ c, c ∉ [z, TI, TO, i1, i2] → (c ≠ z ∧ c ≠ TO) ∧ c ≠ i1 ∧ c ≠ i2 := fun c hb => ⟨⟨fun q => hb (by simp [q]), fun q => hb (by simp [q])⟩, fun q => hb (by simp [q]), fun q => hb (by simp [q])⟩
    obtain ⟨n1, P1, S1, D1, st1, k1, f1⟩ := drX (prog := X.prog) (w := X.w) hh D.l1i1 h1 p
    obtain ⟨n2, P2, S2, D2, st2, k2, f2⟩ := drX (prog := X.prog) (w := X.w) hh D.l2i2 h2 p2
    have he : i = n1 ∨ i = n2 := hend.imp (fun q => f1 (by simp; omega)) fun q => f2 (by simp; omega)
    exact wpAny_pyNext_zipD2_end (sep_of D) D1 D2 hz hTI hTO st1 st2 k1 k2 he
      fun h' tk hk => ⟨rfl, I.turnedL (ch := [z, TI, TO, i1, i2]) (fun c o hb q => hk c o (no c hb).1.1 (no c hb).1.2 (no c hb).2.1 (no c hb).2.2 q) hf⟩
  self := fun A i s Q E st h => wpAny_pyIter_zip st.1.1 h

def iZipB (K : PySem.W.Frag) (ta : TA) : TI := fun σ H R => ta σ H fun vs H1 => ∃ a b t u xs ys, vs = [.ref a, .ref b] ∧ SqB t K H1 a xs ∧ SqB u K H1 b ys ∧ R (ItzB K t u a b) H1
section
variable {X : Cx} {ct : CT} {W : WX} {e e2 : Expr} {ta : TA} {p pos tpos : Pos} {elts : List Expr} {kk : Nat} {fs : SemA}
theorem pi_zipB (hg : Gl X "zip") (hm : X.mg "zip" = none) (ha : PA X [e, e2] ta)
    (hs : starEach [e, e2] X.env = (false, eval e X.env) :: starEach [e2] X.env := by rfl) (hpl : (backTo pos (starEach [e2] X.env)).any (·.1) = false := by rfl) :
    PI X (.Tuple elts kk tpos) (.Call (.Name "zip" p) [e, e2] [] pos) (iZipB X.K ta) := by
  refine ⟨fun pins s σ H R I h => ?_⟩
  refine PyProof.Rows.Call_ (ld_blt I hg hm PyProof.Rows.boot_zip (PyProof.Rows.callWith_type1 (thn (ha.run pos pins s σ H _ I h) fun us s1 ⟨vs, H1, I1, r1, a, b, t, u, xs, ys, ex, hqx, hqy, q⟩ => ?_) hs hpl))
  subst ex
  cases r1 with
  | cons r rr =>
    cases rr with
    | cons r' rr =>
      cases rr
      cases r
      cases r'
      obtain ⟨its, rv, p1⟩ := SqB.get I1 hqx
      obtain ⟨its2, rv2, p2⟩ := SqB.get I1 hqy
      refine zip_begins2 (bgB a its.toArray t) (bgB b its2.toArray u) p1 p2 fun h' hz hTI hTO h1 h2 hsz hk => wpAny_pyIter_zip hz ?_
      refine ⟨s1.heap.objs.size + 4, [s1.heap.objs.size + 4, s1.heap.objs.size + 2, s1.heap.objs.size + 3, s1.heap.objs.size, s1.heap.objs.size + 1], _, _, H1, rfl, I1.kept (t' := s1.toks) hk,
        turn_zipB (PySem.W.ktu_apart s1.heap.objs.size a b p1.lt p2.lt), ⟨⟨hz, hTI⟩, ⟨_, _, hTO⟩, ItB.new h1, ItB.new h2⟩, fun c hcm => ?_, q⟩
      have hle : s1.heap.objs.size ≤ c := by rcases mem5 hcm with q | q | q | q | q <;> (rw [q]; first | exact Nat.le_add_right _ _ | exact Nat.le_refl _)
      exact I1.fpOk hle (I1.hok.fresh hle)
/-- enumerate over a list or a tuple -/
def iEnumB (K : PySem.W.Frag) (ta : TA) : TI := fun σ H R => ta σ H fun vs H1 => ∃ a xs, vs = [.ref a] ∧ ((SqT K H1 a xs ∧ R (IteT K a) H1) ∨ (SqL K H1 a xs ∧ R (Ite K a) H1))
theorem pi_enumB (hg : Gl X "enumerate") (hm : X.mg "enumerate" = none) (ha : PA X [e] ta) (hs : starEach [e] X.env = [(false, eval e X.env)] := by rfl) :
    PI X (.Tuple elts kk tpos) (.Call (.Name "enumerate" p) [e] [] pos) (iEnumB X.K ta) := by
  refine ⟨fun pins s σ H R I h => ?_⟩
  refine PyProof.Rows.Call_ (ld_blt I hg hm PyProof.Rows.boot_enumerate (PyProof.Rows.callWith_type1 (thn (ha.run pos pins s σ H _ I h) fun us s1 ⟨vs, H1, I1, r1, a, xs, ex, hq⟩ => ?_) hs rfl))
  subst ex
  obtain ⟨u, rfl, r⟩ := r1.one
  cases r
  have fr : ∀ b, b ∈ [s1.heap.objs.size + 1, s1.heap.objs.size] → FpOk X pins H1 b := fun b hb => by
    have hle : s1.heap.objs.size ≤ b := by
      rcases List.mem_cons.mp hb with q | q
      · omega
      · have := List.mem_singleton.mp q; omega
    exact I1.fpOk hle (I1.hok.fresh hle)
  rcases hq with ⟨hq, q⟩ | ⟨hq, q⟩
  · obtain ⟨its, rv, p', hz⟩ := I1.tuple hq
    refine call_enumT p' fun h' he hit hk => wpAny_pyIter_enum he ?_
    exact ⟨_, _, _, _, H1, rfl, I1.kept (t' := s1.toks) hk, turn_enumT a _ _, ⟨⟨.none, he⟩, hit, Nat.succ_ne_self _⟩, fr, q⟩
  · obtain ⟨its, rv, p', hz⟩ := I1.list hq
    refine call_enumerate_list p'.isList fun h' he hit _ hk => wpAny_pyIter_enum he ?_
    exact ⟨_, _, _, _, H1, rfl, I1.kept (t' := s1.toks) hk, turn_enum a _ _, ⟨⟨.none, he⟩, hit, Nat.succ_ne_self _⟩, fr, q⟩
end
def pureB (x : Vl) : Option (Bool × List D) := match x with
  | .d (.tup xs) => some (true, xs)
  | .d (.lv xs) => some (false, xs)
  | _ => none
section
variable {K : PySem.W.Frag} {ct : CT} {m : List Addr} {ah : Hs} {H : Hp}
def HasB (m : List Addr) (ah : Hs) (H : Hp) (t : Bool) (a : Addr) (vs : List V) : Prop := match t with
  | true => H a = some (.tup vs) ∧ Sf m ah a
  | false => (H a = some (.lst vs) ∨ ∃ o, H a = some (.frz o (.lst vs))) ∧ Sf m ah a
theorem HasB.sq {t : Bool} {a : Addr} {vs : List V} (h : HasB m ah H t a vs) : SqB t K H a vs := by
  cases t
  · exact sqL_uniq (ys := vs) h.1
  · exact sqT_of h
theorem HasB.ext {m2 : List Addr} {h2 : Hs} {H2 : Hp} {t : Bool} {a : Addr} {vs : List V} (ex : Kp (Sf m ah) H (Sf m2 h2) H2) (h : HasB m ah H t a vs) : SqB t K H2 a vs := by
  cases t
  · exact sqL_uniq (ys := vs) (h.1.imp (fun g => (ex _ _ g h.2).1) fun ⟨o, g⟩ => ⟨o, (ex _ _ g h.2).1⟩)
  · exact sqT_of (sqT_ext ex h)
theorem pureB_of {x : Vl} {t : Bool} {ds : List D} {v : V} (e : pureB x = some (t, ds)) (r : VlR K ct m ah H x v) : ∃ a vs, v = .ref a ∧ HasB m ah H t a vs ∧ DRs K ct (Sf m ah) H ds vs := by
  cases t with
  | true =>
    unfold pureB at e
    split at e
    · cases e
      cases r with
      | tup h r => exact ⟨_, _, rfl, h, r⟩
    · cases e
    · cases e
  | false =>
    have q : pureLst x = some ds := by
      unfold pureB at e
      split at e
      · cases e
      · cases e; rfl
      · cases e
    obtain ⟨a, vs, e1, h, s, r⟩ := pureLst_of q r
    exact ⟨a, vs, e1, ⟨h, s⟩, r⟩
theorem wks_zipB {t u : Bool} {a b : Addr} {ds es : List D} {vs ws : List V} (h : HasB m ah H t a vs) (r : DRs K ct (Sf m ah) H ds vs) (g : HasB m ah H u b ws) (r2 : DRs K ct (Sf m ah) H es ws) : Wks K ct (zipD ds es) m ah H (ItzB K t u a b) := fun m2 h2 H2 hr ex => by
  have h' : SqB t K H2 a vs := h.ext ex
  have g' : SqB u K H2 b ws := g.ext ex
  refine ⟨fun i hi => ?_, fun i d hd => ?_⟩
  · rw [zipD_len, r.length, r2.length] at hi
    exact ⟨vs, ws, h', g', by omega⟩
  · obtain ⟨x0, y0, q1, q2, rfl⟩ := zipD_get hd
    obtain ⟨x, hx, rx⟩ := (r.mono ex).get q1
    obtain ⟨y, hy, ry⟩ := (r2.mono ex).get q2
    refine ⟨⟨vs, ws, x, y, h', g', hx, hy⟩, ?_⟩
    rintro z H3 ⟨T, x1, y1, rfl, ⟨hT, rfl⟩, f1, f2⟩
    have e1 := (f1 vs h').symm.trans hx
    have e2 := (f2 ws g').symm.trans hy
    cases e1; cases e2
    exact pair_new hr hT rx ry
end
def iZpB (f : SemA) : SemI := fun σ h => rb (f σ h) fun xs h1 => match xs with
  | [x, y] => (match pureB x, pureB y with
    | some (_, ds), some (_, es) => .ok (zipD ds es) h1
    | _, _ => .bad)
  | _ => .bad
def iEnB (f : SemA) : SemI := fun σ h => rb (f σ h) fun xs h1 => match xs with
  | [x] => (match pureB x with
    | some (_, ds) => .ok (enumD ds) h1
    | none => .bad)
  | _ => .bad
section
variable {X : Cx} {ct : CT} {W : WX} {e e2 : Expr} {p pos tpos : Pos} {elts : List Expr} {kk : Nat} {fs : SemA}
theorem si_zipB (hg : Gl X "zip") (hm : X.mg "zip" = none) (ha : SA X ct W [e, e2] fs)
    (hs : starEach [e, e2] X.env = (false, eval e X.env) :: starEach [e2] X.env := by rfl) (hpl : (backTo pos (starEach [e2] X.env)).any (·.1) = false := by rfl) :
    SI X ct W (.Tuple elts kk tpos) (.Call (.Name "zip" p) [e, e2] [] pos) (iZpB fs) :=
  PI.imp (pi_zipB hg hm ha hs hpl) fun σV H R ⟨m, ah, σ, hr, lr, p⟩ => ⟨m, ah, σ, hr, lr, (Po.bind (R := VlRs X.K ct) p).imp fun vs H1 ⟨m1, h1, x, hr1, e1, r1, p1⟩ => by
    dsimp only at p1
    split at p1
    · cases r1 with
      | cons r t =>
        cases t with
        | cons r2 t =>
          cases t
          split at p1
          · rename_i t ds u es q1 q2
            obtain ⟨a, vs, rfl, h, r⟩ := pureB_of q1 r
            obtain ⟨b, ws, rfl, h2, r2⟩ := pureB_of q2 r2
            exact ⟨a, b, t, u, vs, ws, rfl, h.sq, h2.sq, p1 m1 H1 _ hr1 (Ext.refl _ _ _) (wks_zipB h r h2 r2)⟩
          · exact p1.elim
    · exact p1.elim⟩
theorem si_enumB (hg : Gl X "enumerate") (hm : X.mg "enumerate" = none) (ha : SA X ct W [e] fs) (hs : starEach [e] X.env = [(false, eval e X.env)] := by rfl) : SI X ct W (.Tuple elts kk tpos) (.Call (.Name "enumerate" p) [e] [] pos) (iEnB fs) :=
  PI.imp (pi_enumB hg hm ha hs) fun σV H R ⟨m, ah, σ, hr, lr, p⟩ => ⟨m, ah, σ, hr, lr, (Po.bind (R := VlRs X.K ct) p).imp fun vs H1 ⟨m1, h1, x, hr1, e1, r1, p1⟩ => by
    dsimp only at p1
    split at p1
    · cases r1 with
      | cons r t =>
        cases t
        split at p1
        · rename_i t ds q1
          obtain ⟨a, vs, rfl, h, r⟩ := pureB_of q1 r
          cases t with
          | true => exact ⟨_, _, rfl, .inl ⟨sqT_of h, p1 m1 H1 _ hr1 (Ext.refl _ _ _) (wks_enumT h r)⟩⟩
          | false => exact ⟨_, _, rfl, .inr ⟨sqL_uniq (ys := vs) h.1, p1 m1 H1 _ hr1 (Ext.refl _ _ _) (wks_enum h.1 h.2 r)⟩⟩
        · exact p1.elim
    · exact p1.elim⟩
end
end Mi

/-! Mi24: list.index of data -/
namespace Mi
open PySem PySem.Spec L2
def fIx (p : D → Bool) : List D → Option Nat
  | [] => none
  | d :: ds => if p d = true then some 0 else (fIx p ds).map (· + 1)
theorem fIx_some {p : D → Bool} : ∀ {ds : List D} {j : Nat}, fIx p ds = some j → (∃ z, ds[j]? = some z ∧ p z = true) ∧ ∀ (m : Nat) (z : D), m < j → ds[m]? = some z → p z = false
  | [], j, e => by cases e
  | d :: ds, j, e => by
    unfold fIx at e
    split at e
    · rename_i h
      cases e
      exact ⟨⟨d, rfl, h⟩, fun m z hm => absurd hm (Nat.not_lt_zero _)⟩
    · rename_i h
      obtain ⟨i, ei, rfl⟩ := Option.map_eq_some_iff.mp e
      obtain ⟨⟨z, g1, g2⟩, g3⟩ := fIx_some ei
      refine ⟨⟨z, by simpa using g1, g2⟩, fun m z' hm hz => ?_⟩
      cases m with
      | zero => simp only [List.getElem?_cons_zero, Option.some.injEq] at hz; subst hz; exact Bool.eq_false_iff.mpr h
      | succ m => exact g3 m z' (by omega) (by simpa using hz)
theorem pds_get : ∀ (ds : List D) (j : Nat), (D.pds ds)[j]? = (ds[j]?).map D.pd
  | [], j => by simp [D.pds]
  | d :: ds, 0 => by simp [D.pds]
  | d :: ds, j + 1 => by simp only [D.pds, List.getElem?_cons_succ]; exact pds_get ds j
def eIdx (f : SemE) (g : SemA) : SemE := fun σ h => rb (f σ h) fun x h1 => (match lstOf x h1 with
  | some _ => rb (g σ h1) fun ys h2 => (match ys with
    | [y] => (match lstOf x h2, viewD y h2 with
      | some ds, some d => if (shp (.lv ds) && shp d) = true then (match fIx (fun z => PyData.eqv z.pd d.pd) ds with
          | some j => .ok (.d (.int (j : Nat))) h2
          | none => .bad) else .bad
      | _, _ => .bad)
    | _ => .bad)
  | none => .bad)
section
variable {X : Cx} {ct : CT} {W : WX} {o e : Expr} {f : SemE} {fs : SemA} {apos cpos : Pos}
theorem se_index (hu : X.A.units + 65 < cLine) (he : SE X ct W o f) (ha : SA X ct W [e] fs)
    (hb : attributeBase o "index" X.env (eval o X.env) = eval o X.env := by rfl)
    (hf : ((backTo cpos (starEach [e] X.env)).all (fun x => !x.1) && (backToKw cpos (keywordEach [] X.env)).all (fun x => x.1.isSome)
      && decide ([e].length + ([] : List Keyword).length + (if ([] : List Keyword).isEmpty then 0 else 1) < 30)) = true := by rfl)
    (hl : (apos.endLine == cpos.line) = true := by rfl) (hs : starEach [e] X.env = (false, eval e X.env) :: starEach [] X.env := by rfl) (hp : (backTo cpos (starEach [] X.env)).any (·.1) = false := by rfl) :
    SE X ct W (.Call (.Attribute o "index" apos) [e] [] cpos) (eIdx f fs) :=
  PE.imp (pe_bm PySem.F.plainAttrs_list PySem.F.slot_list_index PySem.F.type_list_index (r := rIndexD X.K) (mt_indexD hu) he ha hb hf hl hs hp) fun σV H Q ⟨m, ah, σ, hr, lr, p⟩ => by
    refine ⟨m, ah, σ, hr, lr, (Po.bind (R := VlR X.K ct) p).imp fun v H1 ⟨m1, h1, x, hr1, e1, r1, p1⟩ => ?_⟩
    dsimp only at p1
    split at p1
    · rename_i xs hx
      obtain ⟨a, vs, rfl, g1, g2⟩ := lst_of hr1 hx r1
      refine ⟨.inl ⟨rfl, vs, .of g1⟩, m1, h1, σ, hr1, lr.ext e1, (Po.bind (R := VlRs X.K ct) p1).imp fun us H2 ⟨m2, h2, ys2, hr2, e2, r2, p2⟩ => ?_⟩
      dsimp only at p2
      split at p2
      · cases r2 with
        | cons ry tt =>
          cases tt
          split at p2
          · rename_i ds d q1 q2
            split at p2
            · rename_i hc
              have hc' := Bool.and_eq_true_iff.mp hc
              split at p2
              · rename_i j hj
                obtain ⟨l, ws, ea, h3, r3⟩ := lst_of hr2 q1 (VlR.ext e2 r1)
                cases ea
                have c2 := hc'.1
                unfold shp at c2
                simp only [D.pd] at c2
                have c3 := SeqAt.canLay_of_shaped c2
                simp only [PyData.canLay0] at c3
                obtain ⟨⟨z, z1, z2⟩, z3⟩ := fIx_some hj
                refine ⟨a, _, d.pd, D.pds ds, j, z.pd, rfl, rfl, .lst (.of h3) (dps_of r3 c3), view_dp hr2 q2 ry hc'.2, c2, hc'.2, by rw [pds_get, z1]; rfl, z2, fun m z' hm hz => ?_, ?_⟩
                · rw [pds_get] at hz
                  obtain ⟨z'', e1, rfl⟩ := Option.map_eq_some_iff.mp hz
                  exact z3 m z'' hm e1
                · exact p2 m2 H2 _ hr2 (Ext.refl _ _ _) (.int _)
              · exact p2.elim
            · exact p2.elim
          · exact p2.elim
      · exact p2.elim
    · exact p1.elim
end
end Mi

/-! Mi25: exception objects as data: made, read, asked by isinstance -/
namespace Mi
open PySem PySem.Spec L2

/-! ### what is asked of an own exception class -/
structure ExcK (K : PySem.W.Frag) (C : Addr) : Prop where
  ox : OexC K C
  ga : PySem.W.findIn K (.ref C) "__getattribute__" = some (some (.builtin "BaseException.__getattribute__"))
  gg : PySem.W.findIn K (.ref C) "__getattr__" = some none
  hd : PySem.W.hasDictIn K C = true
  cl : (PySem.W.clsIn K C).isSome = true
  ha : PySem.W.findIn K (.ref C) "__class__" = some (some (.builtin "object.__class__"))
  hn : PySem.W.specialIn K (.builtin "object.__class__") "__get__" = some (some (.builtin "getset_descriptor.__get__"))
  ht : PySem.W.takesIn K (.builtin "object.__class__") = some true
  hm : PySem.W.mroIn K C (.type "object") = some true
theorem oexB_ok {K : PySem.W.Frag} {C : Addr} (q : oexB K C = true) : ∃ nm q N bs bm sn sub ab col dd k0 k1 k2 k3 k5, K.lookup C = some (excClassObj nm q C N bs bm true sn sub ab col dd k0 k1 k2 k3 k5 "ValueError.__new__") ∧ PySem.HandSPX.refsVE bm = true := by
  unfold oexB at q
  split at q
  · rename_i dd cd sl ho
    split at q
    · rename_i C' bm k0 k1 k2 k3 n k5 h1 h2
      obtain ⟨nm, bs, mro, N, qn, hd, sn, sub, ab, col, dl⟩ := cd
      simp only [Bool.and_eq_true, decide_eq_true_eq, beq_iff_eq, Bool.not_eq_true'] at q h1
      obtain ⟨e1, e2, e3, e4, e5⟩ := q
      subst e1 e2 e3 e4 h1
      have hs : sl = #[k0, k1, k2, k3, some (.builtin "ValueError.__new__"), k5] := by
        cases sl
        simp only at h2
        rw [h2]
      subst hs
      exact ⟨nm, qn, N, bs, bm, sn, sub, ab, col, dd, k0, k1, k2, k3, k5, ho, e5⟩
    · cases q
  · cases q
theorem excKB_ok {K : PySem.W.Frag} {C : Addr} (q : excKB K C = true) : ExcK K C := by
  unfold excKB at q
  simp only [Bool.and_eq_true, decide_eq_true_eq] at q
  obtain ⟨h1, h2, h3, h4, h5, h6, h7, h8, h9, h10, h11, h12, h13⟩ := q
  exact ⟨⟨oexB_ok h1, He.eqO_ok h2, h3, h4, h5⟩, He.eqO_ok h6, He.eqO_ok h7, h8, h9, He.eqO_ok h10, He.eqO_ok h11, h12, h13⟩

/-! ### an exception object in the heap -/
/-- what the context knows of the caught exception -/
def Caught (X : Cx) (ct : CT) : Prop := ∀ a C d, ct.ex = some (a, C, d) → ∃ oe, (a, oe) ∈ X.pn ∧ Zc (.ref (ct.ca C)) d oe ∧ ∃ vs, oe.data = .fields vs
theorem Caught.none {X : Cx} {ct : CT} (h : ct.ex = none) : Caught X ct := fun a C d e => by rw [h] at e; cases e
section
variable {X : Cx} {ct : CT} {W : WX} {pins : List (Addr × Obj)} {σ : L2.St} {H : Hp} {s : Shared} {S : Addr → Prop}
theorem exc_inst (hc : Caught X ct) (I : Inv X pins σ H s) {C : Nat} {fs : List (Nat × D)} {v : V} (r : DR X.K ct S H (.exc C fs) v) :
    ∃ (a : Addr) (ox : Obj), v = .ref a ∧ (fs = [] → ∃ od, PySem.W.InstAt s.heap a ox (ct.ca C) od) ∧ (fs ≠ [] → ∃ od, PySem.W.InstAt s.heap a ox (ct.ca C) (some od) ∧ ∀ k d, fs.lookup k = some d → ∃ (w : V) (u : Value), PySem.W.lookIn (ct.nm k) od = some (some u) ∧ RelV w u ∧ DR X.K ct S H d w) := by
  have own : ∀ {dx : Addr} {vs : List (Str × V)} {mA : Str → Option Value}, s.heap.Ns1 dx mA → (∀ f, RelO (vs.lookup f) (mA f)) → DRf X.K ct S H fs vs →
      ∃ od, s.heap.get? dx = some od ∧ ∀ k d, fs.lookup k = some d → ∃ (w : V) (u : Value), PySem.W.lookIn (ct.nm k) od = some (some u) ∧ RelV w u ∧ DR X.K ct S H d w := by
    intro dx vs mA hn hr t
    obtain ⟨od, ho, hl⟩ := lookIn_ns hn
    refine ⟨od, ho, fun k d hk => ?_⟩
    obtain ⟨w, h3, r3⟩ := (lookup_drf t).1 d hk
    obtain ⟨u, hu, ru⟩ := RelO.some_of (v := w) (o := mA (ct.nm k)) (by rw [← h3]; exact hr _)
    exact ⟨w, u, by rw [hl, hu], ru, r3⟩
  cases r with
  | exb h hs =>
    obtain ⟨t1, ho⟩ := exo_at I.hok h
    exact ⟨_, _, rfl, fun _ => ⟨none, ho, rfl, rfl, trivial⟩, fun z => absurd rfl z⟩
  | @exd a _ dx _ vs h hs h2 hs2 t =>
    obtain ⟨t1, ho⟩ := exo_at I.hok h
    obtain ⟨mA, hn, hr⟩ := exd_at I.hok h2
    obtain ⟨od, hod, q⟩ := own hn hr t
    exact ⟨a, _, rfl, fun _ => ⟨some od, ho, rfl, rfl, hod⟩, fun _ => ⟨od, ⟨ho, rfl, rfl, hod⟩, q⟩⟩
  | @exq a _ e =>
    obtain ⟨oe, hp, hz, vs, hv⟩ := hc _ _ _ e
    obtain ⟨hget, _⟩ := I.pin (a, oe) (List.mem_append_left _ hp)
    exact ⟨a, oe, rfl, fun _ => ⟨none, hget, hz.1, by unfold PySem.W.notCls; rw [hv] <;> rfl, by rw [hz.2]; trivial⟩, fun z => absurd rfl z⟩
  | @exr a _ dx _ vs e h hs t =>
    obtain ⟨oe, hp, hz, ws, hv⟩ := hc _ _ _ e
    obtain ⟨hget, _⟩ := I.pin (a, oe) (List.mem_append_left _ hp)
    have hx : ObjOk X.prog X.w H s.heap dx (.xd vs) := I.hok dx _ h
    obtain ⟨mA, hn, hr⟩ := hx
    obtain ⟨od, hod, q⟩ := own hn hr t
    have J : PySem.W.InstAt s.heap a oe (ct.ca C) (some od) := ⟨hget, hz.1, by unfold PySem.W.notCls; rw [hv] <;> rfl, by rw [hz.2]; exact hod⟩
    exact ⟨a, oe, rfl, fun _ => ⟨_, J⟩, fun _ => ⟨od, J, q⟩⟩
end
end Mi

/-! Mi26: an exception's fields read, isinstance of it, exceptions made as values -/
namespace Mi
open PySem PySem.Spec L2

/-- e.f, e an exception -/
def eXf (ok : Nat → Bool) (n : Nat) (f : SemE) : SemE := fun σ h => rb (f σ h) fun x h1 => match x with
  | .d (.exc C fs) => if ok C = true then (match fs.lookup n with
    | some d => .ok (.d d) h1
    | none => .bad) else .bad
  | _ => .bad
/-- isinstance(e, C) by a table over the exception classes -/
def eIsx (l : List (Nat × Bool)) (f : SemE) : SemE := fun σ h => rb (f σ h) fun x h1 => match x with
  | .d (.exc C _) => (match l.lookup C with
    | some b => .ok (.d (.bl b)) h1
    | none => .bad)
  | _ => .bad
section
variable {X : Cx} {ct : CT} {W : WX} {pos p p2 : Pos} {e : Expr} {f : SemE} {x : Str}
theorem se_xf {ok : Nat → Bool} {k : Nat} {fl : Str} (hc : Caught X ct) (he : SE X ct W e f) (hf : ct.nm k = fl) (hok : ∀ C, ok C = true → ExcK X.K (ct.ca C) ∧ PySem.W.findIn X.K (.ref (ct.ca C)) fl = some none)
    (hb : attributeBase e fl X.env (eval e X.env) = eval e X.env := by rfl) : SE X ct W (.Attribute e fl pos) (eXf ok k f) := by
  subst hf
  refine ⟨fun pins s σV H Q I ⟨m, ah, σ, hr, lr, p⟩ => attr_of hb (thn (he.run pins s σV H _ I ⟨m, ah, σ, hr, lr, Po.bind (R := VlR X.K ct) p⟩) fun u s1 ⟨v, H1, I1, rx, m1, h1, y, hr1, e1, r1, p1⟩ => ?_)⟩
  dsimp only at p1
  split at p1
  · rename_i C fs
    split at p1
    · rename_i hC
      obtain ⟨T, hno⟩ := hok C hC
      cases q : fs.lookup k with
      | none => rw [q] at p1; exact p1.elim
      | some d =>
        rw [q] at p1
        obtain ⟨a, ox, rfl, _, z⟩ := exc_inst hc I1 r1
        obtain ⟨od, J, g⟩ := z (fun z => by rw [z] at q; cases q)
        obtain ⟨w, uu, hl, ru, rd⟩ := g k d q
        obtain rfl : u = Value.ref a := rx
        exact HandSPX.exc_get I1.kIn J T.ga T.gg T.ox.exC (PySem.W.findObj_own T.hd hno rfl hl) (handed_of ru) ⟨w, H1, I1.tok _, ru, p1 m1 H1 w hr1 (Ext.refl _ _ _) rd⟩
    · exact p1.elim
  · exact p1.elim
/-- isinstance of an exception -/
def rIsx (K : PySem.W.Frag) (ct : CT) : List V → Hp → VK → Prop := fun xs H Q => ∃ (v c : V) (C : Nat) (fs : List (Nat × D)) (u : Value) (b : Bool) (S : Addr → Prop), xs = [v, c] ∧ ClsV c u ∧ DR K ct S H (.exc C fs) v ∧ ExcK K (ct.ca C) ∧ PySem.W.kitOne K (.ref (ct.ca C)) u = some b ∧ Q (.bl b) H
theorem call_isx (hc : Caught X ct) : CallR X (.builtin "isinstance") (rIsx X.K ct) := by
  intro pins s σ H xs us Q I r h
  obtain ⟨v, c, C, fs, u, b, S, rfl, k, d, T, e, q⟩ := h
  obtain ⟨u1, u2, rfl, r1, r2⟩ := vals2 r
  have e2 := k.eq r2
  subst e2
  obtain ⟨a, ox, rfl, z1, z2⟩ := exc_inst hc I d
  obtain rfl : u1 = Value.ref a := r1
  obtain ⟨od, J⟩ : ∃ od, PySem.W.InstAt s.heap a ox (ct.ca C) od := by
    by_cases hf : fs = []
    · exact z1 hf
    · obtain ⟨od, J, _⟩ := z2 hf; exact ⟨_, J⟩
  exact PySem.W.kia_one (PySem.W.kitx_exc T.cl T.ga T.gg T.ox.exC T.ha T.hn T.ht T.hm) I.kIn J e (fun z => nomatch z) fun tk => ⟨.bl b, H, I.tok tk, rfl, q⟩
theorem pe_isx {l : List (Nat × Bool)} {c : V} {u : Value} (hk : ClsV c u) (h2 : PE X (.Name x p2) (tC c)) (hc : Caught X ct) (ho : ∀ C b, l.lookup C = some b → ExcK X.K (ct.ca C) ∧ PySem.W.kitOne X.K (.ref (ct.ca C)) u = some b) (hg : Gl X "isinstance") (hm : X.mg "isinstance" = none) (he : SE X ct W e f)
    (h1 : starEach [e, .Name x p2] X.env = (false, eval e X.env) :: starEach [.Name x p2] X.env := by rfl) : SE X ct W (.Call (.Name "isinstance" p) [e, .Name x p2] [] pos) (eIsx l f) :=
  PE.imp (pe_callB (call_isx hc) hg hm PyProof.Rows.boot_isinstance (pa_cons he (pa_cons h2 pa_nil (by rfl)) h1) (by decide) (by decide) h1 (by rfl)) fun σV H Q ⟨m, ah, σ, hr, lr, p⟩ => ⟨m, ah, σ, hr, lr, (Po.bind (R := VlR X.K ct) p).imp fun v H1 ⟨m1, h1, x, hr1, e1, r1, p1⟩ => by
    dsimp only at p1
    split at p1
    · rename_i C fs
      cases q2 : l.lookup C with
      | none => rw [q2] at p1; exact p1.elim
      | some b =>
        rw [q2] at p1
        obtain ⟨T, k1⟩ := ho C b q2
        exact ⟨v, c, C, fs, u, b, _, rfl, hk, r1, T, k1, p1 m1 H1 _ hr1 (Ext.refl _ _ _) (.bl b)⟩
    · exact p1.elim⟩
/-- isinstance(e, T), T built in -/
theorem se_isxB {l : List (Nat × Bool)} {T : String} (hg2 : Gl X x) (hm2 : X.mg x = none) (hv : bootBuiltins x = some (.type T)) (hc : Caught X ct) (ho : ∀ C b, l.lookup C = some b → ExcK X.K (ct.ca C) ∧ PySem.W.kitOne X.K (.ref (ct.ca C)) (.type T) = some b) (hg : Gl X "isinstance") (hm : X.mg "isinstance" = none) (he : SE X ct W e f)
    (hn : x ≠ "__name__" := by decide) (hd : (x == ("__debug__" : Str)) = false := by decide)
    (h1 : starEach [e, .Name x p2] X.env = (false, eval e X.env) :: starEach [.Name x p2] X.env := by rfl) : SE X ct W (.Call (.Name "isinstance" p) [e, .Name x p2] [] pos) (eIsx l f) :=
  pe_isx (.ty T) (pe_bltn hg2 hm2 hv (v := .ty T) rfl hn hd) hc ho hg hm he h1
/-- isinstance(e, C), C own -/
theorem se_isxC {l : List (Nat × Bool)} {C : Addr} (hg2 : Gl X x) (hm2 : X.mg x = some (.ref C)) (hc : Caught X ct) (ho : ∀ D b, l.lookup D = some b → ExcK X.K (ct.ca D) ∧ PySem.W.kitOne X.K (.ref (ct.ca D)) (.ref C) = some b) (hg : Gl X "isinstance") (hm : X.mg "isinstance" = none) (he : SE X ct W e f)
    (hd : (x == ("__debug__" : Str)) = false := by decide)
    (h1 : starEach [e, .Name x p2] X.env = (false, eval e X.env) :: starEach [.Name x p2] X.env := by rfl) : SE X ct W (.Call (.Name "isinstance" p) [e, .Name x p2] [] pos) (eIsx l f) :=
  pe_isx (.own C) (pe_glob hg2 hm2 (v := .ref C) rfl hd) hc ho hg hm he h1

/-! ### made as values -/
/-- C(), no own __init__ -/
def eXb (C : Nat) : SemE := fun _ h => .ok (.d (.exc C [])) h
theorem se_exb {C : Nat} (q : PySem.W.excIn X.K (ct.ca C) He.veBase "ValueError.__new__" = true) (kC : PySem.W.keepIn X.K (.ref (ct.ca C)) = true) (gC : X.mg x = some (.ref (ct.ca C))) (hg : Gl X x) (hdb : (x == ("__debug__" : Str)) = false := by decide) : SE X ct W (.Call (.Name x p) [] [] pos) (eXb C) := by
  refine ⟨fun pins s σV H Q I ⟨m, ah, σ, hr, lr, p⟩ => ?_⟩
  refine wpAny_Call_Name_kw (ld_glob I hg gC ?_ hdb)
  refine PySem.W.callWith_K0 I.kIn kC ?_
  show wpAny _ _ (call (.ref (ct.ca C)) []) _ _ _
  obtain ⟨bm, N, nm, qn, bs, hdct, sn, sub, ab, col, dd, k0, k1, k2, k3, k5, mN, hC, hN, hni, T⟩ := exc_obj I.kIn q
  refine wpAny_call_exc_subT F.excBase_ValueError T hC hN hni (fun h' a hm => ?_) (by show 0 ≤ sizeLine; omega)
  obtain ⟨t, ht, _, _⟩ := hm.there
  have hn : H a = none := I.hok.gone hm.new
  obtain ⟨hr2, e2, sa⟩ := hr.pure (o := L2.exo a (ct.ca C) none) hn
  exact ⟨.ref a, upd H a (L2.exo a (ct.ca C) none), I.laidN hm.keeps hm.new hn (exo_ok ht), rfl, p m _ (.ref a) hr2 e2 (.exb upd_same sa)⟩
end
end Mi

/-! Mi27: exceptions with an own __init__ -/
namespace Mi
open PySem PySem.Spec L2

def fieldsOf (ct : CT) (ks : List Nat) (ws : List V) : List (Str × V) := ((ks.map ct.nm).zip ws).reverse
/-- what an exception's __init__ keeps: it stores its arguments under the names ks -/
def spX (ct : CT) (C : Nat) (ks : List Nat) : Sp := fun vs H Q _ => ∃ (a : Addr) (ws : List V), vs = .ref a :: ws ∧ ws.length = ks.length ∧ H a = some (L2.exo a (ct.ca C) none) ∧
  (ks = [] → Q .non H) ∧ (ks ≠ [] → ∀ (dx : Addr) (H' : Hp), H dx = none → dx ≠ a → H' a = some (L2.exo a (ct.ca C) (some dx)) → H' dx = some (L2.exd dx (fieldsOf ct ks ws)) → (∀ b, b ≠ a → b ≠ dx → H' b = H b) → Q .non H')
section
variable {P : Program} {w : World} {K : PySem.W.Frag} {mg : Str → Option Value} {base : Heap} {CX : CXT} {ct : CT} {x qual slf v v2 : Str} {params : Arguments} {scope : Scope} {dvs : List V} {kws : List (Str × V)} {f : Addr} {fd : FuncData} {k : Nat} {p1 p2 p3 p4 p5 p6 p7 p8 : Pos} {C k0 k1 : Nat}
theorem xi1_ok (F : FunD K x qual params [.Assign [.Attribute (.Name slf p1) (ct.nm k0) p2] (.Name v p3) p4] scope dvs kws f fd) (S : FnScope [slf, v] [slf, v] scope) (hs : Vis scope slf) (hv : Vis scope v) (T : OexC K (ct.ca C)) (hno : PySem.W.findIn K (.ref (ct.ca C)) (ct.nm k0) = some none)
    (d1 : (slf == ("__debug__" : Str)) = false := by decide) (d2 : (slf == ("__classdict__" : Str)) = false := by decide) (d3 : (v == ("__debug__" : Str)) = false := by decide) (d4 : (v == ("__classdict__" : Str)) = false := by decide) : FnOk P w K mg base CX (k + 1) f fd [slf, v] (spX ct C [k0]) :=
  fun_ok F S (fun vs H Q E ⟨a, ws, h1, h2, _⟩ => by subst h1; simp [h2]) fun cdv A outer s H vs Q E hr ⟨a, ws, h1, h2, h3, _, h5⟩ => by
    match ws, h2, h1, h5 with
    | [y], _, h1, h5 =>
      subst h1
      refine ⟨_, pss_one (ps_ost (pe_var (i := 0) rfl hs d1 d2) (pe_var (i := 1) rfl hv d3 d4)), ?_⟩
      exact ⟨y, rfl, .ref a, rfl, a, ct.ca C, rfl, T, hno, .inl ⟨h3, fun dx n ne => h5 (by simp) dx _ n ne upd_same (by rw [upd_ne ne, upd_same]; rfl) fun b b1 b2 => by rw [upd_ne b1, upd_ne b2]⟩⟩
theorem xi2_ok (F : FunD K x qual params [.Assign [.Attribute (.Name slf p1) (ct.nm k0) p2] (.Name v p3) p4, .Assign [.Attribute (.Name slf p5) (ct.nm k1) p6] (.Name v2 p7) p8] scope dvs kws f fd) (S : FnScope [slf, v, v2] [slf, v, v2] scope) (hs : Vis scope slf) (hv : Vis scope v) (hv2 : Vis scope v2)
    (T : OexC K (ct.ca C)) (hno : PySem.W.findIn K (.ref (ct.ca C)) (ct.nm k0) = some none) (hno2 : PySem.W.findIn K (.ref (ct.ca C)) (ct.nm k1) = some none)
    (d1 : (slf == ("__debug__" : Str)) = false := by decide) (d2 : (slf == ("__classdict__" : Str)) = false := by decide) (d3 : (v == ("__debug__" : Str)) = false := by decide) (d4 : (v == ("__classdict__" : Str)) = false := by decide)
    (d5 : (v2 == ("__debug__" : Str)) = false := by decide) (d6 : (v2 == ("__classdict__" : Str)) = false := by decide) : FnOk P w K mg base CX (k + 1) f fd [slf, v, v2] (spX ct C [k0, k1]) :=
  fun_ok F S (fun vs H Q E ⟨a, ws, h1, h2, _⟩ => by subst h1; simp [h2]) fun cdv A outer s H vs Q E hr ⟨a, ws, h1, h2, h3, _, h5⟩ => by
    match ws, h2, h1, h5 with
    | [y, y2], _, h1, h5 =>
      subst h1
      refine ⟨_, pss_cons (ps_ost (pe_var (i := 0) rfl hs d1 d2) (pe_var (i := 1) rfl hv d3 d4)) (pss_one (ps_ost (pe_var (i := 0) rfl hs d1 d2) (pe_var (i := 2) rfl hv2 d5 d6))), ?_⟩
      exact ⟨y, rfl, .ref a, rfl, a, ct.ca C, rfl, T, hno, .inl ⟨h3, fun dx n ne => ⟨y2, rfl, .ref a, rfl, a, ct.ca C, rfl, T, hno2, .inr ⟨dx, _, upd_same, by rw [upd_ne ne, upd_same], (by show 1 ≤ 900; omega),
        h5 (by simp) dx _ n ne (by rw [upd_ne ne.symm, upd_same]) upd_same fun b b1 b2 => by rw [upd_ne b2, upd_ne b1, upd_ne b2]⟩⟩⟩⟩
end
end Mi

/-! Mi28: an exception with an own __init__ made as a value; an __init__ that calls its base's -/
namespace Mi
open PySem PySem.Spec L2

section
variable {K : PySem.W.Frag} {ct : CT} {S : Addr → Prop} {H : Hp}
theorem DRf.append : ∀ {ds : List (Nat × D)} {vs : List (Str × V)} {es : List (Nat × D)} {ws : List (Str × V)}, DRf K ct S H ds vs → DRf K ct S H es ws → DRf K ct S H (ds ++ es) (vs ++ ws)
  | _, _, _, _, .nil, t => t
  | _, _, _, _, .cons r s, t => .cons r (DRf.append s t)
theorem drf_fields : ∀ {ks : List Nat} {ds : List D} {ws : List V}, DRs K ct S H ds ws → DRf K ct S H (ks.zip ds).reverse (fieldsOf ct ks ws)
  | [], _, _, _ => .nil
  | _ :: _, _, _, .nil => .nil
  | k :: ks, _, _, .cons r t => by
    unfold fieldsOf
    simp only [List.zip_cons_cons, List.map_cons, List.reverse_cons]
    exact DRf.append (drf_fields t) (.cons r .nil)
end
/-- what the class's own __init__ is -/
structure XInit (X : Cx) (ct : CT) (C : Nat) (ks : List Nat) : Prop where
  T : OexC X.K (ct.ca C)
  i : ∃ (f : Addr) (fd : FuncData) (ps : List Str), PySem.W.findIn X.K (.ref (ct.ca C)) "__init__" = some (some (.ref f)) ∧ PySem.W.typeIn X.K (.ref f) = some (.type "function") ∧ Binds X.K fd ps [] ∧ FnOk X.prog X.w X.K X.mg X.base (L2.CX X.prog X.w) 1 f fd ps (spX ct C ks)
section
variable {X : Cx} {ct : CT} {W : WX} {pos p : Pos} {e : Expr} {es : List Expr} {fs : SemA} {x : Str}
theorem run_exi {C : Nat} {ks : List Nat} {pins : List (Addr × Obj)} {σ : L2.St} {H : Hp} {s : Shared} {Q : VK} {us : List Value} {vs : List V} (XI : XInit X ct C ks) (hr : Room 2 X.A) (hl : vs.length = ks.length) (hk : ks.length ≤ 100) (I : Inv X pins σ H s) (r : Vals vs us)
    (h0 : ks = [] → ∀ a, H a = none → Q (.ref a) (upd H a (L2.exo a (ct.ca C) none)))
    (h1 : ks ≠ [] → ∀ a dx H', H a = none → H dx = none → H' a = some (L2.exo a (ct.ca C) (some dx)) → H' dx = some (L2.exd dx (fieldsOf ct ks vs)) → (∀ b, b ≠ a → b ≠ dx → H' b = H b) → Q (.ref a) H') :
    wpAny (model X.prog X.w) X.A (call (.ref (ct.ca C)) us) (EP X pins σ Q) X.xe s := by
  obtain ⟨T, fI, fd, ps, iC, tI, hb, F1⟩ := XI
  obtain ⟨nm, q, N, bs, bm, sn, sub, ab, col, dd, k0, k1, k2, k3, k5, hC, hbm⟩ := T.cls
  obtain ⟨hp, g, dr, tk, os⟩ := s
  have hsz : hp.objs.size ≤ hp.objs.size + 1 := Nat.le_succ _
  have hn : H (hp.objs.size + 1) = none := I.hok.fresh hsz
  have kk : ∀ b o, hp.get? b = some o → ((hp.push (PySem.W.kdv_tup us)).push (PySem.HandSPX.excO (ct.ca C) hp.objs.size)).get? b = some o := fun b o e => Heap.get?_push_of_some _ (Heap.get?_push_of_some _ e)
  have hget : ((hp.push (PySem.W.kdv_tup us)).push (PySem.HandSPX.excO (ct.ca C) hp.objs.size)).get? (hp.objs.size + 1) = some (PySem.HandSPX.excO (ct.ca C) hp.objs.size) := by heap_get
  have I2 := I.laid (t' := tk) (a := hp.objs.size + 1) (o := L2.exo (hp.objs.size + 1) (ct.ca C) none) (h' := (hp.push (PySem.W.kdv_tup us)).push (PySem.HandSPX.excO (ct.ca C) hp.objs.size)) kk hsz (exo_ok hget)
  have r2 : Vals (V.ref (hp.objs.size + 1) :: vs) (Value.ref (hp.objs.size + 1) :: us) := .cons rfl r
  have hus : us.length ≤ sizeLine := by
    rw [← Paired.length r, hl, sizeLine_eq]
    omega
  have hq : spX ct C ks (V.ref (hp.objs.size + 1) :: vs) (upd H (hp.objs.size + 1) (L2.exo (hp.objs.size + 1) (ct.ca C) none)) (fun v H2 => v = .non ∧ Q (.ref (hp.objs.size + 1)) H2) (fun _ _ _ => False) := by
    refine ⟨_, vs, rfl, hl, upd_same, fun z => ⟨rfl, h0 z _ hn⟩, fun z dx H' n ne e1 e2 e3 => ⟨rfl, h1 z _ dx H' hn ?_ e1 e2 fun b b1 b2 => by rw [e3 b b1 b2, upd_ne b1]⟩⟩
    rw [upd_ne ne] at n
    exact n
  have hlen : (Value.ref (hp.objs.size + 1) :: us).length = ps.length := by rw [← Paired.length r2, F1.len _ _ _ _ hq]
  have bb := hb _ (Value.ref (hp.objs.size + 1) :: us) I2.kIn (by rw [List.append_nil]; exact hlen)
  rw [List.append_nil] at bb
  refine wpAny_call (PySem.HandSPX.call_own F.excBase_ValueError (fun Y => PySem.HandSPX.refsVE_contains Y bm hbm) (I.kIn _ _ hC) (PySem.W.looks_findIn I.kIn iC) (fun self => PySem.W.bind_fn I.kIn self tI) hus
    (codeAny_mono (F1.run _ X.stack _ _ ⟨Value.ref (hp.objs.size + 1) :: us, []⟩ _ _ _ _ (hr.make (ct.ca C) us []) (I2.env0.make (ct.ca C) us []) bb r2 hq) fun r s' hq' => ?_))
  cases r with
  | error er =>
    obtain ⟨_, _, _, _, _, _, _, _, _, _, _, _, z⟩ := hq'
    exact z.elim
  | ok fl =>
    cases fl with
    | ret u =>
      obtain ⟨v, H', I3, rv, ev, q3⟩ := I2.after hq'
      subst ev
      exact ⟨rv, ⟨V.ref (hp.objs.size + 1), H', I3, rfl, q3⟩⟩
    | next => exact False.elim hq'
    | brk => exact False.elim hq'
    | cont => exact False.elim hq'
/-- C(e, ..) -/
def eXi (C : Nat) (ks : List Nat) (fs : SemA) : SemE := fun σ h => rb (fs σ h) fun xs h1 => match toDs xs h1 with
  | some (ds, h2) => if ds.length = ks.length then .ok (.d (.exc C (ks.zip ds).reverse)) h2 else .bad
  | none => .bad
theorem se_exi {C : Nat} {k : Nat} {ks : List Nat} (XI : XInit X ct C (k :: ks)) (hr : Room 2 X.A) (hk : (k :: ks).length ≤ 100) (hg : Gl X x) (hm : X.mg x = some (.ref (ct.ca C))) (ha : SA X ct W (e :: es) fs) (hdb : (x == ("__debug__" : Str)) = false := by decide)
    (he : starEach (e :: es) X.env = (false, eval e X.env) :: starEach es X.env := by rfl) (hpl : (backTo pos (starEach es X.env)).any (·.1) = false := by rfl) : SE X ct W (.Call (.Name x p) (e :: es) [] pos) (eXi C (k :: ks) fs) := by
  refine ⟨fun pins s σV H Q I ⟨m, ah, σ, hr0, lr, q⟩ => ?_⟩
  refine wpAny_Call_Name_kw (ld_glob I hg hm ?_ hdb)
  refine PySem.W.callWith_K (h₀ := X.base) I.ok.mod.kin XI.T.kC (thn (ha.run pos pins s σV H _ I ⟨m, ah, σ, hr0, lr, Po.bind (R := VlRs X.K ct) q⟩) fun us s1 ⟨vs, H1, I1, r, m1, h1, xs, hr1, e1, r1, p1⟩ => ⟨I1.kIn, ?_⟩) he hpl
  dsimp only at p1
  cases e2 : toDs xs h1 with
  | none => rw [e2] at p1; exact p1.elim
  | some z =>
    obtain ⟨ds, h2⟩ := z
    rw [e2] at p1
    dsimp only at p1
    split at p1
    · rename_i hl
      obtain ⟨hr2, ex2, t2⟩ := toDs_sound hr1 e2 r1
      refine run_exi XI hr (by rw [← hl, t2.length]) hk I1 r (fun z => nomatch z) fun _ a dx H' n nd q1 q2 q3 => ?_
      obtain ⟨hr3, e3⟩ := hr2.more (H' := H') fun b o hb => by
        rw [q3 b (ne_of_none hb n) (ne_of_none hb nd)]
        exact hb
      exact p1 m1 H' (.ref a) hr3 (ex2.trans e3) (.exd q1 (hr2.freshS n) q2 (hr2.freshS nd) ((drf_fields t2).mono e3.kp))
    · exact p1.elim
/-- C(), C's __init__ stores nothing -/
theorem se_exi0 {C : Nat} (XI : XInit X ct C []) (hr : Room 2 X.A) (hg : Gl X x) (hm : X.mg x = some (.ref (ct.ca C))) (hdb : (x == ("__debug__" : Str)) = false := by decide) : SE X ct W (.Call (.Name x p) [] [] pos) (eXb C) := by
  refine ⟨fun pins s σV H Q I ⟨m, ah, σ, hr0, lr, q⟩ => ?_⟩
  refine wpAny_Call_Name_kw (ld_glob I hg hm ?_ hdb)
  refine PySem.W.callWith_K0 I.kIn XI.T.kC ?_
  refine run_exi (us := []) (vs := []) XI hr rfl (by decide) I .nil (fun _ a n => ?_) fun z => absurd rfl z
  obtain ⟨hr2, e2, sa⟩ := hr0.pure (o := L2.exo a (ct.ca C) none) n
  exact q m _ (.ref a) hr2 e2 (.exb upd_same sa)
end
/-! ### an __init__ that calls its base's -/
section
variable {X : Cx} {e : Expr} {es : List Expr} {ta : TA} {x : Str} {p p1 p2 pos : Pos}
/-- B.__init__(self, ..), found at ValueError -/
theorem pe_binit {B : Addr} {pl : Sem Bool} (hg : Gl X x) (hm : X.mg x = some (.ref B)) (h1 : PySem.W.specialIn X.K (.ref B) "__getattribute__" = some (some (.builtin "type.__getattribute__"))) (h2 : PySem.W.readsIn X.K B (.type "type") = true)
    (h3 : PySem.W.findCls X.K (.ref B) (.type "type") "__init__" = some (.val (.builtin "ValueError.__init__"))) (ha : PA X (e :: es) ta)
    (hc : eval (.Call (.Attribute (.Name x p1) "__init__" p2) (e :: es) [] pos) X.env = (do
      let ov ← eval (.Name x p1) X.env
      standAt p2.atName
      let (f, first) ← holding [ov] (getMethod ov "__init__" pl)
      callWith pos f first (backTo pos (starEach (e :: es) X.env)) (backToKw pos (keywordEach [] X.env))) := by rfl)
    (hdb : (x == ("__debug__" : Str)) = false := by decide)
    (he : starEach (e :: es) X.env = (false, eval e X.env) :: starEach es X.env := by rfl) (hpl : (backTo pos (starEach es X.env)).any (·.1) = false := by rfl) :
    PE X (.Call (.Attribute (.Name x p1) "__init__" p2) (e :: es) [] pos) (tVeI X.K ta) := by
  refine ⟨fun pins s σ H Q I h => PySem.W.methodCall_KW (ld_glob I hg hm ?_ hdb) hc⟩
  refine PySem.W.method_cls I.kIn h1 (PySem.W.cls_value I.kIn h2 h3 (by decide +kernel) ?_)
  refine PyProof.Rows.callWith_method1 (thn (ha.run pos pins _ σ H _ (I.tok _) h) fun us s1 ⟨vs, H1, I1, r1, a, C, ws, ev, hl, T, ea, q⟩ => ?_) he hpl
  subst ev
  cases r1 with
  | @cons _ u0 _ ur ra rr =>
    obtain rfl : u0 = Value.ref a := ra
    exact oinit_ok T I1 ea (by rw [← Paired.length rr, sizeLine_eq]; omega) fun s' J => ⟨.non, H1, J, rfl, q⟩
end
section
variable {P : Program} {w : World} {K : PySem.W.Frag} {mg : Str → Option Value} {base : Heap} {CX : CXT} {ct : CT} {x qual slf : Str} {params : Arguments} {scope : Scope} {dvs : List V} {kws : List (Str × V)} {f : Addr} {fd : FuncData} {k : Nat} {p6 : Pos} {C : Nat} {e : Expr} {t : TE}
theorem xi0_ok (F : FunD K x qual params [.Expr e p6] scope dvs kws f fd) (S : FnScope [slf] [slf] scope) (hs : ∀ env : Env, swapsWith e none p6.line env = pure false) (hp : ∀ (cdv : Value) (A : Around) (outer : List Env) (s : Shared) (H : Hp) (E : XK), PE (cxOf CX P w K mg base [slf] qual scope f cdv A outer s H E) e t)
    (ht : ∀ (a : Addr) (H : Hp) (Q : VK), H a = some (L2.exo a (ct.ca C) none) → Q .non H → t (L2.start [slf] [V.ref a]) H Q) : FnOk P w K mg base CX (k + 1) f fd [slf] (spX ct C []) :=
  fun_ok F S (fun vs H Q E ⟨a, ws, h1, h2, _⟩ => by subst h1; simp [h2]) fun cdv A outer s H vs Q E hr ⟨a, ws, e1, e2, e3, e4, _⟩ => by
    match ws, e2, e1 with
    | [], _, e1 =>
      subst e1
      exact ⟨_, pss_one (ps_expr (hp cdv A outer s H E) (hs _)), ht a H _ e3 (e4 rfl)⟩
end
end Mi

/-! Mi29: facts of exception classes by tables; join -/
namespace Mi
open PySem PySem.Spec L2

def isxC (b : Nat) (xs : List Nat) (T : Nat) : List (Nat × Bool) := xs.map fun C => (C, xsub b C T)
def isxB (xs : List Nat) : List (Nat × Bool) := xs.map fun C => (C, true)
theorem lookup_map {xs : List Nat} {g : Nat → Bool} {C : Nat} {b : Bool} (h : (xs.map fun C => (C, g C)).lookup C = some b) : C ∈ xs ∧ g C = b := by
  induction xs with
  | nil => cases h
  | cons x xs ih =>
    by_cases e : C = x
    · subst e
      simp only [List.map_cons, List.lookup, beq_self_eq_true] at h
      cases h
      exact ⟨List.mem_cons_self, rfl⟩
    · have z : (C == x) = false := beq_eq_false_iff_ne.mpr e
      simp only [List.map_cons, List.lookup, z] at h
      exact ⟨List.mem_cons_of_mem _ (ih h).1, (ih h).2⟩
theorem xAll_ok {K : PySem.W.Frag} {ct : CT} {cn : List Str} {xs : List Nat} {C : Nat} (hca : ∀ C, ct.ca C = cga K cn C) (h : xAllB K cn xs = true) (hC : C ∈ xs) : ExcK K (ct.ca C) := by
  rw [hca]
  exact excKB_ok (List.all_eq_true.mp h C hC)
theorem isxC_ok {K : PySem.W.Frag} {ct : CT} {cn : List Str} {b : Nat} {xs ts : List Nat} {T : Nat} (hca : ∀ C, ct.ca C = cga K cn C) (h1 : xAllB K cn xs = true) (h2 : kitXB K cn b xs ts = true) (hT : T ∈ ts) (C : Nat) (r : Bool) (h : (isxC b xs T).lookup C = some r) :
    ExcK K (ct.ca C) ∧ PySem.W.kitOne K (.ref (ct.ca C)) (.ref (ct.ca T)) = some r := by
  obtain ⟨hm, e⟩ := lookup_map h
  subst e
  refine ⟨xAll_ok hca h1 hm, ?_⟩
  rw [hca, hca]
  exact kitA_ok (List.all_eq_true.mp (List.all_eq_true.mp h2 C hm) T hT)
theorem isxB_ok {K : PySem.W.Frag} {ct : CT} {cn : List Str} {xs : List Nat} {ts : List String} {T : String} (hca : ∀ C, ct.ca C = cga K cn C) (h1 : xAllB K cn xs = true) (h2 : kitYB K cn xs ts = true) (hT : T ∈ ts) (C : Nat) (r : Bool) (h : (isxB xs).lookup C = some r) :
    ExcK K (ct.ca C) ∧ PySem.W.kitOne K (.ref (ct.ca C)) (.type T) = some r := by
  obtain ⟨hm, e⟩ := lookup_map h
  subst e
  refine ⟨xAll_ok hca h1 hm, ?_⟩
  rw [hca]
  exact kitA_ok (List.all_eq_true.mp (List.all_eq_true.mp h2 C hm) T hT)
theorem bare_ok {K : PySem.W.Frag} {ct : CT} {cn : List Str} {xs : List Nat} {C : Nat} (hca : ∀ C, ct.ca C = cga K cn C) (h : bareAllB K cn xs = true) (hC : C ∈ xs) : PySem.W.excIn K (ct.ca C) He.veBase "ValueError.__new__" = true ∧ PySem.W.keepIn K (.ref (ct.ca C)) = true := by
  rw [hca]
  exact Bool.and_eq_true_iff.mp (List.all_eq_true.mp h C hC)
theorem binit_ok {K : PySem.W.Frag} {B : Addr} (h : binitB K B = true) : PySem.W.specialIn K (.ref B) "__getattribute__" = some (some (.builtin "type.__getattribute__")) ∧ PySem.W.readsIn K B (.type "type") = true ∧ PySem.W.findCls K (.ref B) (.type "type") "__init__" = some (.val (.builtin "ValueError.__init__")) := by
  unfold binitB at h
  obtain ⟨h1, h⟩ := Bool.and_eq_true_iff.mp h
  obtain ⟨h2, h3⟩ := Bool.and_eq_true_iff.mp h
  refine ⟨He.eqO_ok h1, h2, ?_⟩
  split at h3
  · rename_i n e
    rw [e, beq_iff_eq.mp h3]
  · cases h3

theorem ro2 {n : Nat} {A : Around} (r : Room (2 * n + 2) A) : Room 2 A := r.mono (by omega)

/-! ### x.join(y) -/
def strsOf : List D → Option (List Str)
  | [] => some []
  | .str a :: r => (strsOf r).map (a :: ·)
  | _ => none
def eJo (f g : SemE) : SemE := fun σ h => rb (f σ h) fun x h1 => match x with
  | .d (.str a) => rb (g σ h1) fun y h2 => match seqOf y h2 with
    | some xs => (match strsOf xs with
      | some ys => if (ys.map (·.length)).sum + ys.length * a.length ≤ 16777216 then .ok (.d (.str (Txt.join a ys))) h2 else .bad
      | none => .bad)
    | none => .bad
  | _ => .bad
theorem strsOf_drs {K : PySem.W.Frag} {ct : CT} {S : Addr → Prop} {H : Hp} : ∀ {xs : List D} {vs : List V} {ys : List Str}, strsOf xs = some ys → DRs K ct S H xs vs → vs = ys.map V.str
  | [], _, _, e, .nil => by cases e; rfl
  | x :: xs, _, ys, e, .cons r t => by
    cases x with
    | str a =>
      simp only [strsOf, Option.map_eq_some_iff] at e
      obtain ⟨zs, e1, e2⟩ := e
      subst e2
      cases r
      rw [List.map_cons, ← strsOf_drs e1 t]
    | _ => cases e
theorem se_join {X : Cx} {ct : CT} {W : WX} {o e : Expr} {f g : SemE} {apos pos : Pos} (ho : SE X ct W o f) (he : SE X ct W e g) (hs : starEach [e] X.env = [(false, eval e X.env)] := by rfl) (hbase : attributeBase o "join" X.env (eval o X.env) = eval o X.env := by rfl)
    (hline : (apos.endLine == pos.line) = true := by rfl) : SE X ct W (.Call (.Attribute o "join" apos) [e] [] pos) (eJo f g) :=
  PE.imp (pe_join ho he hs hbase hline) fun σV H Q ⟨m, ah, σ, hr, lr, p⟩ => ⟨m, ah, σ, hr, lr, (Po.bind (R := VlR X.K ct) p).imp fun v H1 ⟨m1, h1, x, hr1, e1, r1, p1⟩ => by
    dsimp only at p1
    split at p1
    · rename_i a
      cases r1
      refine ⟨⟨a, rfl⟩, m1, h1, σ, hr1, lr.ext e1, (Po.bind (R := VlR X.K ct) p1).imp fun u H2 ⟨m2, h2, y, hr2, e2, r2, p2⟩ => ?_⟩
      dsimp only at p2
      cases q : seqOf y h2 with
      | none => rw [q] at p2; exact p2.elim
      | some xs =>
        rw [q] at p2
        dsimp only at p2
        cases q2 : strsOf xs with
        | none => rw [q2] at p2; exact p2.elim
        | some ys =>
          rw [q2] at p2
          dsimp only at p2
          split at p2
          · rename_i hb
            obtain ⟨b, vs, rfl, h3, t⟩ := seq_of hr2 q r2
            rw [strsOf_drs q2 t] at h3
            exact ⟨a, b, ys, rfl, rfl, h3, hb, p2 m2 H2 _ hr2 (Ext.refl _ _ _) (.str _)⟩
          · exact p2.elim
    · exact p1.elim⟩
end Mi

/-! Mi30: the new meanings, applied -/
namespace Mi
open PySem PySem.Spec L2
section
variable {σ : Lo} {h : Hs} {f g : SemE} {fs : SemA}
@[simp] theorem ap_jo : eJo f g σ h = rb (f σ h) fun x h1 => match x with
  | .d (.str a) => rb (g σ h1) fun y h2 => match seqOf y h2 with
    | some xs => (match strsOf xs with
      | some ys => if (ys.map (·.length)).sum + ys.length * a.length ≤ 16777216 then .ok (.d (.str (Txt.join a ys))) h2 else .bad
      | none => .bad)
    | none => .bad
  | _ => .bad := rfl
@[simp] theorem ap_xf (ok : Nat → Bool) (n : Nat) : eXf ok n f σ h = rb (f σ h) fun x h1 => match x with
  | .d (.exc C fs) => if ok C = true then (match fs.lookup n with
    | some d => .ok (.d d) h1
    | none => .bad) else .bad
  | _ => .bad := rfl
@[simp] theorem ap_isx (l : List (Nat × Bool)) : eIsx l f σ h = rb (f σ h) fun x h1 => match x with
  | .d (.exc C _) => (match l.lookup C with
    | some b => .ok (.d (.bl b)) h1
    | none => .bad)
  | _ => .bad := rfl
@[simp] theorem ap_xb (C : Nat) : eXb C σ h = .ok (.d (.exc C [])) h := rfl
@[simp] theorem ap_xi (C : Nat) (ks : List Nat) : eXi C ks fs σ h = rb (fs σ h) fun xs h1 => match toDs xs h1 with
  | some (ds, h2) => if ds.length = ks.length then .ok (.d (.exc C (ks.zip ds).reverse)) h2 else .bad
  | none => .bad := rfl
end
end Mi

/-! Mi31: sorted of lists of data, < of data, sum, max of a list -/
namespace Mi
open PySem PySem.Spec L2

def ltD (x y : D) : Bool := PySem.W.dataLt x.pd y.pd
def leD (x y : D) : Bool := !ltD y x
def sortD (ds : List D) : List D := ds.mergeSort leD
/-- a tuple with an item at least -/
def tup1 : D → Bool
  | .tup (_ :: _) => true
  | _ => false
def plain0 : D → Bool
  | .bl _ => true
  | .int _ => true
  | .str _ => true
  | .lv _ => true
  | _ => false
def sortOk (ds : List D) : Bool := (ds.all shp && (ds.all fun a => ds.all fun b => PySem.W.alike a.pd b.pd)) && ((ds.all tup1 || ds.all plain0) && Nat.ble ds.length sizeLine)
def nSorted : OpN := fun xs h => match xs with
  | [x] => (match lstOf x h with
    | some ds => if sortOk ds = true then some (.d (.lv (sortD ds)), h) else none
    | none => none)
  | _ => none
theorem tup1_pd {d : D} (h : tup1 d = true) : ∃ x r, d.pd = .tuple (x :: r) := by
  unfold tup1 at h
  split at h
  · exact ⟨_, _, by rw [D.pd, D.pds]⟩
  · cases h
theorem plain0_pd {d : D} (h : plain0 d = true) : d.pd ≠ .none ∧ ∀ xs, d.pd ≠ .tuple xs := by
  unfold plain0 at h
  split at h
  · exact ⟨by simp [D.pd], by simp [D.pd]⟩
  · exact ⟨by simp [D.pd], by simp [D.pd]⟩
  · exact ⟨by simp [D.pd], by simp [D.pd]⟩
  · exact ⟨by simp [D.pd], by simp [D.pd]⟩
  · cases h
section
variable {X : Cx} {ct : CT}
open PySem.W in
theorem each_of {pins : List (Addr × Obj)} {σ : L2.St} {H : Hp} {s : Shared} {S : Addr → Prop} (I : Inv X pins σ H s) : ∀ {ds : List D} {vs : List V} {us : List Value}, DRs X.K ct S H ds vs → Vals vs us → (∀ d ∈ ds, shp d = true) →
    EachIs (fun (u : Value) (d : D) => ∃ v : V, RelV v u ∧ DR X.K ct S H d v) us ds ∧ EachIs (fun (u : Value) (d : D) => ∃ as, Reads s.heap u d.pd as) us ds
  | _, _, _, .nil, .nil, _ => ⟨.nil, .nil⟩
  | _, _, _, .cons r t, .cons q p, h => by
    obtain ⟨a, b⟩ := each_of I t p fun d hd => h d (List.mem_cons_of_mem _ hd)
    obtain ⟨as, rd⟩ := Dp.reads I _ _ _ (dp_of r (SeqAt.canLay_of_shaped (h _ List.mem_cons_self))) q
    exact ⟨.cons ⟨_, q, r⟩ a, .cons ⟨as, rd⟩ b⟩
open PySem.W in
theorem each_back {K : PySem.W.Frag} {S : Addr → Prop} {H : Hp} : ∀ {us : List Value} {ds : List D}, EachIs (fun (u : Value) (d : D) => ∃ v : V, RelV v u ∧ DR K ct S H d v) us ds → ∃ vs : List V, Vals vs us ∧ DRs K ct S H ds vs
  | _, _, .nil => ⟨[], .nil, .nil⟩
  | _, _, .cons ⟨v, q, r⟩ t => by
    obtain ⟨vs, a, b⟩ := each_back t
    exact ⟨v :: vs, .cons q a, .cons r b⟩
theorem sorted_sound {k : Nat} (hr : Room k X.A) : CallR X (.builtin "sorted") (rN X.K ct nSorted) := by
  intro pins s σ H vs us Q I rv ⟨m, ah, xs, h1, rs, p⟩
  unfold nSorted at p
  split at p
  · cases rs with
    | cons r t =>
      cases t
      split at p
      · rename_i ds e
        split at p
        · rename_i hk
          unfold sortOk at hk
          simp only [Bool.and_eq_true, Bool.or_eq_true, List.all_eq_true] at hk
          obtain ⟨⟨k1, k2⟩, k3, k4⟩ := hk
          obtain ⟨a, ws, rfl, ha, t2⟩ := lst_of h1 e r
          obtain ⟨u, rfl, ru⟩ := rv.one
          obtain rfl : u = Value.ref a := ru
          obtain ⟨its, rit, hl, hz⟩ := I.list (SqL.of (K := X.K) ha)
          obtain ⟨e1, e2⟩ := each_of I t2 rit k1
          have un := hr.un
          refine PySem.W.sorted_data (enc := D.pd) hl.isList e1 e2 (fun d hd d' hd' => ?_) ?_ (Nat.le_of_ble_eq_true k4) (fun d hd => ?_) fun out hlen ho => ?_
          · obtain ⟨x, hx, rfl⟩ := List.mem_map.mp hd
            obtain ⟨y, hy, rfl⟩ := List.mem_map.mp hd'
            exact k2 x hx y hy
          · rcases k3 with k3 | k3
            · exact .inl fun d hd => by
                obtain ⟨x, hx, rfl⟩ := List.mem_map.mp hd
                exact tup1_pd (k3 x hx)
            · exact .inr fun d hd => by
                obtain ⟨x, hx, rfl⟩ := List.mem_map.mp hd
                exact plain0_pd (k3 x hx)
          · have dp := SeqAt.depth_of_shaped (k1 d hd)
            omega
          · have eo : ds.mergeSort (PySem.W.dataLe false D.pd) = sortD ds := rfl
            rw [eo] at ho
            obtain ⟨vs', q1, q2⟩ := each_back ho
            obtain ⟨n, hn⟩ := PyProof.Rows.sortedAll_at s.heap its out.toArray
            have hd : s.heap.objs.size ≤ s.heap.objs.size + 1 := Nat.le_succ _
            have hnone := I.hok.fresh hd
            refine ⟨.ref (s.heap.objs.size + 1), upd H (s.heap.objs.size + 1) (.lst vs'), I.laid (t' := s.toks) (fun b o q => PyProof.Rows.sortedAll_old q) hd ⟨?_, out, n, q1, hn⟩, rfl, ?_⟩
            · rw [← q2.length, sortD, List.length_mergeSort]
              exact Nat.le_of_ble_eq_true k4
            · obtain ⟨hr2, ex2, sa⟩ := h1.pure (o := .lst vs') hnone
              exact p m _ _ hr2 ex2 (new_lv q2 ex2.kp sa)
        · exact p.elim
      · exact p.elim
  · exact p.elim
end
end Mi

/-! Mi32: < of data, sum, max of a list, a dict begun with one tuple key -/
namespace Mi
open PySem PySem.Spec L2

def oLtD : Op2 := fun x y h => match viewD x h, viewD y h with
  | some a, some b => if (shp a && shp b) && (PySem.W.alike a.pd b.pd && !isNon (.d a)) then some (.d (.bl (ltD a b)), h) else none
  | _, _ => none
section
variable {X : Cx} {ct : CT} {W : WX}
theorem isNon_pd {a : D} (h : (!isNon (.d a)) = true) : a.pd ≠ .none := by
  cases a <;> simp [D.pd, isNon] at h ⊢
theorem ltD_sound {k : Nat} (hr : Room k X.A) : OpR X (compareOp .Lt) (rOp X.K ct oLtD) := by
  intro pins s σ H x y u1 u2 Q I q1 q2 ⟨m, ah, a, b, h1, ra, rb, p⟩
  unfold oLtD at p
  split at p
  · rename_i d e va vb
    split at p
    · rename_i hc
      simp only [Bool.and_eq_true] at hc
      obtain ⟨⟨s1, s2⟩, s3, s4⟩ := hc
      obtain ⟨as, rd1⟩ := Dp.reads I _ _ _ (view_dp h1 va ra s1) q1
      obtain ⟨bs, rd2⟩ := Dp.reads I _ _ _ (view_dp h1 vb rb s2) q2
      have dp := SeqAt.depth_of_shaped s1
      have un := hr.un
      exact PySem.W.rcLt_alike _ _ X.A s _ _ as bs rd1 rd2 s3 (isNon_pd s4) (by omega) _ _ _ _ ⟨.bl _, H, I, rfl, p.same h1 (.bl _)⟩
    · exact p.elim
  · exact p.elim
end
def intsOf : List D → Option (List Int)
  | [] => some []
  | .int i :: r => (intsOf r).map (i :: ·)
  | _ => none
theorem intsOf_drs {K : PySem.W.Frag} {ct : CT} {S : Addr → Prop} {H : Hp} : ∀ {xs : List D} {vs : List V} {ys : List Int}, intsOf xs = some ys → DRs K ct S H xs vs → vs = ys.map V.int
  | [], _, _, e, .nil => by cases e; rfl
  | x :: xs, _, ys, e, .cons r t => by
    cases x with
    | int a =>
      simp only [intsOf, Option.map_eq_some_iff] at e
      obtain ⟨zs, e1, e2⟩ := e
      subst e2
      cases r
      rw [List.map_cons, ← intsOf_drs e1 t]
    | _ => cases e
@[simp] theorem intsOf_map : ∀ l : List Int, intsOf (l.map D.int) = some l
  | [] => rfl
  | x :: l => by rw [List.map_cons, intsOf, intsOf_map l]; rfl
def maxI : List Int → Int
  | [] => 0
  | [x] => x
  | x :: r => max x (maxI r)
theorem maxI_mem : ∀ {l : List Int}, l ≠ [] → maxI l ∈ l
  | [], h => absurd rfl h
  | [x], _ => by simp [maxI]
  | x :: y :: r, _ => by
    have ih := maxI_mem (l := y :: r) (by simp)
    show max x (maxI (y :: r)) ∈ _
    by_cases h : x ≤ maxI (y :: r)
    · rw [Int.max_eq_right h]; exact List.mem_cons_of_mem _ ih
    · rw [Int.max_eq_left (by omega)]; exact List.mem_cons_self
theorem maxI_le : ∀ {l : List Int} {y : Int}, y ∈ l → y ≤ maxI l
  | [x], y, h => by
    have := List.mem_singleton.mp h
    subst this
    exact Int.le_refl _
  | x :: z :: r, y, h => by
    show y ≤ max x (maxI (z :: r))
    rcases List.mem_cons.mp h with rfl | h
    · exact Int.le_max_left _ _
    · exact Int.le_trans (maxI_le h) (Int.le_max_right _ _)
def nSum : OpN := fun xs h => match xs with
  | [x] => (match lstOf x h with
    | some ds => (intsOf ds).map fun l => (.d (.int l.sum), h)
    | none => none)
  | _ => none
def nMaxL : OpN := fun xs h => match xs with
  | [x] => (match lstOf x h with
    | some (d :: ds) => (intsOf (d :: ds)).map fun l => (.d (.int (maxI l)), h)
    | _ => none)
  | _ => none
section
variable {X : Cx} {ct : CT} {W : WX}
theorem sum_sound (hc : X.calm = true) : CallR X (.builtin "sum") (rN X.K ct nSum) := CallR.imp (cr_sum hc) fun vs H Q ⟨m, ah, xs, h1, rs, p⟩ => by
  unfold nSum at p
  split at p
  · cases rs with
    | cons r t =>
      cases t
      split at p
      · rename_i ds e
        obtain ⟨a, ws, rfl, ha, t2⟩ := lst_of h1 e r
        cases q : intsOf ds with
        | none => rw [q] at p; exact p.elim
        | some l =>
          rw [q] at p
          rw [intsOf_drs q t2] at ha
          exact ⟨a, l, rfl, SqL.of ha, p.same h1 (.int _)⟩
      · exact p.elim
  · exact p.elim
theorem maxL_sound (hc : X.calm = true) : CallR X (.builtin "max") (rN X.K ct nMaxL) := CallR.imp (cr_max hc) fun vs H Q ⟨m, ah, xs, h1, rs, p⟩ => by
  unfold nMaxL at p
  split at p
  · cases rs with
    | cons r t =>
      cases t
      split at p
      · rename_i d ds e
        obtain ⟨a, ws, rfl, ha, t2⟩ := lst_of h1 e r
        cases q : intsOf (d :: ds) with
        | none => rw [q] at p; exact p.elim
        | some l =>
          rw [q] at p
          have e3 := intsOf_drs q t2
          rw [e3] at ha
          have hl : l ≠ [] := by
            intro z
            subst z
            have := t2.length
            rw [e3] at this
            simp at this
          refine ⟨a, l, rfl, SqL.of ha, List.length_pos_iff.mpr hl, fun m' h2 h3 => ?_⟩
          have e4 : m' = maxI l := Int.le_antisymm (maxI_le h2) (h3 _ (maxI_mem hl))
          rw [e4]
          exact p.same h1 (.int _)
      · exact p.elim
  · exact p.elim
end

/-! ### {k: v}, k a tuple -/
def eDt1 (f g : SemE) : SemE := fun σ h => rb (f σ (h ++ [.dt []])) fun x h1 => rb (g σ h1) fun y h2 => match toD y h2, x with
  | some (v, h3), .d key => (match keyT key with
    | some k => (match h3[h.length]? with
      | some (.dt []) => .ok (.r h.length) (h3.set h.length (.dt [(k, v)]))
      | _ => .bad)
    | none => .bad)
  | _, _ => .bad
section
variable {X : Cx} {ct : CT} {W : WX} {pos : Pos} {ke ve : Expr} {f g : SemE}
theorem se_dt1 (hu : X.A.units + 65 < cLine) (hk : SE X ct W ke f) (hv : SE X ct W ve g) : SE X ct W (.Dict [some ke] [ve] pos) (eDt1 f g) := by
  refine ⟨fun pins s σV H Q I ⟨m, ah, σ, hr, lr, p⟩ => ?_⟩
  have hn := I.hok.fresh (Nat.le_refl s.heap.objs.size)
  have I1 := I.laid (a := s.heap.objs.size) (o := .dT []) (h' := s.heap.push { cls := .type "dict", data := .dict #[] }) (t' := s.toks) (fun _ _ q => Heap.get?_push_of_some _ q) (Nat.le_refl _) (dt_empty s.heap I.big)
  obtain ⟨hr1, e1⟩ := hr.alloc hn (OR.dt (ct := ct) .nil)
  have at1 : (m ++ [s.heap.objs.size])[ah.length]? = some s.heap.objs.size := at_new hr
  have hl1 : ([some ke] : List (Option Expr)).length = [ve].length := rfl
  have ha1 : ([some ke] : List (Option Expr)).all (·.isSome) = true := rfl
  have hp := pairTrees_length [some ke] [ve] X.env pos ha1 hl1
  have hne : pairTrees [some ke] [ve] X.env pos ≠ [] := fun z => by rw [z] at hp; cases hp
  rw [arm_eval_Dict, zip_pairTrees [some ke] [ve] X.env pos ha1 hl1, dictDisplay_pairs _ hne (by rw [hp]; show 1 < 17; omega)]
  refine wpAny_bind (wpAny_standAt (wpAny_bind (wpAny_subDictH (knd := tupleKind (mixKind X.prog X.w)) (Q := fun d s' => wpAny (model X.prog X.w) X.A (pure (Value.ref d)) _ _ s') (show X.A.units < cLine by omega) (by rw [hp]; show 1 ≤ 15; omega)
    (pairTrees_cons_walk (thn (hk.run pins _ σV _ _ I1 ⟨_, _, σ, hr1, lr.ext e1, Po.bind (R := VlR X.K ct) (Po.ext p e1)⟩) fun u s1 ⟨y, H1, I2, ry, m2, h2, x, hr2, e2, r2, p2⟩ =>
      thn (hv.run pins s1 σV H1 _ I2 ⟨m2, h2, σ, hr2, (lr.ext e1).ext e2, Po.bind (R := VlR X.K ct) p2⟩) fun u2 s2 ⟨z, H2, I3, rz, m3, h3, w, hr3, e3, r3, p3⟩ => pairTrees_nil_walk ?_)))))
  dsimp only at p3
  cases q1 : toD w h3 with
  | none => rw [q1] at p3; exact p3.elim
  | some zz =>
    obtain ⟨d, h4⟩ := zz
    rw [q1] at p3
    cases x with
    | r _ => exact p3.elim
    | d key =>
    dsimp only at p3
    cases q2 : keyT key with
    | none => rw [q2] at p3; exact p3.elim
    | some k =>
    rw [q2] at p3
    dsimp only at p3
    split at p3
    · rename_i hk3
      obtain ⟨hr4, e4, r4⟩ := toD_sound hr3 q1 r3
      have at4 := (e2.trans (e3.trans e4)).at at1
      obtain ⟨ob, g1, g2⟩ := hr4.ob _ _ _ at4 hk3
      have e5 : ob = .dT [] := by
        cases g2 with
        | dt t => cases t; rfl
      subst e5
      unfold keyT at q2
      split at q2
      · rename_i ds
        cases r2 with
        | @tup b _ vs gk tt =>
          have ew := Mi.keys_of tt q2
          subst ew
          have gk2 := ((e3.trans e4).kp b _ gk.1 gk.2).1
          have gk3 := (e3.trans e4).kp b _ gk.1 gk.2
          obtain rfl : u = Value.ref b := ry
          obtain ⟨_, hd, xs, rel, dd⟩ := dt_of I3.hok g1
          cases rel
          refine ⟨[(k, b, u2)], ⟨rfl, rfl, L2.key_of I3.hok gk2, trivial⟩, dd, fun h' tk dd' hs => wpAny_pure ?_⟩
          obtain ⟨q, es, ep, hq, f2, f3, f4, f6, f5⟩ := dd'
          obtain ⟨hr6, e6⟩ := hr4.write at4 hk3 (by simp) (OR.dt (.cons (k := k) r4 .nil))
          refine ⟨.ref s.heap.objs.size, upd H2 s.heap.objs.size (.dT [(k, z)]), d_write (t' := tk) I3 (by rw [g1]; exact True.intro) hs ⟨q, hq⟩ ⟨by show 1 ≤ sizeLine; rw [sizeLine_eq]; omega, hd, [(k, b, u2)], .cons ⟨rfl, ?_, rz⟩ .nil, q, es, ep, hq, f2, f3, f4, f5⟩, rfl, ?_⟩
          · rw [upd_ne (ne_of gk2 g1 (fun z => nomatch z))]
            exact gk2
          · exact p3 m3 _ _ hr6 (e4.trans e6) ⟨_, at4, rfl⟩
      · cases q2
    · exact p3.elim
end
end Mi

/-! Mi33: applied meanings of Mi32 -/
namespace Mi
open PySem PySem.Spec L2
section
variable {σ : Lo} {h : Hs} {f g : SemE}
@[simp] theorem ap_dt1 : eDt1 f g σ h = rb (f σ (h ++ [.dt []])) fun x h1 => rb (g σ h1) fun y h2 => match toD y h2, x with
  | some (v, h3), .d key => (match keyT key with
    | some k => (match h3[h.length]? with
      | some (.dt []) => .ok (.r h.length) (h3.set h.length (.dt [(k, v)]))
      | _ => .bad)
    | none => .bad)
  | _, _ => .bad := rfl
@[simp] theorem n_sumL (l : List Int) (h : Hs) : nSum [.d (.lv (l.map D.int))] h = some (.d (.int l.sum), h) := by
  simp [nSum]
@[simp] theorem n_maxL (x : Int) (l : List Int) (h : Hs) : nMaxL [.d (.lv ((x :: l).map D.int))] h = some (.d (.int (maxI (x :: l))), h) := by
  simp only [nMaxL, lstOf_lv, List.map_cons, intsOf, intsOf_map, Option.map_some]
end
end Mi

/-! Mi34: lists added into a changeable list -/
namespace Mi
open PySem PySem.Spec L2

def oAddM : Op2 := fun x y h => match lstOf x h, lstOf y h with
  | some a, some b => if a.length + b.length ≤ sizeLine then some (.r h.length, h ++ [.lst (a ++ b)]) else none
  | _, _ => none
section
variable {X : Cx} {ct : CT} {W : WX}
theorem addM_sound : OpR X (binaryOp .Add) (rOp X.K ct oAddM) := by
  refine OpR.imp op_cat fun x y H Q ⟨m, ah, a, b, hr, ra, rb, p⟩ => ?_
  unfold oAddM at p
  split at p
  · rename_i xs ys e1 e2
    obtain ⟨l1, v1, rfl, h1, r1⟩ := lst_of hr e1 ra
    obtain ⟨l2, v2, rfl, h2, r2⟩ := lst_of hr e2 rb
    split at p
    · rename_i hc
      refine ⟨l1, l2, v1, v2, rfl, rfl, h1, h2, by rw [← r1.length, ← r2.length]; exact hc, fun a ha => ?_⟩
      obtain ⟨hr3, ex3⟩ := hr.alloc ha (OR.lst (r1.append r2))
      exact p _ _ _ hr3 ex3 ⟨a, at_new hr, rfl⟩
    · exact p.elim
  · exact p.elim
end
theorem ap_addM {x y : Vl} {h : Hs} {a b : List D} (e1 : lstOf x h = some a) (e2 : lstOf y h = some b) (hz : a.length + b.length ≤ sizeLine) : oAddM x y h = some (.r h.length, h ++ [.lst (a ++ b)]) := by
  unfold oAddM
  rw [e1, e2]
  dsimp only
  rw [if_pos hz]
end Mi

/-! Mi35: any datum in a tuple -/
namespace Mi
open PySem PySem.Spec L2

def oInU (neg : Bool) : Op2 := fun x y h => match viewD x h, y with
  | some a, .d (.tup ds) => if shp a && shp (.tup ds) then some (.d (.bl (if neg = true then !(ds.any fun z => PyData.eqv z.pd a.pd) else ds.any fun z => PyData.eqv z.pd a.pd)), h) else none
  | _, _ => none
section
variable {X : Cx} {ct : CT} {W : WX}
theorem inU_sound {k : Nat} (hr : Room k X.A) : OpR X (compareOp .In) (rOp X.K ct (oInU false)) := by
  intro pins s σ H x y u1 u2 Q I q1 q2 ⟨m, ah, a, b, h1, ra, rb, p⟩
  unfold oInU at p
  split at p
  · rename_i d ds va
    split at p
    · rename_i hc
      simp only [Bool.and_eq_true] at hc
      obtain ⟨s1, s2⟩ := hc
      obtain ⟨as, rd1⟩ := Dp.reads I _ _ _ (view_dp h1 va ra s1) q1
      obtain ⟨bs, rd2⟩ := Dp.reads I _ _ _ (view_dp (d := .tup ds) h1 rfl rb s2) q2
      rw [D.pd] at rd2
      unfold shp at s1 s2
      rw [D.pd] at s2
      have un := hr.un
      refine SeqAt.in_tuple_reads rd2 rd1 (SeqAt.canLay_of_shaped s2) (SeqAt.canLay_of_shaped s1) (by have dp := SeqAt.depth_of_shaped s1; omega) ⟨.bl _, H, I, rfl, ?_⟩
      rw [any_pds]
      exact p.same h1 (.bl _)
    · exact p.elim
  · exact p.elim
theorem notInU_sound {k : Nat} (hr : Room k X.A) : OpR X (compareOp .NotIn) (rOp X.K ct (oInU true)) := by
  intro pins s σ H x y u1 u2 Q I q1 q2 ⟨m, ah, a, b, h1, ra, rb, p⟩
  unfold oInU at p
  split at p
  · rename_i d ds va
    split at p
    · rename_i hc
      simp only [Bool.and_eq_true] at hc
      obtain ⟨s1, s2⟩ := hc
      obtain ⟨as, rd1⟩ := Dp.reads I _ _ _ (view_dp h1 va ra s1) q1
      obtain ⟨bs, rd2⟩ := Dp.reads I _ _ _ (view_dp (d := .tup ds) h1 rfl rb s2) q2
      rw [D.pd] at rd2
      unfold shp at s1 s2
      rw [D.pd] at s2
      have un := hr.un
      refine SeqAt.notIn_tuple_reads rd2 rd1 (SeqAt.canLay_of_shaped s2) (SeqAt.canLay_of_shaped s1) (by have dp := SeqAt.depth_of_shaped s1; omega) ⟨.bl _, H, I, rfl, ?_⟩
      rw [any_pds]
      exact p.same h1 (.bl _)
    · exact p.elim
  · exact p.elim
end
end Mi

/-! Mi36: x.pop(), list(range(a, b)), generator defs and list(g(..)) -/
namespace Mi
open PySem PySem.Spec L2

/-! ### x.pop() -/
def eLp (f : SemE) : SemE := fun σ h => rb (f σ h) fun x h1 => match x with
  | .r k => (match h1[k]? with
    | some (.lst xs) => (match xs[xs.length - 1]? with
      | some d => .ok (.d d) (h1.set k (.lst xs.dropLast))
      | none => .bad)
    | _ => .bad)
  | _ => .bad
section
variable {X : Cx} {ct : CT} {W : WX} {pos p apos : Pos} {e o : Expr} {es : List Expr} {f g : SemE} {fs : SemA}
theorem se_pop {cpos : Pos} (he : SE X ct W o f) (hbase : attributeBase o "pop" X.env (eval o X.env) = eval o X.env := by rfl) (hline : (apos.endLine == cpos.line) = true := by rfl) :
    SE X ct W (.Call (.Attribute o "pop" apos) [] [] cpos) (eLp f) :=
  PE.imp (pe_bm0 PySem.F.plainAttrs_list PySem.F.slot_list_pop PySem.F.type_list_pop (r := rPop) mt_pop he hbase hline) fun σV H Q ⟨m, ah, σ, hr, lr, p⟩ => by
    refine ⟨m, ah, σ, hr, lr, (Po.bind (R := VlR X.K ct) p).imp fun v H1 ⟨m1, h1, x, hr1, e1, r1, p1⟩ => ?_⟩
    dsimp only at p1
    split at p1
    · rename_i k
      split at p1
      · rename_i xs hk
        split at p1
        · rename_i d hd
          obtain ⟨a, vs, ha, rfl, g1, g2⟩ := hr1.lstK hk r1
          obtain ⟨y, hy, ry⟩ := g2.get hd
          obtain ⟨hr4, e4⟩ := hr1.write ha hk (by simp) (OR.lst g2.dropLast)
          exact ⟨.inl ⟨rfl, vs, .of g1⟩, a, vs, y, rfl, rfl, g1, by rw [← g2.length]; exact hy, p1 m1 _ _ hr4 e4 (ry.mono e4.kp)⟩
        · exact p1.elim
      · exact p1.elim
    · exact p1.elim

/-! ### list(range(a, b)) -/
def eLR (f g : SemE) : SemE := fun σ h => rb (f σ h) fun x h1 => rb (g σ h1) fun y h2 => match x, y with
  | .d (.int i), .d (.int j) => if smR i = true ∧ smR j = true then .ok (.d (.lv (rngD i (j - i).toNat))) h2 else .bad
  | _, _ => .bad
theorem rngD_drs2 {K : PySem.W.Frag} {S : Addr → Prop} {H : Hp} {i j : Int} : DRs K ct S H (rngD i (j - i).toNat) (rgV i j) := by
  unfold rngD rgV
  generalize List.range (j - i).toNat = l
  induction l with
  | nil => exact .nil
  | cons k l ih => exact .cons (.int _) ih
theorem se_lstR {p2 pos2 : Pos} {b : Expr} (hc : X.calm = true) (hg : Gl X "list") (hm : X.mg "list" = none) (hg2 : Gl X "range") (hm2 : X.mg "range" = none) (he : SE X ct W e f) (hb : SE X ct W b g)
    (na : starEach [Expr.Call (.Name "range" p2) [e, b] [] pos2] X.env = (false, eval (.Call (.Name "range" p2) [e, b] [] pos2) X.env) :: starEach [] X.env := by rfl) (na2 : starEach [e, b] X.env = (false, eval e X.env) :: starEach [b] X.env := by rfl)
    (nb : starEach [b] X.env = (false, eval b X.env) :: starEach [] X.env := by rfl) (hp : (backTo pos2 (starEach [b] X.env)).any (·.1) = false := by rfl) :
    SE X ct W (.Call (.Name "list" p) [.Call (.Name "range" p2) [e, b] [] pos2] [] pos) (eLR f g) :=
  PE.imp (pe_listRg hc hg hm (prg_2 hg2 hm2 he hb na2 nb hp) na) fun σV H Q ⟨m, ah, σ, hr, lr, p⟩ => ⟨m, ah, σ, hr, lr, (Po.bind (R := VlR X.K ct) p).imp fun v H1 ⟨m1, h1, x, hr1, e1, r1, p1⟩ =>
    ⟨m1, h1, σ, hr1, lr.ext e1, (Po.bind (R := VlR X.K ct) p1).imp fun v2 H2 ⟨m2, h2, y, hr2, e2, r2, p2⟩ => by
      dsimp only at p2
      split at p2
      · rename_i i j _
        cases r1
        cases r2
        split at p2
        · rename_i hn
          have n1 := smR_ok hn.1
          have n2 := smR_ok hn.2
          refine ⟨_, _, rfl, rfl, RgOk.of_le n1.1 n2.2 n1.2 n2.1, fun a ha => ?_⟩
          exact p2 m2 _ _ (hr2.pure (o := .lst (rgV i j)) ha).1 (hr2.pure (o := .lst (rgV i j)) ha).2.1 (new_lv rngD_drs2 (hr2.pure (o := .lst (rgV i j)) ha).2.1.kp (hr2.freshS ha))
        · exact p2.elim
      · exact p2.elim⟩⟩
end

/-! ### a generator's body -/
inductive RG where
  | ok (f : Fl) (σ : Lo) (h : Hs) (ys : List D) | bad
abbrev SemGn := Lo → Hs → List D → RG
def PoFG (K : PySem.W.Frag) (ct : CT) (D : GEnds) (f : Fl) (ys : List V) (m : List Addr) (ah : Hs) (H : Hp) (σV : L2.St) : Prop := match f with
  | .nx => D.nx ys σV H
  | .brk => D.bk ys σV H
  | .cnt => D.ct ys σV H
  | .ret v => ∀ u, VlR K ct m ah H v u → D.rt ys u H
def PoN (K : PySem.W.Frag) (ct : CT) (D : GEnds) (m : List Addr) (ah : Hs) (H : Hp) (r : RG) : Prop := match r with
  | .ok f σ' h ys => ∀ m' H' σV' ysV, HR K ct m' h H' → Ext m ah H m' h H' → LR K ct m' h H' σ' σV' → DRs K ct (Sf m' h) H' ys ysV → PoFG K ct D f ysV m' h H' σV'
  | .bad => False
theorem PoN.ext {K : PySem.W.Frag} {ct : CT} {D : GEnds} {m m' : List Addr} {ah ah' : Hs} {H H' : Hp} {r : RG} (p : PoN K ct D m ah H r) (e : Ext m ah H m' ah' H') : PoN K ct D m' ah' H' r := by
  cases r with
  | ok f σ h ys => exact fun m2 H2 σ2 y2 h2 e2 l2 d2 => p m2 H2 σ2 y2 h2 (e.trans e2) l2 d2
  | bad => exact p
def rdN (K : PySem.W.Frag) (ct : CT) (f : SemGn) : TGn := fun D ysV σV H => ∃ m ah σ ys, HR K ct m ah H ∧ LR K ct m ah H σ σV ∧ DRs K ct (Sf m ah) H ys ysV ∧ PoN K ct D m ah H (f σ ah ys)
abbrev SN (X : Cx) (ct : CT) (st : Stmt) (f : SemGn) : Prop := GS X st (rdN X.K ct f)
abbrev SNs (X : Cx) (ct : CT) (st : List Stmt) (f : SemGn) : Prop := GSs X st (rdN X.K ct f)
theorem GSi {X : Cx} {st : Stmt} {t t' : TGn} (h : GS X st t) (i : ∀ D ys σ H, t' D ys σ H → t D ys σ H) : GS X st t' := ⟨fun A S ip R n ys s₀ c fs K J gd lv s σ H D g hn k hI ht => h.run A S ip R n ys s₀ c fs K J gd lv s σ H D g hn k hI (i _ _ _ _ ht)⟩
theorem GSsi {X : Cx} {st : List Stmt} {t t' : TGn} (h : GSs X st t) (i : ∀ D ys σ H, t' D ys σ H → t D ys σ H) : GSs X st t' := ⟨fun A S ip R n ys s₀ c fs K J gd lv s σ H D g hn k hI ht => h.run A S ip R n ys s₀ c fs K J gd lv s σ H D g hn k hI (i _ _ _ _ ht)⟩
def gnP (u : SemS) : SemGn := fun σ h ys => match u σ h with
  | .ok f σ' h' => .ok f σ' h' ys
  | _ => .bad
def gnNil : SemGn := fun σ h ys => .ok .nx σ h ys
def gnSq (u v : SemGn) : SemGn := fun σ h ys => match u σ h ys with
  | .ok .nx σ' h' ys' => v σ' h' ys'
  | r => r
def gnY (f : SemE) : SemGn := fun σ h ys => match f σ h with
  | .ok (.d x) h1 => if Nat.ble ys.length 100000 = true then .ok .nx σ h1 (ys ++ [x]) else .bad
  | _ => .bad
def gnL (t : SemT) (b : SemGn) : Nat → Lo → Hs → List D → RG
  | 0, _, _, _ => .bad
  | n + 1, σ, h, ys => match t σ h with
    | .ok true h1 => (match b σ h1 ys with
      | .ok .nx σ2 h2 ys2 => gnL t b n σ2 h2 ys2
      | .ok .cnt σ2 h2 ys2 => gnL t b n σ2 h2 ys2
      | .ok .brk σ2 h2 ys2 => .ok .nx σ2 h2 ys2
      | .ok (.ret v) σ2 h2 ys2 => .ok (.ret v) σ2 h2 ys2
      | .bad => .bad)
    | .ok false h1 => .ok .nx σ h1 ys
    | _ => .bad
/-- at most so many turns -/
def gnTurns : Nat := 5000
def gnW (t : SemT) (b : SemGn) : SemGn := gnL t b gnTurns
section
variable {X : Cx} {ct : CT} {W : WX} {pos yp : Pos} {e c : Expr} {st : Stmt} {rest body : List Stmt} {u : SemS} {f : SemE} {t : SemT} {v w : SemGn}
theorem rd_plain {D : GEnds} {ysV : List V} {σV : L2.St} {H : Hp} (h : rdN X.K ct (gnP u) D ysV σV H) : tPlain (rdS X.K ct W u) D ysV σV H := by
  obtain ⟨m, ah, σ, ys, hr, lr, dr, p⟩ := h
  refine ⟨m, ah, σ, hr, lr, ?_⟩
  unfold gnP at p
  cases q : u σ ah with
  | bad => rw [q] at p; exact p.elim
  | exc x σ2 h2 => rw [q] at p; exact p.elim
  | ok f σ2 h2 =>
    rw [q] at p
    intro m2 H2 σV2 hr2 e2 l2
    have z := p m2 H2 σV2 ysV hr2 e2 l2 (dr.mono e2.kp)
    cases f <;> exact z
theorem sn_plain (h : SS X ct W st u) : SN X ct st (gnP u) := GSi (gs_ps h) fun _ _ _ _ q => rd_plain q
theorem sns_plain (h : SSs X ct W rest u) : SNs X ct rest (gnP u) := GSsi (gss_pss h) fun _ _ _ _ q => rd_plain q
theorem sns_nil : SNs X ct [] gnNil := GSsi gss_nil fun D ysV σV H ⟨m, ah, σ, ys, hr, lr, dr, p⟩ => p m H σV ysV hr (Ext.refl _ _ _) lr dr
theorem sns_cons (h1 : SN X ct st v) (h2 : SNs X ct rest w) : SNs X ct (st :: rest) (gnSq v w) := GSsi (gss_cons h1 h2) fun D ysV σV H ⟨m, ah, σ, ys, hr, lr, dr, p⟩ => by
  refine ⟨m, ah, σ, ys, hr, lr, dr, ?_⟩
  unfold gnSq at p
  cases q : v σ ah ys with
  | bad => rw [q] at p; exact p.elim
  | ok f σ2 h2 ys2 =>
    rw [q] at p
    intro m2 H2 σV2 ysV2 hr2 e2 l2 d2
    cases f with
    | nx => exact ⟨m2, h2, σ2, ys2, hr2, l2, d2, PoN.ext (r := w σ2 h2 ys2) p e2⟩
    | brk => exact p m2 H2 σV2 ysV2 hr2 e2 l2 d2
    | cnt => exact p m2 H2 σV2 ysV2 hr2 e2 l2 d2
    | ret x => exact p m2 H2 σV2 ysV2 hr2 e2 l2 d2
theorem DRs.snoc {K : PySem.W.Frag} {S : Addr → Prop} {H : Hp} {xs : List D} {vs : List V} {d : D} {x : V} (h : DRs K ct S H xs vs) (r : DR K ct S H d x) : DRs K ct S H (xs ++ [d]) (vs ++ [x]) := h.append (.cons r .nil)
theorem sn_yield (he : SE X ct W e f) (hco : X.env.scope.isCoroutine = false := by rfl) (hi : interactive X.env = false := by rfl) : SN X ct (.Expr (.Yield (some e) yp) pos) (gnY f) :=
  GSi (gs_yield he hco hi) fun D ysV σV H ⟨m, ah, σ, ys, hr, lr, dr, p⟩ => by
    unfold gnY at p
    cases q : f σ ah with
    | bad => rw [q] at p; exact p.elim
    | exc x h2 => rw [q] at p; exact p.elim
    | ok x h2 =>
      rw [q] at p
      cases x with
      | r k => exact p.elim
      | d x =>
        dsimp only at p
        split at p
        · rename_i hl
          have hl' := Nat.le_of_ble_eq_true hl
          refine ⟨by rw [← dr.length, sizeLine_eq]; omega, m, ah, σ, hr, lr, ?_⟩
          rw [q]
          exact fun m2 H2 y hr2 e2 r2 => p m2 H2 σV (ysV ++ [y]) hr2 e2 (lr.ext e2) ((dr.mono e2.kp).snoc r2)
        · exact p.elim
theorem sn_while (hp : PassesOwn (model X.prog X.w) X.A X.env X.xe) (hc : ST X ct W c t) (hb : SNs X ct body v) : SN X ct (.While c body [] pos) (gnW t v) := GSi (gs_while hp hc hb) fun D ysV σV H ⟨m, ah, σ, ys, hr, lr, dr, p⟩ => by
  refine ⟨fun n ysV σV H => ∃ m2 h2 σ2 ys2, HR X.K ct m2 h2 H ∧ LR X.K ct m2 h2 H σ2 σV ∧ DRs X.K ct (Sf m2 h2) H ys2 ysV ∧ PoN X.K ct D m2 h2 H (gnL t v n σ2 h2 ys2), ⟨gnTurns, m, ah, σ, ys, hr, lr, dr, p⟩, ?_⟩
  rintro n ysV2 σV2 H2 ⟨m2, h2, σ2, ys2, hr2, l2, d2, p2⟩
  cases n with
  | zero => exact p2.elim
  | succ n =>
    rw [gnL] at p2
    refine ⟨m2, h2, σ2, hr2, l2, ?_⟩
    cases e : t σ2 h2 with
    | bad => rw [e] at p2; exact p2.elim
    | exc x h3 => rw [e] at p2; exact p2.elim
    | ok b h3 =>
      rw [e] at p2
      refine fun m3 H3 b' hr3 e3 r3 => ?_
      subst r3
      cases b with
      | false => exact p2 m3 H3 σV2 ysV2 hr3 e3 (l2.ext e3) (d2.mono e3.kp)
      | true =>
        refine ⟨fun ysV4 σV4 H4 => ∃ m4 h4 σ4 ys4, HR X.K ct m4 h4 H4 ∧ LR X.K ct m4 h4 H4 σ4 σV4 ∧ DRs X.K ct (Sf m4 h4) H4 ys4 ysV4 ∧ PoN X.K ct D m4 h4 H4 (gnL t v n σ4 h4 ys4), fun ysV4 σV4 H4 q => ⟨n, Nat.lt_succ_self _, q⟩, m3, h3, σ2, ys2, hr3, l2.ext e3, d2.mono e3.kp, ?_⟩
        dsimp only at p2
        cases q2 : v σ2 h3 ys2 with
        | bad => rw [q2] at p2; exact p2.elim
        | ok f σ5 h5 ys5 =>
          rw [q2] at p2
          cases f with
          | nx => exact fun m5 H5 σV5 ysV5 hr5 e5 l5 d5 => ⟨m5, h5, σ5, ys5, hr5, l5, d5, PoN.ext p2 (e3.trans e5)⟩
          | cnt => exact fun m5 H5 σV5 ysV5 hr5 e5 l5 d5 => ⟨m5, h5, σ5, ys5, hr5, l5, d5, PoN.ext p2 (e3.trans e5)⟩
          | brk => exact fun m5 H5 σV5 ysV5 hr5 e5 l5 d5 => p2 m5 H5 σV5 ysV5 hr5 (e3.trans e5) l5 d5
          | ret x => exact fun m5 H5 σV5 ysV5 hr5 e5 l5 d5 => p2 m5 H5 σV5 ysV5 hr5 (e3.trans e5) l5 d5
end
/-- all that a generator hands out -/
def runG (ns : Nat) (body : SemGn) (xs : List Vl) (h : Hs) : Option (List D × Hs) := match body (startL ns xs) h [] with
  | .ok .nx _ h' ys => some (ys, h'.take h.length)
  | .ok (.ret (.d .non)) _ h' ys => some (ys, h'.take h.length)
  | _ => none
def PoL (K : PySem.W.Frag) (ct : CT) (m : List Addr) (ah : Hs) (H : Hp) (r : Option (List D × Hs)) (Q : List V → Hp → Prop) : Prop := match r with
  | some (ys, h) => ∀ m' H' ysV, HR K ct m' h H' → Ext m ah H m' h H' → DRs K ct (Sf m' h) H' ys ysV → Q ysV H'
  | none => False
def spG (K : PySem.W.Frag) (ct : CT) (np ns : Nat) (body : SemGn) : SpG := fun vs H Q _ => ∃ m ah xs, HR K ct m ah H ∧ VlRs K ct m ah H xs vs ∧ xs.length = np ∧ PoL K ct m ah H (runG ns body xs ah) Q
theorem gfn_ok {P : Program} {w : World} {K : PySem.W.Frag} {mg : Str → Option Value} {base : Heap} {ct : CT} {x qual : Str} {params : Arguments} {body : List Stmt} {scope : Scope} {dvs : List V} {kws : List (Str × V)} {f : Addr} {fd : FuncData} {N ps : List Str} {k : Nat} {u : SemGn}
    (F : FunD K x qual params body scope dvs kws f fd) (S : GScope N ps scope) (hl : ps.length ≤ N.length)
    (hb : ∀ (cdv : Value) (A : Around) (outer : List Env) (s : Shared) (H : Hp) (E : XK) (pn : List (Addr × Obj)), L2.Room k (A.deeper (PyProof.Rows.envOfC qual scope s.heap.objs.size f cdv)) → SNs (gcxOf P w K mg base N qual scope f cdv A outer s H E pn) ct body u) :
    GFn P w K mg base (k + 1) f fd ps (spG K ct ps.length N.length u) := by
  obtain ⟨oc, od, dV, kV, doc, pm, an, cdv, ctv, osl, rfl, lk, hcd, _, _⟩ := F.ex
  refine gfn_of lk hcd S (fun vs H Q E ⟨m, ah, xs, _, rs, hx, _⟩ => by rw [← rs.length]; exact hx) fun A outer s H vs Q E pn hr ⟨m, ah, xs, hr0, rs, hx, p⟩ => ?_
  refine ⟨_, hb cdv A outer s H E pn hr, m, ah, startL N.length xs, [], hr0, LR.start rs (by omega), .nil, ?_⟩
  unfold runG at p
  cases q : u (startL N.length xs) ah [] with
  | bad => rw [q] at p; exact p.elim
  | ok fl σ h ys =>
    rw [q] at p
    intro m1 H1 σV ysV hr1 e1 l1 d1
    obtain ⟨hr2, e2⟩ := HR.trim' hr0 hr1 e1
    have kp := (hr1.trim m.length).2
    obtain ⟨t, et⟩ := e1.pre
    rw [et, List.take_left' rfl, hr0.len, ← et] at kp
    cases fl with
    | nx => exact p m H1 ysV hr2 e2 (d1.mono kp)
    | brk => exact p.elim
    | cnt => exact p.elim
    | ret v =>
      cases v with
      | r k => exact p.elim
      | d v =>
        cases v with
        | non => exact fun y ry => ⟨by cases ry; rfl, p m H1 ysV hr2 e2 (d1.mono kp)⟩
        | _ => exact p.elim
/-- list(g(..)) -/
def eGl (np ns : Nat) (body : SemGn) (fs : SemA) : SemE := fun σ h => rb (fs σ h) fun xs h1 => if xs.length = np then (match runG ns body xs h1 with
  | some (ys, h2) => .ok (.d (.lv ys)) h2
  | none => .bad) else .bad
section
variable {X : Cx} {ct : CT} {W : WX} {pos p apos : Pos} {e : Expr} {es : List Expr} {fs : SemA} {k np ns : Nat} {f : Addr} {fd : FuncData} {ps : List Str} {u : SemGn} {x : Str}
theorem se_gl {p2 pos2 : Pos} (G : GFn X.prog X.w X.K X.mg X.base k f fd ps (spG X.K ct np ns u)) (hr : L2.Room (k + 3) X.A) (hb : Binds X.K fd ps []) (hk : PySem.W.keepIn X.K (.ref f) = true) (hg : Gl X x) (hm : X.mg x = some (.ref f)) (hg2 : Gl X "list") (hm2 : X.mg "list" = none)
    (ha : SA X ct W (e :: es) fs) (hdb : (x == ("__debug__" : Str)) = false := by decide) (he : starEach (e :: es) X.env = (false, eval e X.env) :: starEach es X.env := by rfl) (hpl : (backTo pos2 (starEach es X.env)).any (·.1) = false := by rfl)
    (hv : bootBuiltins "list" = some (.type "list") := by decide +kernel)
    (hst : starEach [Expr.Call (.Name x p2) (e :: es) [] pos2] X.env = (false, eval (Expr.Call (.Name x p2) (e :: es) [] pos2) X.env) :: starEach [] X.env := by rfl) :
    SE X ct W (.Call (.Name "list" p) [.Call (.Name x p2) (e :: es) [] pos2] [] pos) (eGl np ns u fs) := by
  have hx : Passes (L2.CX X.prog X.w) X (fun _ _ _ => False) := fun pins σ H s e s' I ⟨_, _, _, _, _, _, _, _, _, _, _, _, z⟩ => z.elim
  refine PE.imp (pe_listG (E := fun _ _ _ => False) (pgen_call (E := fun _ _ _ => False) (pos' := pos2) G (hr.mono (by omega)) hg hm hk hb .nil ha hdb he hpl) hx (fun _ _ _ z => z.elim) hr hg2 hm2 hv (he := hst)) fun σV H Q ⟨m, ah, σ, hr0, lr, q⟩ => ?_
  refine ⟨m, ah, σ, hr0, lr, (Po.bind (R := VlRs X.K ct) q).imp fun vs H1 ⟨m1, h1, xs, hr1, e1, r1, p1⟩ => ?_⟩
  dsimp only at p1
  split at p1
  · rename_i hl
    refine ⟨m1, h1, xs, hr1, by rw [List.append_nil]; exact r1, hl, ?_⟩
    unfold PoL
    split at p1
    · rename_i ys h2 q2
      intro m3 H3 ysV hr3 e3 d3 a ha
      exact p1 m3 _ _ (hr3.pure (o := .lst ysV) ha).1 (e3.trans (hr3.pure (o := .lst ysV) ha).2.1) (new_lv d3 (hr3.pure (o := .lst ysV) ha).2.1.kp (hr3.freshS ha))
    · exact p1.elim
  · exact p1.elim
end
section
variable {σ : Lo} {h : Hs} {f g : SemE} {fs : SemA} {ys : List D}
@[simp] theorem ap_lp : eLp f σ h = rb (f σ h) fun x h1 => match x with
  | .r k => (match h1[k]? with
    | some (.lst xs) => (match xs[xs.length - 1]? with
      | some d => .ok (.d d) (h1.set k (.lst xs.dropLast))
      | none => .bad)
    | _ => .bad)
  | _ => .bad := rfl
@[simp] theorem ap_lR : eLR f g σ h = rb (f σ h) fun x h1 => rb (g σ h1) fun y h2 => match x, y with
  | .d (.int i), .d (.int j) => if smR i = true ∧ smR j = true then .ok (.d (.lv (rngD i (j - i).toNat))) h2 else .bad
  | _, _ => .bad := rfl
@[simp] theorem ap_gnP (u : SemS) : gnP u σ h ys = match u σ h with
  | .ok f σ' h' => .ok f σ' h' ys
  | _ => .bad := rfl
@[simp] theorem ap_gnSq (u v : SemGn) : gnSq u v σ h ys = match u σ h ys with
  | .ok .nx σ' h' ys' => v σ' h' ys'
  | r => r := rfl
@[simp] theorem ap_gnY : gnY f σ h ys = match f σ h with
  | .ok (.d x) h1 => if Nat.ble ys.length 100000 = true then .ok .nx σ h1 (ys ++ [x]) else .bad
  | _ => .bad := rfl
@[simp] theorem ap_gnNil : gnNil σ h ys = .ok .nx σ h ys := rfl
@[simp] theorem ap_gl (np ns : Nat) (body : SemGn) : eGl np ns body fs σ h = rb (fs σ h) fun xs h1 => if xs.length = np then (match runG ns body xs h1 with
  | some (ys, h2) => .ok (.d (.lv ys)) h2
  | none => .bad) else .bad := rfl
end
/-! ### a, b = x, y and a, b, c = x, y, z with plain local names -/
def setAll : Lo → List Nat → List Vl → Lo
  | σ, i :: is, x :: xs => setAll (σ.set i (some x)) is xs
  | σ, _, _ => σ
def sPar (is : List Nat) (fs : SemA) : SemS := fun σ h => sb (fs σ h) σ fun xs h1 => if xs.length = is.length then .ok .nx (setAll σ is xs) h1 else .bad
@[simp] theorem ap_par {σ : Lo} {h : Hs} (is : List Nat) (fs : SemA) : sPar is fs σ h = sb (fs σ h) σ fun xs h1 => if xs.length = is.length then .ok .nx (setAll σ is xs) h1 else .bad := rfl
@[simp] theorem setAll_cons (σ : Lo) (i : Nat) (is : List Nat) (x : Vl) (xs : List Vl) : setAll σ (i :: is) (x :: xs) = setAll (σ.set i (some x)) is xs := rfl
@[simp] theorem setAll_nil (σ : Lo) : setAll σ [] [] = σ := rfl
section
variable {X : Cx} {ct : CT} {W : WX} {pos : Pos} {a b c : Expr} {fs : SemA}
theorem ss_par2 {i j : Nat} {x y : Str} {px py pt : Pos} {kt k2 pt2} (hc : X.calm = true) (hN : X.N.Nodup) (ha : SA X ct W [a, b] fs) (hi : X.N[i]? = some x := by rfl) (hj : X.N[j]? = some y := by rfl) (hij : i ≠ j := by decide)
    (hx : X.env.scope.names.lookup x = some .local := by rfl) (hy : X.env.scope.names.lookup y = some .local := by rfl)
    (hw : swappedStores [.Tuple [.Name x px, .Name y py] kt pt] (.Tuple [a, b] k2 pt2) X.env = pure (some [x, y]) := by rfl)
    (hs : swapsWithSole [.Tuple [.Name x px, .Name y py] kt pt] (.Tuple [a, b] k2 pt2) pos.line X.env = pure false := by rfl) :
    SS X ct W (.Assign [.Tuple [.Name x px, .Name y py] kt pt] (.Tuple [a, b] k2 pt2) pos) (sPar [i, j] fs) :=
  PS.imp (ps_par hc hN hi hj hij hx hy ha hw hs) fun D σV H ⟨m, ah, σ, hr, lr, p⟩ => ⟨m, ah, σ, hr, lr, (PoS.bind (R := VlRs X.K ct) lr p).imp fun vs H1 ⟨m1, h1, xs, hr1, e1, r1, p1⟩ => by
    dsimp only at p1
    split at p1
    · rename_i hl
      cases r1 with
      | nil => cases hl
      | cons r1 t =>
        cases t with
        | nil => cases hl
        | cons r2 t =>
          cases t with
          | cons _ _ => cases hl
          | nil => exact ⟨_, _, rfl, p1 m1 H1 _ hr1 (Ext.refl _ _ _) (((lr.ext e1).set r1 i).set r2 j)⟩
    · exact p1.elim⟩
theorem ss_par3 {i j l : Nat} {x y z : Str} {px py pz pt : Pos} {kt k2 pt2} (hc : X.calm = true) (hN : X.N.Nodup) (ha : SA X ct W [a, b, c] fs) (hi : X.N[i]? = some x := by rfl) (hj : X.N[j]? = some y := by rfl) (hl : X.N[l]? = some z := by rfl) (hij : i ≠ j := by decide) (hil : i ≠ l := by decide) (hjl : j ≠ l := by decide)
    (hx : X.env.scope.names.lookup x = some .local := by rfl) (hy : X.env.scope.names.lookup y = some .local := by rfl) (hz : X.env.scope.names.lookup z = some .local := by rfl)
    (hw : swappedStores [.Tuple [.Name x px, .Name y py, .Name z pz] kt pt] (.Tuple [a, b, c] k2 pt2) X.env = pure (some [x, y, z]) := by rfl)
    (hs : swapsWithSole [.Tuple [.Name x px, .Name y py, .Name z pz] kt pt] (.Tuple [a, b, c] k2 pt2) pos.line X.env = pure false := by rfl) :
    SS X ct W (.Assign [.Tuple [.Name x px, .Name y py, .Name z pz] kt pt] (.Tuple [a, b, c] k2 pt2) pos) (sPar [i, j, l] fs) :=
  PS.imp (ps_par3 hc hN hi hj hl hij hil hjl hx hy hz ha hw hs) fun D σV H ⟨m, ah, σ, hr, lr, p⟩ => ⟨m, ah, σ, hr, lr, (PoS.bind (R := VlRs X.K ct) lr p).imp fun vs H1 ⟨m1, h1, xs, hr1, e1, r1, p1⟩ => by
    dsimp only at p1
    split at p1
    · rename_i hl
      cases r1 with
      | nil => cases hl
      | cons r1 t =>
        cases t with
        | nil => cases hl
        | cons r2 t =>
          cases t with
          | nil => cases hl
          | cons r3 t =>
            cases t with
            | cons _ _ => cases hl
            | nil => exact ⟨_, _, _, rfl, p1 m1 H1 _ hr1 (Ext.refl _ _ _) ((((lr.ext e1).set r1 i).set r2 j).set r3 l)⟩
    · exact p1.elim⟩
end
end Mi

/-! Mi37: comprehensions over a changeable list -/
namespace Mi
open PySem PySem.Spec L2
def cmpR (k : Nat) (en : Bool) (vs : List Nat) (g : SemG) (t : SemT) (f : SemE) (n0 : Nat) : Nat → Nat → Lo → Hs → Option Hs
  | 0, _, _, _ => none
  | n + 1, i, σ, h => match h[k]? with
    | some (.lst xs) => (match xs[i]? with
      | none => some h
      | some d => (match g (.d (if en = true then .tup [.int (i : Nat), d] else d)) (wipeL σ vs) h with
        | none => none
        | some (σ1, h1) => (match t σ1 h1 with
          | .ok b h2 => if b = true then (match f σ1 h2 with
              | .ok y h3 => (match cmpAdd n0 y h3 with
                | some h4 => cmpR k en vs g t f n0 n (i + 1) σ h4
                | none => none)
              | _ => none)
            else cmpR k en vs g t f n0 n (i + 1) σ (h2.take (n0 + 1))
          | _ => none)))
    | _ => none
def eLcR (mu en : Bool) (vs : List Nat) (f0 : SemE) (g : SemG) (t : SemT) (f : SemE) : SemE := fun σ h => rb (f0 σ h) fun x h1 => match x with
  | .r k => (match h1[k]? with
    | some (.lst xs) => (match cmpR k en vs g t f h1.length (xs.length + 1) 0 σ (h1 ++ [.lst []]) with
      | some h2 => lcEnd mu h1.length h2
      | none => .bad)
    | _ => .bad)
  | _ => .bad
def ItR (K : PySem.W.Frag) (en : Bool) (a : Addr) : It := if en = true then Ite K a else Itl K a
section
variable {X : Cx} {ct : CT} {W : WX} {vs : List Nat} {g : SemG} {t : SemT} {f f0 : SemE} {mu en : Bool} {pos : Pos}
theorem wksR {m2 : List Addr} {h2 : Hs} {H2 : Hp} {a : Addr} {k : Nat} {xs : List D} (hr : HR X.K ct m2 h2 H2) (ha : m2[k]? = some a) (hk : h2[k]? = some (.lst xs)) :
    (∀ i, xs.length ≤ i → (ItR X.K en a).stop i H2) ∧ ∀ (i : Nat) d, xs[i]? = some d → (ItR X.K en a).go i H2 ∧ ∀ x H3, (ItR X.K en a).yld i H2 x H3 → HR X.K ct m2 h2 H3 ∧ Ext m2 h2 H2 m2 h2 H3 ∧ DR X.K ct (Sf m2 h2) H3 (if en = true then .tup [.int (i : Nat), d] else d) x := by
  obtain ⟨u, h1, h3⟩ := hr.ob k a _ ha hk
  cases h3 with
  | lst r =>
    rename_i ws
    have hs : SqL X.K H2 a ws := .of h1
    cases en with
    | true =>
      refine ⟨fun i hi => ⟨ws, hs, by rw [← r.length]; exact hi⟩, fun i d hd => ?_⟩
      obtain ⟨y, hy, ry⟩ := r.get hd
      refine ⟨⟨ws, y, hs, hy⟩, fun x H3 hx => ?_⟩
      obtain ⟨T, x1, rfl, hT, rfl, hx⟩ := hx
      have e := hx ws hs
      rw [hy] at e
      cases e
      exact pair_new hr hT (.int _) ry
    | false =>
      refine ⟨fun i hi => ⟨ws, hs, by rw [← r.length]; exact hi⟩, fun i d hd => ?_⟩
      obtain ⟨y, hy, ry⟩ := r.get hd
      refine ⟨⟨ws, y, hs, hy⟩, fun x H3 hx => ?_⟩
      obtain ⟨rfl, hx⟩ := hx
      have e := hx ws hs
      rw [hy] at e
      cases e
      exact ⟨hr, Ext.refl _ _ _, ry⟩
theorem lcR_core {σV : L2.St} {Q : VK} {m1 : List Addr} {h1 : Hs} {H1 : Hp} {σ : Lo} {a : Addr} {k N : Nat} (hr1 : HR X.K ct m1 h1 H1) (lr : LR X.K ct m1 h1 H1 σ σV) (ha : m1[k]? = some a) {hE : Hs}
    (q : cmpR k en vs g t f h1.length N 0 σ (h1 ++ [.lst []]) = some hE) (p1 : Po X.K ct W σV (VlR X.K ct) m1 h1 H1 (lcEnd mu h1.length hE) Q) (Dd : Addr) (hD : H1 Dd = none) :
    ∃ Wt : Nat → Nat → Hp → Prop, (∃ m, Wt 0 m (upd H1 Dd (.lst []))) ∧ ∀ i m H, Wt i m H →
      ((ItR X.K en a).stop i H ∧ Q (.ref Dd) H) ∨ ((ItR X.K en a).go i H ∧ ∃ Nx : Hp → Prop, (∀ H', Nx H' → ∃ m', m' < m ∧ Wt (i + 1) m' H') ∧ ∀ x H', (ItR X.K en a).yld i H x H' → rdGc X.K ct vs g x (L2.wipe σV vs) H' fun σ2 H2 => L2.wipe σ2 vs = L2.wipe σV vs ∧ rdT X.K ct W0 t σ2 H2 fun b H3 =>
        if b = true then rdE X.K ct W0 f σ2 H3 fun y H4 => ∃ acc, H4 Dd = some (.lst acc) ∧ acc.length < sizeLine ∧ Nx (upd H4 Dd (.lst (acc ++ [y]))) else Nx H3) := by
  obtain ⟨hrA, eA⟩ := hr1.alloc hD (OR.lst (ct := ct) .nil)
  have lrA := lr.ext eA
  have haA : (m1 ++ [Dd])[k]? = some a := eA.at ha
  refine ⟨fun i n H => ∃ h2, HR X.K ct (m1 ++ [Dd]) h2 H ∧ Ext (m1 ++ [Dd]) (h1 ++ [.lst []]) (upd H1 Dd (.lst [])) (m1 ++ [Dd]) h2 H ∧ cmpR k en vs g t f h1.length n i σ h2 = some hE,
    ⟨N, _, hrA, Ext.refl _ _ _, q⟩, ?_⟩
  rintro i n H2 ⟨h2, hr2, e2, q2⟩
  cases n with
  | zero => cases q2
  | succ n =>
    rw [cmpR] at q2
    split at q2
    · rename_i xs hk
      obtain ⟨ws, wg⟩ := wksR (en := en) hr2 haA hk
      split at q2
      · rename_i hx
        cases q2
        exact .inl ⟨ws _ (List.getElem?_eq_none_iff.mp hx), lcEnd_sound hr1 hD hr2 (eA.trans e2) p1⟩
      · rename_i d hx
        obtain ⟨go, wy⟩ := wg i d hx
        refine .inr ⟨go, fun H3 => ∃ h3, HR X.K ct (m1 ++ [Dd]) h3 H3 ∧ Ext (m1 ++ [Dd]) (h1 ++ [.lst []]) (upd H1 Dd (.lst [])) (m1 ++ [Dd]) h3 H3 ∧ cmpR k en vs g t f h1.length n (i + 1) σ h3 = some hE,
          fun H3 z => ⟨n, Nat.lt_succ_self _, z⟩, fun x H3 hy => ?_⟩
        obtain ⟨hr3, e3, rd⟩ := wy x H3 hy
        refine ⟨_, h2, _, .d _, hr3, ((lrA.ext e2).ext e3).wipe vs, rd, ?_⟩
        cases q3 : g (.d (if en = true then .tup [.int (i : Nat), d] else d)) (wipeL σ vs) h2 with
        | none => rw [q3] at q2; cases q2
        | some z =>
          obtain ⟨σ4, h4⟩ := z
          rw [q3] at q2
          dsimp only at q2
          refine fun m4 H4 σV4 hr4 e4 l4 w4 => ⟨w4.trans (wipe_wipe _ _), m4, h4, σ4, hr4, l4, ?_⟩
          cases q4 : t σ4 h4 with
          | bad => rw [q4] at q2; cases q2
          | exc e h5 => rw [q4] at q2; cases q2
          | ok b h5 =>
            rw [q4] at q2
            dsimp only at q2
            refine fun m5 H5 b' hr5 e5 rb5 => ?_
            subst rb5
            have e25 := (e3.trans e4).trans e5
            have hl : h2.length = h1.length + 1 := by rw [← hr2.len, ← hr1.len, List.length_append]; rfl
            cases b with
            | false =>
              rw [if_neg Bool.false_ne_true] at q2
              obtain ⟨hr6, e6⟩ := HR.trim' hr2 hr5 e25
              rw [hl] at hr6 e6
              exact ⟨_, hr6, e2.trans e6, q2⟩
            | true =>
              rw [if_pos rfl] at q2
              refine ⟨m5, h5, σ4, hr5, l4.ext e5, ?_⟩
              cases q5 : f σ4 h5 with
              | bad => rw [q5] at q2; cases q2
              | exc e h6 => rw [q5] at q2; cases q2
              | ok y h6 =>
                rw [q5] at q2
                dsimp only at q2
                cases q6 : cmpAdd h1.length y h6 with
                | none => rw [q6] at q2; cases q2
                | some h7 =>
                  rw [q6] at q2
                  dsimp only at q2
                  refine fun m6 H6 v hr6 e6 r6 => ?_
                  obtain ⟨acc, a1, a2, a3, a4⟩ := cmpAdd_sound hr1 hr2 hr6 (e25.trans e6) hl r6 q6
                  exact ⟨acc, a1, a2, h7, a3, e2.trans a4, q2⟩
    · cases q2
variable {elt tg e0 : Expr} {ifs : List Expr} {scope : Scope} {own : List (Str × Nat)}
theorem lcR_on {σV : L2.St} {H : Hp} {Q : VK} (h : rdE X.K ct W (eLcR mu en vs f0 g t f) σV H Q) {wi : TI}
    (hw : ∀ R, rdE X.K ct W f0 σV H (fun v H1 => ∃ a, v = .ref a ∧ ∃ xs, H1 a = some (.lst xs) ∧ R (ItR X.K en a) H1) → wi σV H R) : tLc wi (rdGc X.K ct vs g) (rdT X.K ct W0 t) (rdE X.K ct W0 f) vs σV H Q := by
  obtain ⟨m, ah, σ, hr, lr, p⟩ := h
  refine hw _ ⟨m, ah, σ, hr, lr, (Po.bind (R := VlR X.K ct) p).imp fun v H1 ⟨m1, h1, x, hr1, e1, r1, p1⟩ => ?_⟩
  dsimp only at p1
  split at p1
  · rename_i k
    split at p1
    · rename_i xs hk
      obtain ⟨a, vs', ha, rfl, g1, g2⟩ := hr1.lstK hk r1
      refine ⟨a, rfl, vs', g1, fun Dd hD => ?_⟩
      split at p1
      · rename_i hE q
        exact lcR_core hr1 (lr.ext e1) ha q p1 Dd hD
      · exact p1.elim
    · exact p1.elim
  · exact p1.elim
theorem se_lcR (mu : Bool) (hc : X.calm = true) (hN : X.N.Nodup) (hi : SE X ct W e0 f0) (ok : BlkOk X.N X.env.scope scope own) (hvs : own.map (·.2) = vs)
    (hg : BlkA X scope fun Y => SGc Y ct vs tg g) (ht : BlkA X scope fun Y => SPT Y ct W0 ifs t) (he : BlkA X scope fun Y => SE Y ct W0 elt f) (hs : ∀ x, foldedSetIterable e0 X.env x = pure x := by intro _; rfl) :
    SE X ct W (.ListComp elt [⟨tg, e0, ifs, 0⟩] scope pos) (eLcR mu false vs f0 g t f) := by
  subst hvs
  refine PE.imp (pe_lc hc hN (pi_list hi) ok hg ht he hs) fun σV H Q h => lcR_on h fun R ⟨m, ah, σ, hr, lr, p⟩ => ⟨m, ah, σ, hr, lr, p.imp fun v H1 ⟨a, e, xs, h1, h2⟩ => ⟨a, e, ⟨xs, .of h1⟩, h2⟩⟩
theorem se_lcE {p2 pos2 tpos : Pos} {elts : List Expr} {kk : Nat} (mu : Bool) (hc : X.calm = true) (hN : X.N.Nodup) (hg2 : Gl X "enumerate") (hm2 : X.mg "enumerate" = none) (hi : SE X ct W e0 f0) (ok : BlkOk X.N X.env.scope scope own) (hvs : own.map (·.2) = vs)
    (hg : BlkA X scope fun Y => SGc Y ct vs (.Tuple elts kk tpos) g) (ht : BlkA X scope fun Y => SPT Y ct W0 ifs t) (he : BlkA X scope fun Y => SE Y ct W0 elt f) (hs : ∀ x, foldedSetIterable (.Call (.Name "enumerate" p2) [e0] [] pos2) X.env x = pure x := by intro _; rfl)
    (hst : starEach [e0] X.env = [(false, eval e0 X.env)] := by rfl) (hs2 : starEach [e0] X.env = (false, eval e0 X.env) :: starEach [] X.env := by rfl) :
    SE X ct W (.ListComp elt [⟨.Tuple elts kk tpos, .Call (.Name "enumerate" p2) [e0] [] pos2, ifs, 0⟩] scope pos) (eLcR mu true vs f0 g t f) := by
  subst hvs
  refine PE.imp (pe_lc hc hN (pi_enum hg2 hm2 (sa_cons hi sa_nil (hs := hs2)) hst) ok hg ht he hs) fun σV H Q h => lcR_on h fun R ⟨m, ah, σ, hr, lr, p⟩ => ⟨m, ah, σ, hr, lr, ?_⟩
  cases q : f0 σ ah with
  | bad => rw [q] at p; exact p.elim
  | exc e h1 =>
    show Po X.K ct W σV (VlRs X.K ct) m ah H (rb (f0 σ ah) fun x h1 => rb (aNil σ h1) fun xs h2 => .ok (x :: xs) h2) _
    rw [q] at p ⊢
    exact p
  | ok x h1 =>
    show Po X.K ct W σV (VlRs X.K ct) m ah H (rb (f0 σ ah) fun x h1 => rb (aNil σ h1) fun xs h2 => .ok (x :: xs) h2) _
    rw [q] at p ⊢
    refine fun m2 H2 vs2 hr2 e2 r2 => ?_
    cases r2 with
    | cons r2 tl =>
      cases tl
      obtain ⟨a, e, xs, h3, h4⟩ := p m2 H2 _ hr2 e2 r2
      subst e
      exact ⟨a, xs, rfl, .of h3, h4⟩
end
section
variable {σ : Lo} {h : Hs} {f0 f : SemE} {g : SemG} {t : SemT}
@[simp] theorem ap_lcR (mu en : Bool) (vs : List Nat) : eLcR mu en vs f0 g t f σ h = rb (f0 σ h) fun x h1 => match x with
  | .r k => (match h1[k]? with
    | some (.lst xs) => (match cmpR k en vs g t f h1.length (xs.length + 1) 0 σ (h1 ++ [.lst []]) with
      | some h2 => lcEnd mu h1.length h2
      | none => .bad)
    | _ => .bad)
  | _ => .bad := rfl
end
theorem cmpR_on {k : Nat} {en : Bool} {vs : List Nat} {g : SemG} {t : SemT} {f : SemE} {σ : Lo} {h : Hs} {xs : List D} (hk : h[k]? = some (.lst xs)) (P : Nat → Bool) (kd : Nat → D)
    (step : ∀ i d, xs[i]? = some d → ∀ h', ∃ σ1, g (.d (if en = true then .tup [.int (i : Nat), d] else d)) (wipeL σ vs) (h ++ h') = some (σ1, h ++ h') ∧ t σ1 (h ++ h') = .ok (P i) (h ++ h') ∧ (P i = true → f σ1 (h ++ h') = .ok (.d (kd i)) (h ++ h'))) :
    ∀ (n i : Nat) (acc : List D), i + n = xs.length → acc.length + n < sizeLine → cmpR k en vs g t f h.length (n + 1) i σ (h ++ [.lst acc]) = some (h ++ [.lst (acc ++ ((List.range' i n).filter P).map kd)])
  | n, i, acc, hi, hz => by
    have hkk : (h ++ [O.lst acc])[k]? = some (.lst xs) := by rw [List.getElem?_append_left (List.getElem?_eq_some_iff.mp hk).1]; exact hk
    rw [cmpR, hkk]
    dsimp only
    cases n with
    | zero =>
      rw [List.getElem?_eq_none (by omega)]
      simp
    | succ n =>
      have hlt : i < xs.length := by omega
      rw [List.getElem?_eq_getElem hlt]
      dsimp only
      obtain ⟨σ1, e1, e2, e3⟩ := step i xs[i] (List.getElem?_eq_getElem hlt) [.lst acc]
      rw [e1]
      dsimp only
      rw [e2]
      dsimp only
      rw [List.range'_succ]
      cases q : P i with
      | true =>
        rw [if_pos rfl, e3 q]
        dsimp only
        rw [cmpAdd_d (by omega)]
        dsimp only
        rw [cmpR_on hk P kd step n (i + 1) (acc ++ [kd i]) (by omega) (by rw [List.length_append, List.length_singleton]; omega)]
        simp [List.filter_cons, q]
      | false =>
        rw [if_neg Bool.false_ne_true, List.take_of_length_le (by simp), cmpR_on hk P kd step n (i + 1) acc (by omega) (by omega)]
        simp [List.filter_cons, q]
end Mi

/-! Mi38: raise C(), raise C(e, ..), try: .. except C: .. -/
namespace Mi
open PySem PySem.Spec L2

theorem exmX_ok {K : PySem.W.Frag} {ct : CT} {cn : List Str} {b : Nat} {xs ts : List Nat} {T : Nat} (hca : ∀ C, ct.ca C = cga K cn C) (h : exmXB K cn b xs ts = true) (hT : T ∈ ts) (C : Nat) (r : Bool) (h2 : (isxC b xs T).lookup C = some r) :
    PySem.W.exmOne K (.ref (ct.ca C)) (.ref (ct.ca T)) = some r := by
  obtain ⟨hm, e⟩ := lookup_map h2
  subst e
  rw [hca, hca]
  exact of_decide_eq_true (List.all_eq_true.mp (List.all_eq_true.mp h C hm) T hT)
/-- raise C() -/
def sRzB (C : Nat) : SemS := fun σ h => .exc ⟨C, []⟩ σ h
/-- raise C(e, ..) -/
def sRz (C : Nat) (ks : List Nat) (fs : SemA) : SemS := fun σ h => sb (fs σ h) σ fun xs h1 => match toDs xs h1 with
  | some (ds, h2) => if ds.length = ks.length then .exc ⟨C, (ks.zip ds).reverse⟩ σ h2 else .bad
  | none => .bad
/-- try: u, except ..: v; the table tells which classes are caught -/
def sTryO (l : List (Nat × Bool)) (u v : SemS) : SemS := fun σ h => match u σ h with
  | .exc e σ' h' => (match l.lookup e.C with
    | some true => (match v σ' h' with
      | .exc _ _ _ => .bad
      | r => r)
    | some false => .exc e σ' h'
    | none => .bad)
  | r => r
section
variable {X : Cx} {ct : CT} {W : WX} {pos pos' p : Pos} {e : Expr} {es : List Expr} {fs : SemA} {x : Str}
theorem ss_rzB {C : Nat} (hc : X.calm = true) (tk : Takes X W) (q : PySem.W.excIn X.K (ct.ca C) He.veBase "ValueError.__new__" = true) (kC : PySem.W.keepIn X.K (.ref (ct.ca C)) = true) (K1 : ExcK X.K (ct.ca C)) (gC : X.mg x = some (.ref (ct.ca C))) (hg : Gl X x) (hdb : (x == ("__debug__" : Str)) = false := by decide) :
    SS X ct W (.Raise (some (.Call (.Name x p) [] [] pos)) none pos') (sRzB C) := by
  have mk : PMk X (.Call (.Name x p) [] [] pos) (fun _ H Q => Q (.ref (ct.ca C)) none H) := by
    intro pins s σ H Q I h
    refine wpAny_Call_Name_kw (ld_glob I hg gC ?_ hdb)
    refine PySem.W.callWith_K0 I.kIn kC ?_
    show wpAny _ _ (call (.ref (ct.ca C)) []) _ _ _
    obtain ⟨bm, N, nm, qn, bs, hdct, sn, sub, ab, col, dd, k0, k1, k2, k3, k5, mN, hC, hN, hni, T⟩ := exc_obj I.kIn q
    refine wpAny_call_exc_subT F.excBase_ValueError T hC hN hni (fun h' a hm => ?_) (by show 0 ≤ sizeLine; omega)
    exact mk_of I hm (raises_own K1.ox.exC K1.ox.tyC) h (I.hok.gone hm.new)
  refine PS.imp (ps_raise hc tk mk) fun D σV H ⟨m, ah, σ, hr, lr, p⟩ => ?_
  exact p m H σV _ none hr (Ext.refl _ _ _) lr ⟨rfl, [], .nil, .inl ⟨rfl, rfl⟩⟩
theorem run_exm {C : Nat} {ks : List Nat} {pins : List (Addr × Obj)} {σ : L2.St} {H : Hp} {s : Shared} {Q : XK} {us : List Value} {vs : List V} (XI : XInit X ct C ks) (hr : Room 2 X.A) (hl : vs.length = ks.length) (hk : ks.length ≤ 100) (h0 : ks ≠ []) (I : Inv X pins σ H s) (r : Vals vs us)
    (h1 : ∀ dx, H dx = none → Q (.ref (ct.ca C)) (some dx) (upd H dx (.xd (fieldsOf ct ks vs)))) :
    wpAny (model X.prog X.w) X.A (call (.ref (ct.ca C)) us) (MkP X pins σ Q) X.xe s := by
  obtain ⟨T, fI, fd, ps, iC, tI, hb, F1⟩ := XI
  obtain ⟨nm, q, N, bs, bm, sn, sub, ab, col, dd, k0, k1, k2, k3, k5, hC, hbm⟩ := T.cls
  obtain ⟨hp, g, dr, tk, os⟩ := s
  have big : hp.objs.size ≤ hp.objs.size + 1 := Nat.le_succ _
  have fr : H (hp.objs.size + 1) = none := I.hok.fresh big
  have up2 : ∀ b o, hp.get? b = some o → ((hp.push (PySem.W.kdv_tup us)).push (PySem.HandSPX.excO (ct.ca C) hp.objs.size)).get? b = some o := fun b o e => Heap.get?_push_of_some _ (Heap.get?_push_of_some _ e)
  have there : ((hp.push (PySem.W.kdv_tup us)).push (PySem.HandSPX.excO (ct.ca C) hp.objs.size)).get? (hp.objs.size + 1) = some (PySem.HandSPX.excO (ct.ca C) hp.objs.size) := by heap_get
  have J := I.laid (t' := tk) (a := hp.objs.size + 1) (o := L2.exo (hp.objs.size + 1) (ct.ca C) none) (h' := (hp.push (PySem.W.kdv_tup us)).push (PySem.HandSPX.excO (ct.ca C) hp.objs.size)) up2 big (exo_ok there)
  have rs : Vals (V.ref (hp.objs.size + 1) :: vs) (Value.ref (hp.objs.size + 1) :: us) := .cons rfl r
  have few : us.length ≤ sizeLine := by
    rw [← Paired.length r, hl, sizeLine_eq]
    omega
  have want : spX ct C ks (V.ref (hp.objs.size + 1) :: vs) (upd H (hp.objs.size + 1) (L2.exo (hp.objs.size + 1) (ct.ca C) none)) (fun v H2 => v = .non ∧ ∃ dx, H dx = none ∧ dx ≠ hp.objs.size + 1 ∧ H2 (hp.objs.size + 1) = some (L2.exo (hp.objs.size + 1) (ct.ca C) (some dx)) ∧ H2 dx = some (L2.exd dx (fieldsOf ct ks vs)) ∧ ∀ b, b ≠ hp.objs.size + 1 → b ≠ dx → H2 b = H b) (fun _ _ _ => False) := by
    refine ⟨_, vs, rfl, hl, upd_same, fun z => absurd z h0, fun z dx H' n ne e1 e2 e3 => ⟨rfl, dx, ?_, ne, e1, e2, fun b b1 b2 => by rw [e3 b b1 b2, upd_ne b1]⟩⟩
    rw [upd_ne ne] at n
    exact n
  have ll : (Value.ref (hp.objs.size + 1) :: us).length = ps.length := by rw [← Paired.length rs, F1.len _ _ _ _ want]
  have bb := hb _ (Value.ref (hp.objs.size + 1) :: us) J.kIn (by rw [List.append_nil]; exact ll)
  rw [List.append_nil] at bb
  refine wpAny_call (PySem.HandSPX.call_own F.excBase_ValueError (fun Y => PySem.HandSPX.refsVE_contains Y bm hbm) (I.kIn _ _ hC) (PySem.W.looks_findIn I.kIn iC) (fun self => PySem.W.bind_fn I.kIn self tI) few
    (codeAny_mono (F1.run _ X.stack _ _ ⟨Value.ref (hp.objs.size + 1) :: us, []⟩ _ _ _ _ (hr.make (ct.ca C) us []) (J.env0.make (ct.ca C) us []) bb rs want) fun r s' hq' => ?_))
  cases r with
  | error er =>
    obtain ⟨_, _, _, _, _, _, _, _, _, _, _, _, z⟩ := hq'
    exact z.elim
  | ok fl =>
    cases fl with
    | ret u =>
      obtain ⟨v, H2, os2, bare2, un2, hok2, rv, ev, dx, hdx, nd, ea, ed, same⟩ := hq'
      subst ev
      obtain ⟨h2, g2, d2, t2, os'⟩ := s'
      refine ⟨rv, mk_end (raises_own T.exC T.tyC) I big up2 un2 hok2 os2 bare2 ea ed hdx ?_⟩
      have eH : upd (del H2 (hp.objs.size + 1)) dx (.xd (fieldsOf ct ks vs)) = upd H dx (.xd (fieldsOf ct ks vs)) := by
        funext b
        by_cases b1 : b = dx
        · subst b1; rw [upd_same, upd_same]
        · rw [upd_ne b1, upd_ne b1]
          by_cases b2 : b = hp.objs.size + 1
          · subst b2; rw [del_same, fr]
          · rw [del_ne b2, same b b2 b1]
      rw [eH]
      exact h1 dx hdx
    | next => exact False.elim hq'
    | brk => exact False.elim hq'
    | cont => exact False.elim hq'
theorem ss_rz {C k : Nat} {ks : List Nat} (hc : X.calm = true) (tk : Takes X W) (XI : XInit X ct C (k :: ks)) (hr : Room 2 X.A) (hk : (k :: ks).length ≤ 100) (hg : Gl X x) (hm : X.mg x = some (.ref (ct.ca C))) (ha : SA X ct W (e :: es) fs) (hdb : (x == ("__debug__" : Str)) = false := by decide)
    (he : starEach (e :: es) X.env = (false, eval e X.env) :: starEach es X.env := by rfl) (hpl : (backTo pos (starEach es X.env)).any (·.1) = false := by rfl) : SS X ct W (.Raise (some (.Call (.Name x p) (e :: es) [] pos)) none pos') (sRz C (k :: ks) fs) := by
  have mk : PMk X (.Call (.Name x p) (e :: es) [] pos) (fun σ H Q => rdA X.K ct W fs σ H fun vs H1 => vs.length = (k :: ks).length ∧ ∀ dx, H1 dx = none → Q (.ref (ct.ca C)) (some dx) (upd H1 dx (.xd (fieldsOf ct (k :: ks) vs)))) := by
    intro pins s σ H Q I h
    refine wpAny_Call_Name_kw (ld_glob I hg hm ?_ hdb)
    refine PySem.W.callWith_K (h₀ := X.base) I.ok.mod.kin XI.T.kC (thn (ha.run pos pins s σ H _ I h) fun us s1 ⟨vs, H1, I1, r, hl, q⟩ => ⟨I1.kIn, ?_⟩) he hpl
    exact run_exm XI hr hl hk (by simp) I1 r q
  refine PS.imp (ps_raise hc tk mk) fun D σV H ⟨m, ah, σ, hr0, lr, p⟩ => ⟨m, ah, σ, hr0, lr, (PoS.bind (R := VlRs X.K ct) lr p).imp fun vs H1 ⟨m1, h1, xs, hr1, e1, r1, p1⟩ => ?_⟩
  dsimp only at p1
  cases e2 : toDs xs h1 with
  | none => rw [e2] at p1; exact p1.elim
  | some z =>
    obtain ⟨ds, h2⟩ := z
    rw [e2] at p1
    dsimp only at p1
    split at p1
    · rename_i hl
      obtain ⟨hr2, ex2, t2⟩ := toDs_sound hr1 e2 r1
      refine ⟨by rw [← hl, t2.length], fun dx n => ?_⟩
      obtain ⟨hr3, e3, sa⟩ := hr2.pure (o := .xd (fieldsOf ct (k :: ks) vs)) n
      exact p1 m1 _ σV _ (some dx) hr3 (ex2.trans e3) ((lr.ext e1).ext (ex2.trans e3)) ⟨rfl, _, (drf_fields t2).mono e3.kp, .inr ⟨dx, rfl, upd_same, sa⟩⟩
    · exact p1.elim
variable {body suite : List Stmt} {b₀ : Stmt} {np : Pos} {u v : SemS}
theorem ss_tryO {l : List (Nat × Bool)} {C : Addr} (hs : X.stack = X.env :: X.outer) (hf : X.env.frame = some X.env.locals) (hg : Gl X x) (hm : X.mg x = some (.ref C)) (tk : Takes X W)
    (hx : ∀ D b, l.lookup D = some b → PySem.W.exmOne X.K (.ref (ct.ca D)) (.ref C) = some b)
    (hb : ∀ (W : WX) (pn : List (Addr × Obj)) (xe : Value → Shared → Prop), Takes (X.tr pn xe) W → PassesOwn (model X.prog X.w) X.A X.env xe → SSs (X.tr pn xe) ct W body u)
    (hsu : ∀ (a : Addr) (pn : List (Addr × Obj)), SSs (X.suite a pn) ct W0 (b₀ :: suite) v) (hdb : (x == ("__debug__" : Str)) = false := by decide) :
    SS X ct W (.Try body [.ExceptHandler (some (.Name x np)) none (b₀ :: suite) pos'] [] [] pos) (sTryO l u v) := by
  refine PS.imp (ps_try_only (tb := fun W => rdS X.K ct W u) (ts := fun _ _ _ => rdS X.K ct W0 v) hs hf ⟨hg, hdb, .inl hm⟩ tk hb (fun a oe cls d pn _ _ => hsu a _)) fun D σV H ⟨m, ah, σ, hr, lr, p⟩ => ⟨m, ah, σ, hr, lr, ?_⟩
  unfold sTryO at p
  cases q : u σ ah with
  | bad => rw [q] at p; exact p.elim
  | ok f σ1 h1 => rw [q] at p; exact p
  | exc ex σ1 h1 =>
    rw [q] at p
    dsimp only at p
    cases ql : l.lookup ex.C with
    | none => rw [ql] at p; exact p.elim
    | some b =>
      rw [ql] at p
      intro m1 H1 σV1 cls d hr1 e1 l1 x1
      have ec := x1.1
      refine ⟨b, by rw [ec]; exact hx _ _ ql, fun hb => ?_, fun hb => ?_⟩
      · subst hb
        dsimp only at p
        intro a _
        refine ⟨m1, h1, σ1, hr1, l1, ?_⟩
        cases qv : v σ1 h1 with
        | bad => rw [qv] at p; exact p.elim
        | exc _ _ _ => rw [qv] at p; exact p.elim
        | ok f σ2 h2 => rw [qv] at p; exact PoS.ext (r := .ok f σ2 h2) p e1
      · subst hb
        exact p m1 H1 σV1 cls d hr1 e1 l1 x1
end
section
variable {σ : Lo} {h : Hs} {fs : SemA} {u v : SemS}
@[simp] theorem ap_rzB (C : Nat) : sRzB C σ h = .exc ⟨C, []⟩ σ h := rfl
@[simp] theorem ap_rz (C : Nat) (ks : List Nat) : sRz C ks fs σ h = sb (fs σ h) σ fun xs h1 => match toDs xs h1 with
  | some (ds, h2) => if ds.length = ks.length then .exc ⟨C, (ks.zip ds).reverse⟩ σ h2 else .bad
  | none => .bad := rfl
@[simp] theorem ap_tryO (l : List (Nat × Bool)) : sTryO l u v σ h = match u σ h with
  | .exc e σ' h' => (match l.lookup e.C with
    | some true => (match v σ' h' with
      | .exc _ _ _ => .bad
      | r => r)
    | some false => .exc e σ' h'
    | none => .bad)
  | r => r := rfl
end
end Mi

/-! Mi39: tuple(text), text.index(sign) -/
namespace Mi
open PySem PySem.Spec L2
open PySem

section
variable {prog : Program} {w : World} {A : Around} {E : Value → Shared → Prop} {s : Shared}
theorem code_tuple_new_str {x : Str} {t : Tok} {Q₁ : Value → Shared → Prop} (hh : A.handled = none) (hn : x.cps.size ≤ sizeLine)
    (h : ∀ (s' : Shared) (acc : Array Value), (∀ b o, s.heap.get? b = some o → s'.heap.get? b = some o) → s'.gens = s.gens → s'.drawn = s.drawn → s'.os = s.os → ItemsOf (SignAt x) acc x.cps.size →
      Q₁ (.ref s'.heap.objs.size) { s' with heap := s'.heap.push { cls := .type "tuple", data := .seq acc } }) :
    codeAny (model prog w) A (.call (.builtin "tuple.__new__") ⟨[.type "tuple", .str x t], []⟩) (wants Q₁ E) s := by
  refine codeAny_of_tree ?_
  show wpAny _ A.in1 (do checkBuiltinCall "tuple.__new__" ⟨[.type "tuple", .str x t], []⟩; again (.builtin "tuple.__new__" ⟨[.type "tuple", .str x t], []⟩)) _ _ s
  refine wpAny_bind (wpAny_of_eq (F.newCall_tuple_1 _) (wpAny_pure ⟨plainId_quiet F.plain_tuple_new _, codeAny_builtin F.entry_tuple_new ?_⟩))
  rw [Around.under_plainId F.plain_tuple_new _]
  have hsub := sub_tuple_self
  have hinit := init_tuple_lookup
  have hmh := madeHere_tuple
  have hTI : s.TypeIs (.str x t) "str" := rfl
  have hh1 : A.in1.handled = none := hh
  wp_walk using wpAny_typeOf hTI, wpAny_collect_str (A := A.in1) hh1 x t
  intro s' acc hk hg hd ho hacc
  show wpAny _ _ (Builtin.Tuple.tupleExact acc.toList.toArray >>= fun v => ret v) _ _ _
  unfold Builtin.Tuple.tupleExact
  refine wpAny_bind (wpAny_newObj_type ?_ (by show acc.toList.toArray.size ≤ sizeLine; simp only [Array.toArray_toList]; rw [hacc.1]; exact hn))
  refine wpAny_pure ?_
  have e : acc.toList.toArray = acc := by simp
  rw [e]
  exact h s' acc hk hg hd ho hacc
theorem call_tuple_str {x : Str} {t : Tok} {Q : Value → Shared → Prop} (hh : A.handled = none) (hn : x.cps.size ≤ sizeLine)
    (hQ : ∀ (s' : Shared) (acc : Array Value), (∀ b o, s.heap.get? b = some o → s'.heap.get? b = some o) → s'.gens = s.gens → s'.drawn = s.drawn → s'.os = s.os → ItemsOf (SignAt x) acc x.cps.size →
      Q (.ref s'.heap.objs.size) { s' with heap := s'.heap.push { cls := .type "tuple", data := .seq acc } }) :
    wpAny (model prog w) A (call (.type "tuple") [.str x t]) Q E s := by
  refine callType_codes (Q₁ := fun obj s₁ => s₁.TypeIs obj "tuple" ∧ Q obj s₁) F.called_tuple (F.typeCall_tuple_1 _) F.entry_object_init
    (code_tuple_new_str (A := A.in1) hh hn fun s' acc hk hg hd ho hacc => ⟨⟨_, Heap.get?_push_size _ rfl, rfl⟩, hQ s' acc hk hg hd ho hacc⟩) fun obj s₁ h₁ => ?_
  exact ⟨h₁.1, F.args_object_init_2 obj _, object_init_meets F.called_tuple.init.lookup F.called_tuple.made (by decide) prog w A.in1 _ s₁ ⟨h₁.1, rfl, h₁.2⟩⟩
end
def strV (x : Str) : List V := x.cps.toList.map fun c => V.str ⟨#[c]⟩
theorem strV_drs {K : PySem.W.Frag} {ct : CT} {S : Addr → Prop} {H : Hp} (x : Str) : DRs K ct S H (strD x) (strV x) := by
  unfold strD strV
  generalize x.cps.toList = l
  induction l with
  | nil => exact .nil
  | cons a l ih => exact .cons (.str _) ih
theorem signs_vals {x : Str} {acc : Array Value} (h : ItemsOf (SignAt x) acc x.cps.size) : Vals (strV x) acc.toList := by
  have key : ∀ (l : List Value) (cs : List Nat), l.length = cs.length → (∀ (j : Nat) (v : Value), l[j]? = some v → ∃ c u, cs[j]? = some c ∧ v = .str ⟨#[c]⟩ u) → Vals (cs.map fun c => V.str ⟨#[c]⟩) l := by
    intro l
    induction l with
    | nil => intro cs e _; cases cs with
      | nil => exact .nil
      | cons _ _ => simp at e
    | cons v l ih => intro cs e hp; cases cs with
      | nil => simp at e
      | cons c cs =>
        obtain ⟨c', u, e1, e2⟩ := hp 0 v rfl
        cases e1
        subst e2
        exact .cons ⟨u, rfl⟩ (ih cs (by simpa using e) fun j v hj => hp (j + 1) v hj)
  refine key acc.toList x.cps.toList (by rw [Array.length_toList, Array.length_toList, h.1]) fun j v hj => ?_
  obtain ⟨c, u, e1, e2⟩ := h.2 j v (by rw [← Array.getElem?_toList]; exact hj)
  exact ⟨c, u, by rw [Array.getElem?_toList]; exact e1, e2⟩
theorem call_tupS {X : Cx} (hc : X.calm = true) : CallR X (.type "tuple") (fun xs H Q => ∃ x : Str, xs = [.str x] ∧ x.cps.size ≤ sizeLine ∧ ∀ a, H a = none → Q (.ref a) (upd H a (.tup (strV x)))) := by
  intro pins s σ H xs us Q I r h
  obtain ⟨x, rfl, hn, q⟩ := h
  obtain ⟨u, rfl, ru⟩ := vals1 r
  obtain ⟨t, rfl⟩ := ru
  refine call_tuple_str (I.ok.hd hc) hn fun s' acc hk hg hd ho hacc => ?_
  obtain ⟨h1, g1, d1, t1, o1⟩ := s'
  simp only at hg hd ho
  subst hg; subst hd; subst ho
  have I1 : Inv X pins σ H { s with heap := h1, toks := t1 } := I.kept hk
  have I2 : Inv X pins σ (upd H h1.objs.size (.tup (strV x))) { s with heap := h1.push { cls := .type "tuple", data := .seq acc }, toks := t1 } :=
    I1.laid (t' := t1) (fun b o e => Heap.get?_push_of_some _ e) (Nat.le_refl _) (show ObjOk X.prog X.w _ _ _ (.tup (strV x)) from ⟨by rw [strV, List.length_map, Array.length_toList]; exact hn, acc.toList, signs_vals hacc, _, Heap.get?_push_size _ rfl, rfl, 0, rfl⟩)
  exact ⟨.ref h1.objs.size, _, I2, rfl, q _ (I1.hok.fresh (Nat.le_refl _))⟩
def nTupS : OpN := fun xs h => match xs with
  | [.d (.str x)] => if Nat.ble x.cps.size sizeLine = true then some (.d (.tup (strD x)), h) else none
  | _ => none
theorem tupS_sound {X : Cx} {ct : CT} (hc : X.calm = true) : CallR X (.type "tuple") (rN X.K ct nTupS) := by
  refine CallR.imp (call_tupS hc) fun vs H Q ⟨m, ah, xs, hr, rs, p⟩ => ?_
  unfold nTupS at p
  split at p
  · cases rs with
    | cons r t =>
      cases t; cases r
      split at p
      · rename_i hl
        exact ⟨_, rfl, Nat.le_of_ble_eq_true hl, p.new hr fun a ha k s => new_tup (strV_drs _) k s⟩
      · exact p.elim
  · exact p.elim

/-! ### text.index(text) -/
def eSI (f : SemE) (g : SemA) : SemE := fun σ h => rb (f σ h) fun x h1 => match x with
  | .d (.str a) => rb (g σ h1) fun ys h2 => (match ys with
    | [.d (.str b)] => (match Builtin.Str.occurrences a b 0 a.length 1 with
      | i :: _ => .ok (.d (.int (i : Nat))) h2
      | [] => .bad)
    | _ => .bad)
  | _ => .bad
section
variable {X : Cx} {ct : CT} {W : WX} {o e : Expr} {f : SemE} {fs : SemA} {apos cpos : Pos}
theorem se_sindex (he : SE X ct W o f) (ha : SA X ct W [e] fs)
    (hb : attributeBase o "index" X.env (eval o X.env) = eval o X.env := by rfl)
    (hf : ((backTo cpos (starEach [e] X.env)).all (fun x => !x.1) && (backToKw cpos (keywordEach [] X.env)).all (fun x => x.1.isSome)
      && decide ([e].length + ([] : List Keyword).length + (if ([] : List Keyword).isEmpty then 0 else 1) < 30)) = true := by rfl)
    (hl : (apos.endLine == cpos.line) = true := by rfl) (hs : starEach [e] X.env = (false, eval e X.env) :: starEach [] X.env := by rfl) (hp : (backTo cpos (starEach [] X.env)).any (·.1) = false := by rfl) :
    SE X ct W (.Call (.Attribute o "index" apos) [e] [] cpos) (eSI f fs) :=
  PE.imp (pe_bm PySem.F.plainAttrs_str PySem.F.slot_str_index PySem.F.type_str_index mt_sindex he ha hb hf hl hs hp) fun σV H Q ⟨m, ah, σ, hr, lr, p⟩ => by
    refine ⟨m, ah, σ, hr, lr, (Po.bind (R := VlR X.K ct) p).imp fun v H1 ⟨m1, h1, x, hr1, e1, r1, p1⟩ => ?_⟩
    dsimp only at p1
    split at p1
    · rename_i a
      cases r1
      refine ⟨rfl, m1, h1, σ, hr1, lr.ext e1, (Po.bind (R := VlRs X.K ct) p1).imp fun us H2 ⟨m2, h2, ys2, hr2, e2, r2, p2⟩ => ?_⟩
      dsimp only at p2
      split at p2
      · rename_i b
        cases r2 with
        | cons ry tt =>
          cases tt
          cases ry
          split at p2
          · rename_i i rest q
            exact ⟨a, b, i, rest, rfl, rfl, q, p2 m2 H2 _ hr2 (Ext.refl _ _ _) (.int _)⟩
          · exact p2.elim
      · exact p2.elim
    · exact p1.elim
end
end Mi

/-! Mi40: sorted(set(xs)) of ints -/
namespace Mi
open PySem PySem.Spec L2 PyProof.Rows

section
variable {P : Program} {w : World} {A : Around} {E : Value → Shared → Prop} {s : Shared}
set_option maxHeartbeats 3200000 in
theorem call_set_listI {l : Addr} {items : Array Value} (ns : List Int) {Q : Value → Shared → Prop} (hh : A.handled = none) (hl : s.heap.IsList l items) (hit : IntsAre items.toList ns) (hb : ns.length + 1 < scanBound)
    (h : ∀ (h' : Heap) (tk c : Nat), SetR w h' s.heap.objs.size (fun j => decide (j ∈ ns)) c → c ≤ ns.length → (∀ b o, s.heap.get? b = some o → h'.get? b = some o) → Q (.ref s.heap.objs.size) { s with heap := h', toks := tk }) :
    wpAny (model P w) A (call (.type "set") [.ref l]) Q E s := by
  have hisz : items.size = ns.length := by
    have q := IntsAre.length hit
    rw [Array.length_toList] at q
    exact q
  obtain ⟨c, tl, hmro⟩ := F.called_set.mro
  have hmade := F.called_set.made
  have hsub := F.called_set.sub
  refine wpAny_call (codeAny_of_tree ?_)
  show wpAny _ _ (callAny (.type "set") _) _ _ _
  refine wpAny_pure ⟨Code.quiet_builtin _ (by decide +kernel), codeAny_builtin F.entry_type_call ?_⟩
  rw [Around.under_plain (weight_type_call_type "set" [.ref l] []) rfl]
  have h1 := F.called_set.notType
  have h2 := F.called_set.canCreate
  have hct := F.typeCall_set_1 (.ref l)
  repeat (any_goals (first | assumption | wp_step))
  refine codeAny_mono (code_set_led1 (.ref l) (E := E) (Q₁ := fun obj s₁ => obj = .ref s.heap.objs.size ∧ s₁ = { s with heap := s.heap.push { cls := .type "set", dict := none, data := .set #[] 0 (.fresh 0 0 (!w.params.followText "set-order")) } }) ⟨rfl, rfl⟩) fun r s₁ hr => ?_
  cases r with
  | error e => exact hr
  | ok fl =>
    cases fl with
    | ret obj =>
      obtain ⟨rfl, rfl⟩ := hr
      have hS : (s.heap.push { cls := .type "set", dict := none, data := .set #[] 0 (.fresh 0 0 (!w.params.followText "set-order")) }).get? s.heap.objs.size = some { cls := .type "set", dict := none, data := .set #[] 0 (.fresh 0 0 (!w.params.followText "set-order")) } := Heap.get?_push_size _ rfl
      have hT : Shared.TypeIs { s with heap := s.heap.push { cls := .type "set", dict := none, data := .set #[] 0 (.fresh 0 0 (!w.params.followText "set-order")) } } (.ref s.heap.objs.size) "set" := ⟨_, hS, rfl⟩
      have hli := F.called_set.init.lookup
      have hbi := F.called_set.init.bind (.ref s.heap.objs.size)
      repeat (any_goals (first | assumption | wp_step))
      refine codeAny_mono (codeAny_call_builtin (R := wants (fun r s₂ => r = .none ∧ ∃ h' tk c, s₂ = { s with heap := h', toks := tk } ∧ SetR w h' s.heap.objs.size (fun j => decide (j ∈ ns)) c ∧ c ≤ ns.length ∧
          (∀ b o, s.heap.get? b = some o → h'.get? b = some o)) E) F.called_set.init.plain F.entry_set_init (check_set_init_1 hT ?_)) fun r₂ s₂ hr₂ => ?_
      · obtain ⟨ol, hol, hcl, nl, hdl⟩ := hl
        obtain ⟨ocls, odict, odata, oslots⟩ := ol
        simp only at hcl hdl
        subst hcl; subst hdl
        have hol' : (s.heap.push { cls := .type "set", dict := none, data := .set #[] 0 (.fresh 0 0 (!w.params.followText "set-order")) }).get? l = some { cls := .type "list", dict := odict, data := .seq items nl, slots := oslots } := Heap.get?_push_of_some _ hol
        have hsls := F.sub_list_set
        have hslf := F.sub_list_frozenset
        have hne : (Value.type "list" == Value.type "dict") = false := by decide
        have hl1 : (s.heap.push { cls := .type "set", dict := none, data := .set #[] 0 (.fresh 0 0 (!w.params.followText "set-order")) }).IsList l items := ⟨_, hol', rfl, nl, rfl⟩
        unfold Builtin.«set.__init__» noKeywords Builtin.Frozenset.updateFrom
        generalize hPI : pyIter = PI
        wp_walk
        subst hPI
        refine wpAny_pyIter_list hl1 ?_
        refine wpAny_bind (wpAny_runValue ?_)
        have hlS : l < s.heap.objs.size := Heap.lt_size hol
        have hh3 : A.in1.in1.in1.handled = none := by simp [hh]
        have hneI : l ≠ (s.heap.push { cls := .type "set", dict := none, data := .set #[] 0 (.fresh 0 0 (!w.params.followText "set-order")) }).objs.size := by
          rw [Heap.size_push]; exact Nat.ne_of_lt (Nat.lt_succ_of_lt hlS)
        have hSf : s.heap.objs.size ∉ [(s.heap.push { cls := .type "set", dict := none, data := .set #[] 0 (.fresh 0 0 (!w.params.followText "set-order")) }).objs.size, l] := by
          rw [Heap.size_push]; simp only [List.mem_cons, List.mem_singleton, List.not_mem_nil, or_false, not_or]
          exact ⟨Nat.ne_of_lt (Nat.lt_succ_self _), Nat.ne_of_gt hlS⟩
        have hval : ∀ (i : Nat) (v : Value), items[i]? = some v → ∃ k t, ns[i]? = some k ∧ v = .int k t := fun i v hv => by
          have hi : i < ns.length := by rw [← hisz]; exact (Array.getElem?_eq_some_iff.mp hv).1
          obtain ⟨t, e⟩ := PyProof.Rows.IntsAre.int_at hit i v (by rw [Array.getElem?_toList]; exact hv)
          refine ⟨ns[i], t, List.getElem?_eq_getElem hi, ?_⟩
          rw [e, List.getD_eq_getElem?_getD, List.getElem?_eq_getElem hi] <;> rfl
        refine set_update_ints ((Walks.list hh3 _ l hneI items).toS) s.heap.objs.size
          hSf ns hisz hb hval (items.size - 0) 0 _ (by omega) (Nat.zero_le _)
          ⟨⟨_, Heap.get?_push_size _ rfl, rfl, rfl⟩, (hl1.push _)⟩ ?hS0 ?hR
        case hS0 =>
          have hget : ((s.heap.push { cls := .type "set", dict := none, data := .set #[] 0 (.fresh 0 0 (!w.params.followText "set-order")) }).push { cls := .type "list_iterator", data := .fields #[.ref l, .int 0 0] }).get? s.heap.objs.size
              = some { cls := .type "set", dict := none, data := .set #[] 0 (.fresh 0 0 (!w.params.followText "set-order")) } := Heap.get?_push_of_some _ hS
          exact ⟨0, Nat.le_refl 0, setR_new_at hget⟩
        case hR =>
          intro s' c' hm hc' hS'
          obtain ⟨h', g2, d', tk', os'⟩ := s'
          have eg : g2 = s.gens := hm.gens
          have ed : d' = s.drawn := hm.drawn
          have eo : os' = s.os := hm.os
          subst eg; subst ed; subst eo
          show wpAny _ _ _ _ _ _
          refine wpAny_pure ?_
          show wpAny _ _ (ret Value.none) _ _ _
          rw [hisz] at hc'
          refine wpAny_pure ⟨rfl, h', tk', c', rfl, hS', hc', fun b o e => ?_⟩
          have hb0 : b < s.heap.objs.size := Heap.lt_size e
          have hb1 : b ≠ s.heap.objs.size := Nat.ne_of_lt hb0
          have hb2 : b ≠ (s.heap.push { cls := .type "set", dict := none, data := .set #[] 0 (.fresh 0 0 (!w.params.followText "set-order")) }).objs.size := by
            rw [Heap.size_push]; exact Nat.ne_of_lt (Nat.lt_succ_of_lt hb0)
          exact hm.heap b o (by simp only [List.mem_cons, List.mem_singleton, List.not_mem_nil, or_false, not_or]; exact ⟨hb1, hb2⟩) (Heap.get?_push_of_some _ (Heap.get?_push_of_some _ e))
      · cases r₂ with
        | error e => exact hr₂
        | ok fl₂ =>
          cases fl₂ with
          | ret r =>
            obtain ⟨rfl, h', tk, c', rfl, hS', hc', hk'⟩ := hr₂
            repeat (any_goals (first | assumption | wp_step))
            exact h _ _ _ hS' hc' hk'
          | _ => exact hr₂.elim
    | _ => exact hr.elim
end

/-! ### the ints of a list, ascending, each once -/
def insI (x : Int) : List Int → List Int
  | [] => [x]
  | y :: l => if x < y then x :: y :: l else if x = y then y :: l else y :: insI x l
def sIns (l : List Int) : List Int := l.foldr insI []
theorem mem_insI {x k : Int} : ∀ {l : List Int}, k ∈ insI x l ↔ k = x ∨ k ∈ l
  | [] => by simp [insI]
  | y :: l => by
    unfold insI
    split
    · simp
    · split
      · rename_i h1 h2
        subst h2
        simp
      · rw [List.mem_cons, mem_insI, List.mem_cons]
        constructor
        · rintro (h | h | h) <;> simp [h]
        · rintro (h | h | h) <;> simp [h]
theorem lt_insI {x : Int} : ∀ {l : List Int}, l.Pairwise (· < ·) → (insI x l).Pairwise (· < ·)
  | [], _ => by simp [insI]
  | y :: l, h => by
    obtain ⟨h1, h2⟩ := List.pairwise_cons.mp h
    unfold insI
    split
    · rename_i hxy
      exact List.pairwise_cons.mpr ⟨fun z hz => (List.mem_cons.mp hz).elim (fun e => e ▸ hxy) (fun hz => Int.lt_trans hxy (h1 z hz)), h⟩
    · split
      · exact h
      · rename_i a b
        refine List.pairwise_cons.mpr ⟨fun z hz => ?_, lt_insI h2⟩
        rcases mem_insI.mp hz with rfl | hz
        · omega
        · exact h1 z hz
theorem mem_sIns {k : Int} : ∀ {l : List Int}, k ∈ sIns l ↔ k ∈ l
  | [] => by simp [sIns]
  | x :: l => by
    show k ∈ insI x (sIns l) ↔ _
    rw [mem_insI, mem_sIns, List.mem_cons]
theorem lt_sIns : ∀ {l : List Int}, (sIns l).Pairwise (· < ·)
  | [] => List.Pairwise.nil
  | x :: l => lt_insI (lt_sIns (l := l))
theorem asc_uniq : ∀ {l m : List Int}, l.Pairwise (· < ·) → m.Pairwise (· < ·) → (∀ k, k ∈ l ↔ k ∈ m) → l = m
  | [], [], _, _, _ => rfl
  | [], y :: m, _, _, h => absurd ((h y).mpr List.mem_cons_self) (by simp)
  | x :: l, [], _, _, h => absurd ((h x).mp List.mem_cons_self) (by simp)
  | x :: l, y :: m, hl, hm, h => by
    obtain ⟨l1, l2⟩ := List.pairwise_cons.mp hl
    obtain ⟨m1, m2⟩ := List.pairwise_cons.mp hm
    have e : x = y := by
      rcases List.mem_cons.mp ((h x).mp List.mem_cons_self) with a | a
      · exact a
      · rcases List.mem_cons.mp ((h y).mpr List.mem_cons_self) with b | b
        · exact b.symm
        · have := m1 x a; have := l1 y b; omega
    subst e
    rw [asc_uniq l2 m2 fun k => ?_]
    constructor
    · intro hk
      rcases List.mem_cons.mp ((h k).mp (List.mem_cons_of_mem _ hk)) with a | a
      · have := l1 k hk; omega
      · exact a
    · intro hk
      rcases List.mem_cons.mp ((h k).mpr (List.mem_cons_of_mem _ hk)) with a | a
      · have := m1 k hk; omega
      · exact a

def eSs (f : SemE) : SemE := fun σ h => rb (f σ h) fun x h1 => match lstOf x h1 with
  | some ds => (match intsOf ds with
    | some ns => if ns.length < 64 then .ok (.d (.lv ((sIns ns).map D.int))) h1 else .bad
    | none => .bad)
  | none => .bad
section
variable {X : Cx} {ct : CT} {W : WX} {a : Expr} {f : SemE} {p p2 q pos : Pos}
def tSortSet (K : PySem.W.Frag) (ta : TE) : TE := fun σ H Q => ta σ H fun x H1 => ∃ (l : Addr) (ns : List Int), x = V.ref l ∧ SqL K H1 l (ns.map V.int) ∧ ns.length < 64 ∧ ∀ p, H1 p = none → Q (.ref p) (upd H1 p (.lst ((sIns ns).map V.int)))
theorem pe_sortSet {ta : TE} (hc : X.calm = true) (hg : Gl X "sorted") (hm : X.mg "sorted" = none) (hg2 : Gl X "set") (hm2 : X.mg "set" = none) (ha : PE X a ta)
    (na : starEach [a] X.env = (false, eval a X.env) :: starEach [] X.env := by rfl) : PE X (.Call (.Name "sorted" p) [.Call (.Name "set" p2) [a] [] q] [] pos) (tSortSet X.K ta) := by
  refine ⟨fun pins s σ H Q I h => ?_⟩
  refine Call_ (ld_blt I hg hm (by decide +kernel : bootBuiltins "sorted" = some (.builtin "sorted")) ?_)
  refine PyProof.Rows.callWith_builtin1 (PyProof.Rows.args_cons ?_ rfl) rfl rfl
  refine Call_ (ld_blt I hg2 hm2 PyProof.Rows.boot_set ?_)
  refine PyProof.Rows.callWith_type1 (PyProof.Rows.args_cons (thn (ha.run pins s σ H _ I h) fun v s1 ⟨x, H1, I1, r1, q1⟩ => PyProof.Rows.args_nil ?_) na) na rfl
  obtain ⟨l, ns, rfl, hq, h1, q1⟩ := q1
  cases r1
  obtain ⟨its, r, pl, hz⟩ := I1.list hq
  refine call_set_listI ns (I1.ok.hd hc) pl.isList (by simpa using r.ints) (by unfold scanBound; omega) fun h' tk c R hc' hk => ?_
  refine PyProof.Rows.args_nil ?_
  have I2 : Inv X pins σ H1 { s1 with heap := h', toks := tk } := I1.kept hk
  refine sorted_set R (I2.ok.hd hc) (by omega) fun s' p out c2 ms k g o hp hg' hi hs hm' hl => ?_
  have em : ms = sIns ns := asc_uniq hs lt_sIns fun k => by rw [hm', mem_sIns]; simp
  have hlen : (ms.map V.int).length ≤ sizeLine := by rw [List.length_map, hl, sizeLine_eq]; omega
  have hn : H1 p = none := I2.hok.fresh hp
  have un := Un.laid (fs := frs X.stack) (ex := []) (o := .lst (ms.map V.int)) k hp hn
  have hok := I2.hok.laid (o := .lst (ms.map V.int)) k hp ⟨hlen, out.toList, c2, vals_of_ints hi, hg'⟩
  have J := Inv.call (s := { s1 with heap := h', toks := tk }) (g' := s'.gens) (d' := s'.drawn) (t' := s'.toks) (h' := s'.heap) (H' := upd H1 p (.lst (ms.map V.int))) (ch := []) I2 un hok (by rw [g]; exact I2.bare) (fun _ z => nomatch z)
  have e : s' = { s1 with heap := s'.heap, gens := s'.gens, drawn := s'.drawn, toks := s'.toks } := by
    cases s'
    cases s1
    cases o
    rfl
  rw [e]
  subst em
  exact ⟨.ref p, _, J, rfl, q1 p hn⟩
theorem ints_drs {K : PySem.W.Frag} {S : Addr → Prop} {H : Hp} : ∀ l : List Int, DRs K ct S H (l.map D.int) (l.map V.int)
  | [] => .nil
  | x :: l => .cons (.int x) (ints_drs l)
theorem se_sortSet (hc : X.calm = true) (hg : Gl X "sorted") (hm : X.mg "sorted" = none) (hg2 : Gl X "set") (hm2 : X.mg "set" = none) (ha : SE X ct W a f)
    (na : starEach [a] X.env = (false, eval a X.env) :: starEach [] X.env := by rfl) : SE X ct W (.Call (.Name "sorted" p) [.Call (.Name "set" p2) [a] [] q] [] pos) (eSs f) :=
  PE.imp (pe_sortSet hc hg hm hg2 hm2 ha na) fun σV H Q ⟨m, ah, σ, hr, lr, p⟩ => ⟨m, ah, σ, hr, lr, (Po.bind (R := VlR X.K ct) p).imp fun v H1 ⟨m1, h1, x, hr1, e1, r1, p1⟩ => by
    dsimp only at p1
    cases q : lstOf x h1 with
    | none => rw [q] at p1; exact p1.elim
    | some ds =>
      rw [q] at p1
      dsimp only at p1
      cases q2 : intsOf ds with
      | none => rw [q2] at p1; exact p1.elim
      | some ns =>
        rw [q2] at p1
        dsimp only at p1
        split at p1
        · rename_i hl
          obtain ⟨l, vs, rfl, g1, t⟩ := lst_of hr1 q r1
          have ev := intsOf_drs q2 t
          subst ev
          refine ⟨l, ns, rfl, .of g1, hl, fun pa ha => ?_⟩
          exact p1 m1 _ _ (hr1.pure (o := .lst ((sIns ns).map V.int)) ha).1 (hr1.pure (o := .lst ((sIns ns).map V.int)) ha).2.1 (new_lv (ints_drs _) (hr1.pure (o := .lst ((sIns ns).map V.int)) ha).2.1.kp (hr1.freshS ha))
        · exact p1.elim⟩
@[simp] theorem ap_ss {σ : Lo} {h : Hs} : eSs f σ h = rb (f σ h) fun x h1 => match lstOf x h1 with
  | some ds => (match intsOf ds with
    | some ns => if ns.length < 64 then .ok (.d (.lv ((sIns ns).map D.int))) h1 else .bad
    | none => .bad)
  | none => .bad := rfl
end
end Mi

/-! Mi41: min of a list of data, dict of a list of pairs -/
namespace Mi
open PySem PySem.Spec L2

/-! ### min -/
def minF : List D → Option D
  | [] => none
  | x :: xs => some (xs.foldl (fun a y => if ltD y a then y else a) x)
def nMinD : OpN := fun xs h => match xs with
  | [x] => (match lstOf x h with
    | some ds => if ((ds.all shp && (ds.all fun a => ds.all fun b => PySem.W.alike a.pd b.pd)) && ds.all fun a => !isNon (.d a)) = true then (minF ds).map fun d => (.d d, h) else none
    | none => none)
  | _ => none
theorem pds_getD (ds : List D) (i : Nat) : (D.pds ds).getD i .none = (ds.getD i .non).pd := by
  rw [List.getD_eq_getElem?_getD, pds_get, List.getD_eq_getElem?_getD]
  cases ds[i]? with
  | none => rfl
  | some d => rfl
theorem vals_get : ∀ {vs : List V} {us : List Value} {i : Nat} {u : Value}, Vals vs us → us[i]? = some u → ∃ v, vs[i]? = some v ∧ RelV v u
  | _, _, _, _, .nil, h => by simp at h
  | _, _, 0, _, .cons r _, h => by simp at h; subst h; exact ⟨_, rfl, r⟩
  | _, _, i + 1, u, .cons _ t, h => by
    obtain ⟨v, a, b⟩ := vals_get (i := i) (u := u) t (by simpa using h)
    exact ⟨v, by simpa using a, b⟩
theorem depth_all {B : Nat} : ∀ {ds : List PyData}, (∀ d ∈ ds, d.depth ≤ B) → PyData.depthAll ds ≤ B
  | [], _ => by simp [PyData.depthAll]
  | d :: ds, h => by
    have h1 := h d List.mem_cons_self
    have h2 := depth_all (ds := ds) fun x hx => h x (List.mem_cons_of_mem _ hx)
    simp only [PyData.depthAll]
    omega
theorem dps_of' {K : PySem.W.Frag} {ct : CT} {S : Addr → Prop} {H : Hp} : ∀ {d : List D} {v : List V}, DRs K ct S H d v → d.all shp = true → DpAll K H v (D.pds d)
  | _, _, .nil, _ => by simp only [D.pds]; exact .nil
  | _, _, .cons r t, c => by
    simp only [List.all_cons, Bool.and_eq_true] at c
    simp only [D.pds]
    exact .cons (dp_of r (SeqAt.canLay_of_shaped c.1)) (dps_of' t c.2)
section
variable {X : Cx} {ct : CT}
theorem min_sound {k : Nat} (hc : X.calm = true) (hr : Room k X.A) : CallR X (.builtin "min") (rN X.K ct nMinD) := by
  intro pins s σ H vs us Q I rv ⟨m, ah, xs, h1, rs, p⟩
  unfold nMinD at p
  split at p
  · cases rs with
    | cons r t =>
      cases t
      split at p
      · rename_i ds e
        split at p
        · rename_i hk
          simp only [Bool.and_eq_true] at hk
          obtain ⟨⟨k1, k2⟩, k3⟩ := hk
          cases ds with
          | nil => exact p.elim
          | cons d ds =>
            obtain ⟨a, ws, rfl, ha, t2⟩ := lst_of h1 e r
            obtain ⟨u, rfl, ru⟩ := rv.one
            obtain rfl : u = Value.ref a := ru
            obtain ⟨its, rit, hl, hz⟩ := I.list (SqL.of (K := X.K) ha)
            obtain ⟨as, hra⟩ := Dp.readsAll I _ _ _ (dps_of' t2 k1) rit
            have un := hr.un
            have hal : PySem.W.AlikeAll (D.pds (d :: ds)) := by
              refine ⟨fun x hx y hy => ?_, fun x hx => ?_⟩
              · rw [pds_eq_map] at hx hy
                obtain ⟨x', hx', rfl⟩ := List.mem_map.mp hx
                obtain ⟨y', hy', rfl⟩ := List.mem_map.mp hy
                exact List.all_eq_true.mp (List.all_eq_true.mp k2 _ hx') _ hy'
              · rw [pds_eq_map] at hx
                obtain ⟨x', hx', rfl⟩ := List.mem_map.mp hx
                exact isNon_pd (List.all_eq_true.mp k3 _ hx')
            have hdep : PyData.depthAll (D.pds (d :: ds)) ≤ 64 := depth_all fun x hx => by
              rw [pds_eq_map] at hx
              obtain ⟨x', hx', rfl⟩ := List.mem_map.mp hx
              have := SeqAt.depth_of_shaped (List.all_eq_true.mp k1 _ hx')
              omega
            have hlen : its.toArray.size = ds.length + 1 := by rw [List.size_toArray, ← rit.length, ← t2.length]; rfl
            refine PySem.call_min_walkH (PySem.W.iter_listW (A := X.A.in1) (I.ok.hd hc) hl.isList fun s₂ e2 W st hfp hw hkp => ?_)
            refine ⟨_, _, _, _, _, _, _, s.heap, _, rfl, W, st, hfp, by omega, hw, hkp, PySem.W.cmpIn_lt (A := X.A.in1) hra hal (by show X.A.units + 1 + _ < _; omega), fun v s' hP mv => ?_⟩
            obtain ⟨h', tk, rfl, hk'⟩ := PySem.W.moved_old e2 rfl mv
            have hbt : (fun i j => PySem.W.dataLt ((D.pds (d :: ds)).getD i .none) ((D.pds (d :: ds)).getD j .none)) = fun i j => ltD ((d :: ds).getD i .non) ((d :: ds).getD j .non) := by
              funext i j
              rw [pds_getD, pds_getD]; rfl
            rw [hbt, hlen, Nat.add_sub_cancel] at hP
            obtain ⟨b1, b2⟩ := PySem.W.argBest_fold ltD D.non d ds ds.length (Nat.le_refl _)
            rw [List.take_length] at b2
            rw [List.getElem?_toArray] at hP
            obtain ⟨y, hy, ry⟩ := vals_get rit hP
            obtain ⟨z, hz', rz⟩ := t2.getV hy
            have ez : z = ds.foldl (fun a y => if ltD y a then y else a) d := by
              rw [← b2, List.getD_eq_getElem?_getD, hz']; rfl
            subst ez
            exact ⟨y, H, I.kept hk', ry, p.same h1 rz⟩
        · exact p.elim
      · exact p.elim
  · exact p.elim
end

/-! ### dict(pairs) -/
def pairsT : List D → Option (List (List Key × D))
  | [] => some []
  | .tup [k, v] :: r => (keyT k).bind fun key => (pairsT r).map ((key, v) :: ·)
  | _ => none
def nDictP : OpN := fun xs h => match xs with
  | [x] => (match lstOf x h with
    | some ds => (match pairsT ds with
      | some kvs => if (kvs.map (·.1)).Nodup then some (.d (.dt kvs), h) else none
      | none => none)
    | none => none)
  | _ => none
theorem keyT_of {K : PySem.W.Frag} {ct : CT} {S : Addr → Prop} {H : Hp} {k : D} {v : V} {key : List Key} (r : DR K ct S H k v) (e : keyT k = some key) : ∃ b, v = .ref b ∧ H b = some (.tup (key.map kV)) := by
  unfold keyT at e
  split at e
  · cases r with
    | tup h1 t =>
      have ew := keys_of t e
      subst ew
      exact ⟨_, rfl, h1.1⟩
  · cases e
abbrev PE5 := Addr × List Key × Addr × Value × V
theorem pairs_of {X : Cx} {ct : CT} {pins : List (Addr × Obj)} {σ : L2.St} {H : Hp} {s : Shared} {S : Addr → Prop} (I : Inv X pins σ H s) : ∀ {ds : List D} {vs : List V} {us : List Value} {kvs : List (List Key × D)}, DRs X.K ct S H ds vs → Vals vs us → pairsT ds = some kvs →
    ∃ L : List PE5, us = L.map (fun e => Value.ref e.1) ∧ kvs.map (·.1) = L.map (·.2.1) ∧ (∀ e ∈ L, H e.2.2.1 = some (.tup (e.2.1.map kV)) ∧ RelV e.2.2.2.2 e.2.2.2.1 ∧ s.heap.IsTuple e.1 #[.ref e.2.2.1, e.2.2.2.1]) ∧ DRt X.K ct S H kvs (L.map fun e => (e.2.1, e.2.2.2.2))
  | _, _, _, _, .nil, .nil, e => by
    cases e
    exact ⟨[], rfl, rfl, fun e (h : e ∈ ([] : List PE5)) => (List.not_mem_nil h).elim, DRt.nil⟩
  | _, _, _, _, .cons (d := d) r t, .cons q w, e => by
    unfold pairsT at e
    split at e
    · rename_i e0; cases e0
    · rename_i k v r' e0
      cases e0
      obtain ⟨key, e1, e2⟩ := Option.bind_eq_some_iff.mp e
      obtain ⟨kvs', e3, rfl⟩ := Option.map_eq_some_iff.mp e2
      obtain ⟨L, l1, l2, l3, l4⟩ := pairs_of I t w e3
      cases r with
      | tup h1 t1 =>
        cases t1 with
        | cons rk t1 => cases t1 with
          | cons rv t1 =>
            cases t1
            obtain ⟨b, rfl, hb⟩ := keyT_of rk e1
            obtain ⟨its, ri, pl, hz⟩ := Inv.tuple I (.inl (.inl h1.1))
            cases ri with
            | cons r1 ri => cases ri with
              | cons r2 ri =>
                cases ri
                rename_i a _ _ _ u1 u2
                obtain rfl : u1 = Value.ref b := r1
                have eq : _ = Value.ref _ := q
                subst eq
                refine ⟨(_, key, b, u2, _) :: L, by rw [l1]; rfl, by rw [List.map_cons, List.map_cons, l2], fun e he => ?_, .cons rv l4⟩
                rcases List.mem_cons.mp he with rfl | he
                · exact ⟨hb, r2, pl⟩
                · exact l3 e he
    · cases e
theorem stored_all {κ : Type} [DecidableEq κ] : ∀ (ps acc : List (κ × Addr × Value)), ((acc ++ ps).map (·.1)).Nodup → storedAllH acc ps = acc ++ ps
  | [], acc, _ => by simp [storedAllH]
  | p :: ps, acc, h => by
    have hn : atKey acc p.1 = none := by
      cases q : atKey acc p.1 with
      | none => rfl
      | some z =>
        exfalso
        have hm : p.1 ∈ acc.map (·.1) := by
          unfold atKey at q
          obtain ⟨y, hy, _⟩ := Option.map_eq_some_iff.mp q
          have h1 := List.find?_some hy
          have h2 := List.mem_of_find?_eq_some hy
          exact List.mem_map.mpr ⟨y, h2, by simpa using h1⟩
        rw [List.map_append, List.map_cons] at h
        have := (List.nodup_append.mp h).2.2 _ hm _ List.mem_cons_self
        exact this rfl
    have e : storedAllH acc (p :: ps) = storedAllH (acc ++ [p]) ps := by
      show List.foldl _ (storedH acc p.1 p.2.1 p.2.2) ps = _
      rw [storedH_new hn]; rfl
    rw [e, stored_all ps (acc ++ [p]) (by simpa using h)]
    simp
section
variable {X : Cx} {ct : CT}
theorem dictP_sound {k : Nat} (hc : X.calm = true) (hr : Room k X.A) : CallR X (.type "dict") (rN X.K ct nDictP) := by
  intro pins s σ H vs us Q I rv ⟨m, ah, xs, h1, rs, p⟩
  unfold nDictP at p
  split at p
  · cases rs with
    | cons r t =>
      cases t
      split at p
      · rename_i ds e
        split at p
        · rename_i kvs ek
          split at p
          · rename_i hnd
            obtain ⟨a, ws, rfl, ha, t2⟩ := lst_of h1 e r
            obtain ⟨u, rfl, ru⟩ := rv.one
            obtain rfl : u = Value.ref a := ru
            obtain ⟨its, rit, hl, hz⟩ := I.list (SqL.of (K := X.K) ha)
            obtain ⟨L, l1, l2, l3, l4⟩ := pairs_of I t2 rit ek
            have un := hr.un
            have hlen : L.length ≤ sizeLine := by
              have e1 := rit.length
              have e2 := congrArg List.length l1
              rw [List.length_map] at e2
              omega
            have hok : s.heap.get? a = s.heap.get? a := rfl
            have P := PairArg.list (prog := X.prog) (w := X.w) a its.toArray (fun j => ((L[j]?).map (·.1)).getD 0) (L.map fun e => (Value.ref e.2.2.1, e.2.2.2.1))
            have hL : (L.map fun e => (Value.ref e.2.2.1, e.2.2.2.1)).length = L.length := List.length_map _
            refine call_dict_pairsH (knd := tupleKind (mixKind X.prog X.w)) (ps := L.map fun e => (e.2.1, e.2.2.1, e.2.2.2.1)) P (I.ok.hd hc) (by show X.A.units + 1 + 1 < cLine; omega) ⟨?_, ?_, ?_⟩ ⟨?_, ?_⟩ ?_ (by rw [hL]; exact hlen) ?_
            · obtain ⟨o, n, hrest⟩ := hl
              exact ⟨o, n, hrest⟩
            · rw [List.size_toArray, l1, List.length_map, List.length_map]
            · intro j kk v hj
              rw [List.getElem?_map] at hj
              obtain ⟨z, hz1, hz2⟩ := Option.map_eq_some_iff.mp hj
              cases hz2
              refine ⟨?_, .inl ?_⟩
              · rw [List.getElem?_toArray, l1, List.getElem?_map]
                show _ = some (Value.ref ((Option.map (fun x => x.1) L[j]?).getD 0))
                rw [hz1]; rfl
              · show s.heap.IsTuple ((Option.map (fun x => x.1) L[j]?).getD 0) _
                rw [hz1]
                exact (l3 _ (List.mem_of_getElem? hz1)).2.2
            · rw [List.length_map, List.length_map]
            · intro i key v hR
              have hR' : (L.map fun e => (Value.ref e.2.2.1, e.2.2.2.1))[i]? = some (key, v) := hR
              rw [List.getElem?_map] at hR'
              obtain ⟨z, hz1, hz2⟩ := Option.map_eq_some_iff.mp hR'
              cases hz2
              exact ⟨z.2.1, z.2.2.1, by rw [List.getElem?_map, hz1]; rfl, rfl⟩
            · intro h' hkp x hx
              obtain ⟨z, hz1, rfl⟩ := List.mem_map.mp hx
              have hkz := L2.key_of I.hok (l3 z hz1).1
              obtain ⟨o, it, n, ho, r'⟩ := hkz
              exact ⟨o, it, n, hkp _ _ (Nat.ne_of_lt (Heap.lt_size ho)) (fun z => nomatch z) ho, r'⟩
            · intro h' tk hd hk
              rw [stored_all _ [] (by
                rw [List.nil_append, List.map_map]
                have e1 : (L.map ((fun x : List Key × Addr × Value => x.1) ∘ fun e : PE5 => (e.2.1, e.2.2.1, e.2.2.2.1))) = L.map (·.2.1) := rfl
                rw [e1, ← l2]; exact hnd), List.nil_append] at hd
              have hm : (s.heap.objs.size == sysModules) = false := beq_eq_false_iff_ne.mpr (Nat.ne_of_gt I.big)
              have hk' : ∀ b o, s.heap.get? b = some o → h'.get? b = some o := fun b o q => hk b o (fun z => nomatch z) q
              have hnone : H s.heap.objs.size = none := I.hok.fresh (Nat.le_refl _)
              obtain ⟨o, es, ep, d1, d2, d3, d4, _, d5⟩ := hd
              have new : ObjOk X.prog X.w (upd H s.heap.objs.size (.dT (L.map fun e => (e.2.1, e.2.2.2.2)))) h' s.heap.objs.size (.dT (L.map fun e => (e.2.1, e.2.2.2.2))) := by
                refine ⟨by rw [List.length_map]; exact hlen, hm, L.map fun e => (e.2.1, e.2.2.1, e.2.2.2.1), ?_, o, es, ep, d1, d2, d3, d4, d5⟩
                have key : ∀ L' : List PE5, (∀ e ∈ L', H e.2.2.1 = some (.tup (e.2.1.map kV)) ∧ RelV e.2.2.2.2 e.2.2.2.1) → Paired (fun (p : List Key × V) (q : List Key × Addr × Value) => p.1 = q.1 ∧ upd H s.heap.objs.size (.dT (L.map fun e => (e.2.1, e.2.2.2.2))) q.2.1 = some (.tup (p.1.map kV)) ∧ RelV p.2 q.2.2) (L'.map fun e => (e.2.1, e.2.2.2.2)) (L'.map fun e => (e.2.1, e.2.2.1, e.2.2.2.1)) := by
                  intro L' hL'
                  induction L' with
                  | nil => exact Paired.nil
                  | cons z L' ih =>
                    refine Paired.cons ⟨rfl, ?_, (hL' z List.mem_cons_self).2⟩ (ih fun e he => hL' e (List.mem_cons_of_mem _ he))
                    have hz1 := (hL' z List.mem_cons_self).1
                    rw [upd_ne (ne_of_none hz1 hnone)]
                    exact hz1
                exact key L fun e he => ⟨(l3 e he).1, (l3 e he).2.1⟩
              have J := I.laid (t' := tk) (a := s.heap.objs.size) (h' := h') hk' (Nat.le_refl _) new
              obtain ⟨hr3, ex3, sa⟩ := h1.pure (o := .dT (L.map fun e => (e.2.1, e.2.2.2.2))) hnone
              exact ⟨.ref s.heap.objs.size, _, J, rfl, p m _ _ hr3 ex3 (.dt upd_same sa (l4.mono ex3.kp))⟩
          · exact p.elim
        · exact p.elim
      · exact p.elim
  · exact p.elim
end
@[simp] theorem n_dictP (xs : List D) (h : Hs) : nDictP [.d (.lv xs)] h = match pairsT xs with
  | some kvs => if (kvs.map (·.1)).Nodup then some (.d (.dt kvs), h) else none
  | none => none := rfl
end Mi

/-! Mi42: calls of own methods; applied meanings -/
namespace Mi
open PySem PySem.Spec L2
section
variable {X : Cx} {ct : CT} {W : WX} {fns : List Fn} {call : CallT} {n : Nat} {F : Fn} {i : Nat} {o e : Expr} {es : List Expr} {f : SemE} {fs : SemA} {apos pos : Pos}
theorem sc_meth {mm : Str} {C : Nat} {pl : Sem Bool} (c : Cq X ct fns call n) (tk : Takes X W) (fi : FnI X.K F) (M : Meth X.K (ct.ca C) mm F.f) (cl : Cls X.K (ct.ca C)) (hF : fns[i]? = some F) (hn : ∀ n, ct.nm n ≠ mm) (he : SE X ct W o f) (ha : SA X ct W (e :: es) fs)
    (hst : starEach (e :: es) X.env = (false, eval e X.env) :: starEach es X.env := by rfl) (hpl : (backTo pos (starEach es X.env)).any (·.1) = false := by rfl)
    (ht : eval (.Call (.Attribute o mm apos) (e :: es) [] pos) X.env = (do
      let ov ← eval o X.env
      standAt apos.atName
      let (f, first) ← holding [ov] (getMethod ov mm pl)
      callWith pos f first (backTo pos (starEach (e :: es) X.env)) (backToKw pos (keywordEach [] X.env))) := by rfl) :
    SE X ct W (.Call (.Attribute o mm apos) (e :: es) [] pos) (eMe call i C [] f fs) :=
  se_meth c.co tk (c.ro.mono (Nat.le_succ _)) hF he cl M hn fi.bi .nil Dfl.nil ha hst hpl ht
end
section
variable {σ : Lo} {h : Hs} {f g : SemE} {fs : SemA}
@[simp] theorem ap_me (call : CallT) (i C : Nat) (ds : List D) : eMe call i C ds f fs σ h = rb (f σ h) fun x h1 => match insOf x h1 with
  | some (C', _) => if C' = C then rb (fs σ h1) fun xs h2 => call i (x :: (xs ++ ds.map Vl.d)) h2 else .bad
  | none => .bad := rfl
@[simp] theorem insOf_d (C : Nat) (fl : List (Nat × D)) (h : Hs) : insOf (.d (.ins C fl)) h = some (C, fl) := rfl
@[simp] theorem ap_si : eSI f fs σ h = rb (f σ h) fun x h1 => match x with
  | .d (.str a) => rb (fs σ h1) fun ys h2 => (match ys with
    | [.d (.str b)] => (match Builtin.Str.occurrences a b 0 a.length 1 with
      | i :: _ => .ok (.d (.int (i : Nat))) h2
      | [] => .bad)
    | _ => .bad)
  | _ => .bad := rfl
@[simp] theorem n_tupS (x : Str) (h : Hs) : nTupS [.d (.str x)] h = if Nat.ble x.cps.size sizeLine = true then some (.d (.tup (strD x)), h) else none := rfl
end
end Mi

/-! Mi43: enumerate of a text -/
namespace Mi
open PySem PySem.Spec L2
/-- the signs of x, numbered -/
def IteS (x : Str) : It := ⟨fun i _ => i < x.cps.size, fun i H v H' => ∃ T c, v = .ref T ∧ H T = none ∧ H' = upd H T (.tup [.int (i : Nat), .str ⟨#[c]⟩]) ∧ x.cps[i]? = some c, fun i _ => x.cps.size ≤ i⟩
theorem turn_enumS {P : Program} {w : World} {K : PySem.W.Frag} {elts : List Expr} {kk : Nat} {tpos : Pos} (x : Str) (t : Tok) (e it : Addr) :
    Turn P w K (.Tuple elts kk tpos) (IteS x) [e, it] e (fun i h => (∃ old, IsEnum h e it ((i : Nat) : Int) old) ∧ h.IsStrIter it (strIterType x) x t i ∧ i ≤ x.cps.size ∧ e ≠ it) where
  mem := List.mem_cons_self
  obj := fun i h st b hb => by
    obtain ⟨⟨old, he⟩, ⟨o, ho, hc, hd⟩, _⟩ := st
    rcases List.mem_cons.mp hb with rfl | hb
    · exact ⟨_, he, fun v q => nomatch q⟩
    · obtain rfl := List.mem_singleton.mp hb
      exact ⟨o, ho, fun v q => by rw [hd] at q; cases q⟩
  keep := fun i h h' ⟨⟨old, he⟩, ⟨o, ho, r⟩, hi, hne⟩ k => ⟨⟨old, k e List.mem_cons_self _ he⟩, ⟨o, k it (List.mem_cons_of_mem _ (List.mem_singleton.mpr rfl)) o ho, r⟩, hi, hne⟩
  item := by
    rintro X rfl rfl rfl hc i pins s σ H E I hf ⟨⟨old, he⟩, hit, hi, hne⟩ hg
    have hg' : i < x.cps.size := hg
    have hel : e < s.heap.objs.size := Heap.lt_size he
    have hil : it < s.heap.objs.size := by obtain ⟨_, q, _⟩ := hit; exact Heap.lt_size q
    have hh : X.A.in1.handled = none := I.ok.hd hc
    refine wpAny_pyNext_enum_itemD (Draws.text hh it x t) he hit hg' hne
      (fun z => by exact hne (List.mem_singleton.mp z)) fun y h' tk hy ho hit' hT hsz hk => ?_
    obtain ⟨c, u, hcx, rfl⟩ := hy
    refine ⟨_, rfl, wpAny_letOwnedTupleGo_enum (s := { s with heap := h', toks := tk + 1 }) ho fun h'' he' sb => ?_⟩
    have hT2 : h''.get? s.heap.objs.size = some { cls := .type "tuple", data := .seq #[.int i tk, .str ⟨#[c]⟩ u] } := (sb.2 _ (Nat.ne_of_gt hel)).trans hT
    have new : ObjOk X.prog X.w (upd H s.heap.objs.size (.tup [.int (i : Nat), .str ⟨#[c]⟩])) h'' s.heap.objs.size (.tup [.int (i : Nat), .str ⟨#[c]⟩]) :=
      ⟨by show 2 ≤ sizeLine; decide, [.int i tk, .str ⟨#[c]⟩ u], .cons ⟨_, rfl⟩ (.cons ⟨_, rfl⟩ .nil), ⟨_, hT2, rfl, _, rfl⟩⟩
    have mem : ∀ b, b ∉ [e, it] → b ≠ e ∧ b ≠ it := fun b hb => ⟨fun z => hb (z ▸ List.mem_cons_self), fun z => hb (z ▸ List.mem_cons_of_mem _ (List.mem_singleton.mpr rfl))⟩
    have I1 : Inv X pins σ (upd H s.heap.objs.size (.tup [.int (i : Nat), .str ⟨#[c]⟩])) { s with heap := h'', toks := tk + 1 } :=
      I.turnedNew (ch := [e, it]) (fun b ob hb q => (sb.2 b (mem b hb).1).trans (hk b ob (mem b hb).1 (mem b hb).2 q)) hf (Nat.le_refl _) new
    have hit2 : h''.IsStrIter it (strIterType x) x t (i + 1) := by
      obtain ⟨o, q, r⟩ := hit'
      exact ⟨o, (sb.2 it (Ne.symm hne)).trans q, r⟩
    refine ⟨.ref s.heap.objs.size, _, I1, rfl, ⟨_, c, rfl, I.hok.fresh (Nat.le_refl _), rfl, hcx⟩, ⟨⟨.str ⟨#[c]⟩ u, ?_⟩, hit2, hg', hne⟩, fun b hb => ?_⟩
    · rw [show ((i + 1 : Nat) : Int) = (i : Int) + 1 by omega]; exact he'
    · have hb' : b < s.heap.objs.size := by
        rcases List.mem_cons.mp hb with rfl | hb
        · exact hel
        · obtain rfl := List.mem_singleton.mp hb; exact hil
      rw [upd_ne (Nat.ne_of_lt hb')]
      exact (hf b hb).1
  done := by
    rintro X rfl rfl rfl hc i pins s σ H E I hf ⟨⟨old, he⟩, hit, hi, hne⟩ hg
    have hg' : x.cps.size ≤ i := hg
    have ei : i = x.cps.size := by omega
    subst ei
    obtain ⟨f0, f1, f2, f3, f4, f5⟩ := hf it (List.mem_cons_of_mem _ (List.mem_singleton.mpr rfl))
    have hh : X.A.in1.handled = none := I.ok.hd hc
    exact wpAny_pyNext_enum_endD (Draws.text hh it x t) he hit fun h' eb => ⟨rfl, I.turned (t' := s.toks) (fun b o hb q => eb b o hb q) f0 f1 f3 f4 f5⟩
  self := fun A i s Q E ⟨⟨_, he⟩, _⟩ h => wpAny_pyIter_enum he h
def iEnumS (ta : TA) : TI := fun σ H R => ta σ H fun vs H1 => ∃ x : Str, vs = [.str x] ∧ R (IteS x) H1
def iEnS (f : SemA) : SemI := fun σ h => rb (f σ h) fun xs h1 => match xs with
  | [.d (.str x)] => .ok (enumD (strD x)) h1
  | _ => .bad
theorem strD_get (x : Str) (i : Nat) : (strD x)[i]? = (x.cps[i]?).map fun c => D.str ⟨#[c]⟩ := by
  unfold strD
  rw [List.getElem?_map, Array.getElem?_toList]
theorem wks_enumS {K : PySem.W.Frag} {ct : CT} {m : List Addr} {ah : Hs} {H : Hp} {x : Str} : Wks K ct (enumD (strD x)) m ah H (IteS x) := fun m2 h2 H2 hr ex => by
  refine ⟨fun i hi => ?_, fun i d hd => ?_⟩
  · rw [enumD_len] at hi
    unfold strD at hi
    rw [List.length_map, Array.length_toList] at hi
    exact hi
  · rw [enumD_get, strD_get] at hd
    cases q : x.cps[i]? with
    | none => rw [q] at hd; cases hd
    | some c =>
      rw [q] at hd; cases hd
      refine ⟨(Array.getElem?_eq_some_iff.mp q).1, fun v H3 hx => ?_⟩
      obtain ⟨T, c1, rfl, hT, rfl, hx⟩ := hx
      rw [q] at hx
      cases hx
      exact pair_new hr hT (.int _) (.str _)
section
variable {X : Cx} {ct : CT} {W : WX} {e : Expr} {ta : TA} {p pos tpos : Pos} {elts : List Expr} {kk : Nat} {fs : SemA}
theorem pi_enumS (hg : Gl X "enumerate") (hm : X.mg "enumerate" = none) (ha : PA X [e] ta) (hs : starEach [e] X.env = [(false, eval e X.env)] := by rfl) :
    PI X (.Tuple elts kk tpos) (.Call (.Name "enumerate" p) [e] [] pos) (iEnumS ta) := by
  refine ⟨fun pins s σ H R I h => ?_⟩
  refine PyProof.Rows.Call_ (ld_blt I hg hm PyProof.Rows.boot_enumerate (PyProof.Rows.callWith_type1 (thn (ha.run pos pins s σ H _ I h) fun us s1 ⟨vs, H1, I1, r1, x, ex, q⟩ => ?_) hs rfl))
  subst ex
  obtain ⟨u, rfl, r⟩ := r1.one
  obtain ⟨t, rfl⟩ := r
  refine call_enumerate_str fun h' he hit hsz hk => wpAny_pyIter_enum he ?_
  refine ⟨s1.heap.objs.size + 1, [s1.heap.objs.size + 1, s1.heap.objs.size], _, _, H1, rfl, I1.kept (t' := s1.toks) hk, turn_enumS x t (s1.heap.objs.size + 1) s1.heap.objs.size, ⟨⟨.none, he⟩, hit, Nat.zero_le _, Nat.succ_ne_self _⟩, fun b hb => ?_, q⟩
  have hle : s1.heap.objs.size ≤ b := by
    rcases List.mem_cons.mp hb with rfl | hb
    · exact Nat.le_add_right _ _
    · obtain rfl := List.mem_singleton.mp hb; exact Nat.le_refl _
  exact I1.fpOk hle (I1.hok.fresh hle)
theorem si_enumS (hg : Gl X "enumerate") (hm : X.mg "enumerate" = none) (ha : SA X ct W [e] fs) (hs : starEach [e] X.env = [(false, eval e X.env)] := by rfl) : SI X ct W (.Tuple elts kk tpos) (.Call (.Name "enumerate" p) [e] [] pos) (iEnS fs) :=
  PI.imp (pi_enumS hg hm ha hs) fun σV H R ⟨m, ah, σ, hr, lr, p⟩ => ⟨m, ah, σ, hr, lr, (Po.bind (R := VlRs X.K ct) p).imp fun vs H1 ⟨m1, h1, xs, hr1, e1, r1, p1⟩ => by
    dsimp only at p1
    split at p1
    · cases r1 with
      | cons r t =>
        cases t
        cases r
        exact ⟨_, rfl, p1 m1 H1 _ hr1 (Ext.refl _ _ _) wks_enumS⟩
    · exact p1.elim⟩
@[simp] theorem ap_ens {σ : Lo} {h : Hs} : iEnS fs σ h = rb (fs σ h) fun xs h1 => match xs with
  | [.d (.str x)] => .ok (enumD (strD x)) h1
  | _ => .bad := rfl
end
end Mi

namespace K12
open PySem PySem.Spec L2 Mi
/-! printed by gen.py: the defs, their meanings -/
def fl : List Str := ["watcher", "table", "states", "letters", "moves", "ends"]
def ct (K : PySem.W.Frag) : CT := ⟨fun C => He.ga K (cn.getD C ""), nmL fl, nmL_inj (by decide +kernel), none⟩
def ok_watcher (C : Nat) : Bool := C == 3
def ok_table (C : Nat) : Bool := C == 3
def ok_states (C : Nat) : Bool := C == 3 || C == 4
def ok_letters (C : Nat) : Bool := C == 3 || C == 4
def ok_moves (C : Nat) : Bool := C == 4
def ok_ends (C : Nat) : Bool := C == 4
def m_alphabet_of (call : CallT) : SemS := (sSq (sIf (tOr' (tTru (eIsi (isiL ["bool"]) (eVar 0))) (tOr' (tNo (tTru (eIsi (isiL ["int", "bool"]) (eVar 0)))) (tNo (tBl (eChain oLe oLe (eK (.int 1)) (eVar 0) (eK (.int 3)))))))
      sBad
      sNil)
      (sRt (eSl (eK (.str "abc")) oNone (oSome (eVar 0)))))
@[simp] theorem am_alphabet_of (call : CallT) (σ : Lo) (h : Hs) : m_alphabet_of call σ h = (sSq (sIf (tOr' (tTru (eIsi (isiL ["bool"]) (eVar 0))) (tOr' (tNo (tTru (eIsi (isiL ["int", "bool"]) (eVar 0)))) (tNo (tBl (eChain oLe oLe (eK (.int 1)) (eVar 0) (eK (.int 3)))))))
      sBad
      sNil)
      (sRt (eSl (eK (.str "abc")) oNone (oSome (eVar 0))))) σ h := rfl
def m_Deeds__init_ (call : CallT) : SemS := (sSq (sFd ok_watcher 0 (eVar 0) (eVar 1))
      (sSq (sFd ok_table 1 (eVar 0) (eVar 2))
      (sSq (sFd ok_states 2 (eVar 0) (eFd (ok_states) 2 (eVar 1)))
      (sFd ok_letters 3 (eVar 0) (eN nTupS (aCons (eCl call 0 [] (aCons (eFd (ok_letters) 3 (eVar 1)) aNil)) aNil))))))
@[simp] theorem am_Deeds__init_ (call : CallT) (σ : Lo) (h : Hs) : m_Deeds__init_ call σ h = (sSq (sFd ok_watcher 0 (eVar 0) (eVar 1))
      (sSq (sFd ok_table 1 (eVar 0) (eVar 2))
      (sSq (sFd ok_states 2 (eVar 0) (eFd (ok_states) 2 (eVar 1)))
      (sFd ok_letters 3 (eVar 0) (eN nTupS (aCons (eCl call 0 [] (aCons (eFd (ok_letters) 3 (eVar 1)) aNil)) aNil)))))) σ h := rfl
def m_Deeds__eq_ (call : CallT) : SemS := (sRt (eAn (eIsi (isiT isOk isBt 3) (eVar 1)) (eAn (eBin (oEqO false eqTab call) (eFd (ok_watcher) 0 (eVar 0)) (eFd (ok_watcher) 0 (eVar 1))) (eBin oEq (eFd (ok_table) 1 (eVar 0)) (eFd (ok_table) 1 (eVar 1))))))
@[simp] theorem am_Deeds__eq_ (call : CallT) (σ : Lo) (h : Hs) : m_Deeds__eq_ call σ h = (sRt (eAn (eIsi (isiT isOk isBt 3) (eVar 1)) (eAn (eBin (oEqO false eqTab call) (eFd (ok_watcher) 0 (eVar 0)) (eFd (ok_watcher) 0 (eVar 1))) (eBin oEq (eFd (ok_table) 1 (eVar 0)) (eFd (ok_table) 1 (eVar 1)))))) σ h := rfl
def m_Deeds_letter_deed (call : CallT) : SemS := (sRt (eMe call 4 3 [] (eVar 0) (aCons (eVar 1) aNil)))
@[simp] theorem am_Deeds_letter_deed (call : CallT) (σ : Lo) (h : Hs) : m_Deeds_letter_deed call σ h = (sRt (eMe call 4 3 [] (eVar 0) (aCons (eVar 1) aNil))) σ h := rfl
def m_Deeds_text_deed (call : CallT) : SemS := (sRt (eN nTuple (aCons (eLc false [2] (iA1 (aCons (eFd (ok_states) 2 (eVar 0)) aNil)) (gNm 2) tYs (eMe call 12 4 [] (eFd (ok_watcher) 0 (eVar 0)) (aCons (eVar 1) (aCons (eVar 2) aNil)))) aNil)))
@[simp] theorem am_Deeds_text_deed (call : CallT) (σ : Lo) (h : Hs) : m_Deeds_text_deed call σ h = (sRt (eN nTuple (aCons (eLc false [2] (iA1 (aCons (eFd (ok_states) 2 (eVar 0)) aNil)) (gNm 2) tYs (eMe call 12 4 [] (eFd (ok_watcher) 0 (eVar 0)) (aCons (eVar 1) (aCons (eVar 2) aNil)))) aNil))) σ h := rfl
def b_Deeds_text_of_1 (call : CallT) : SemS := (sIf (tBl (eBin oEq (eVar 2) (eVar 1)))
      (sRt (eVar 3))
      sNil)
@[simp] theorem ab_Deeds_text_of_1 (call : CallT) (σ : Lo) (h : Hs) : b_Deeds_text_of_1 call σ h = (sIf (tBl (eBin oEq (eVar 2) (eVar 1)))
      (sRt (eVar 3))
      sNil) σ h := rfl
def m_Deeds_text_of (call : CallT) : SemS := (sSq (sFor (iSeq (eFd (ok_table) 1 (eVar 0))) (gTp 2 (gCo (gNm 2) (gCo (gNm 3) gNi)))
      (b_Deeds_text_of_1 call))
      (sRt (eK .non)))
@[simp] theorem am_Deeds_text_of (call : CallT) (σ : Lo) (h : Hs) : m_Deeds_text_of call σ h = (sSq (sFor (iSeq (eFd (ok_table) 1 (eVar 0))) (gTp 2 (gCo (gNm 2) (gCo (gNm 3) gNi)))
      (b_Deeds_text_of_1 call))
      (sRt (eK .non))) σ h := rfl
def m_Deeds_reached_from (call : CallT) : SemS := (sRt (eN nTuple (aCons (eSs (eLc false [2, 3] (iSeq (eFd (ok_table) 1 (eVar 0))) (gTp 2 (gCo (gNm 2) (gCo (gNm 3) gNi))) tYs (eBin oIx (eVar 2) (eVar 1)))) aNil)))
@[simp] theorem am_Deeds_reached_from (call : CallT) (σ : Lo) (h : Hs) : m_Deeds_reached_from call σ h = (sRt (eN nTuple (aCons (eSs (eLc false [2, 3] (iSeq (eFd (ok_table) 1 (eVar 0))) (gTp 2 (gCo (gNm 2) (gCo (gNm 3) gNi))) tYs (eBin oIx (eVar 2) (eVar 1)))) aNil))) σ h := rfl
def b_Deeds_path_text_1 (call : CallT) : SemS := (sIf (tAn (tBl (eBin (oInF false) (eBin oIx (eVar 4) (eVar 1)) (eVar 2))) (tOr' (tBl (eBin oIsN (eVar 3) (eK .non))) (tBl (eBin oLtD (eTup (aCons (eN nLen (aCons (eVar 5) aNil)) (aCons (eVar 5) aNil))) (eTup (aCons (eN nLen (aCons (eVar 3) aNil)) (aCons (eVar 3) aNil)))))))
      (sAs (eVar 5) (gNm 3))
      sNil)
@[simp] theorem ab_Deeds_path_text_1 (call : CallT) (σ : Lo) (h : Hs) : b_Deeds_path_text_1 call σ h = (sIf (tAn (tBl (eBin (oInF false) (eBin oIx (eVar 4) (eVar 1)) (eVar 2))) (tOr' (tBl (eBin oIsN (eVar 3) (eK .non))) (tBl (eBin oLtD (eTup (aCons (eN nLen (aCons (eVar 5) aNil)) (aCons (eVar 5) aNil))) (eTup (aCons (eN nLen (aCons (eVar 3) aNil)) (aCons (eVar 3) aNil)))))))
      (sAs (eVar 5) (gNm 3))
      sNil) σ h := rfl
def m_Deeds_path_text (call : CallT) : SemS := (sSq (sAs (eK .non) (gNm 3))
      (sSq (sFor (iSeq (eFd (ok_table) 1 (eVar 0))) (gTp 2 (gCo (gNm 4) (gCo (gNm 5) gNi)))
      (b_Deeds_path_text_1 call))
      (sRt (eVar 3))))
@[simp] theorem am_Deeds_path_text (call : CallT) (σ : Lo) (h : Hs) : m_Deeds_path_text call σ h = (sSq (sAs (eK .non) (gNm 3))
      (sSq (sFor (iSeq (eFd (ok_table) 1 (eVar 0))) (gTp 2 (gCo (gNm 4) (gCo (gNm 5) gNi)))
      (b_Deeds_path_text_1 call))
      (sRt (eVar 3)))) σ h := rfl
def m_deed_after (call : CallT) : SemS := (sRt (eN nTuple (aCons (eLc false [2] (iSeq (eVar 0)) (gNm 2) tYs (eBin oIx (eVar 1) (eVar 2))) aNil)))
@[simp] theorem am_deed_after (call : CallT) (σ : Lo) (h : Hs) : m_deed_after call σ h = (sRt (eN nTuple (aCons (eLc false [2] (iSeq (eVar 0)) (gNm 2) tYs (eBin oIx (eVar 1) (eVar 2))) aNil))) σ h := rfl
def b_deeds_of_1 (call : CallT) : SemS := (sSq (sAs (eCl call 8 [] (aCons (eVar 7) (aCons (eVar 10) aNil))) (gNm 11))
      (sIf (tBl (eBin (oDIn true) (eVar 11) (eVar 5)))
      (sSq (sDp (eVar 5) (eVar 11) (eK (.bl true)))
      (sSq (sEx (eLm lmAppend (eVar 4) (aCons (eTup (aCons (eVar 11) (aCons (eBin oAdd (eVar 8) (eVar 9)) aNil))) aNil)))
      (sIf (tBl (eBin oGt (eN nLen (aCons (eVar 4) aNil)) (eBin oAdd (eK (.int 60)) (eK (.int 1)))))
      (sRzB 2)
      sNil)))
      sNil))
@[simp] theorem ab_deeds_of_1 (call : CallT) (σ : Lo) (h : Hs) : b_deeds_of_1 call σ h = (sSq (sAs (eCl call 8 [] (aCons (eVar 7) (aCons (eVar 10) aNil))) (gNm 11))
      (sIf (tBl (eBin (oDIn true) (eVar 11) (eVar 5)))
      (sSq (sDp (eVar 5) (eVar 11) (eK (.bl true)))
      (sSq (sEx (eLm lmAppend (eVar 4) (aCons (eTup (aCons (eVar 11) (aCons (eBin oAdd (eVar 8) (eVar 9)) aNil))) aNil)))
      (sIf (tBl (eBin oGt (eN nLen (aCons (eVar 4) aNil)) (eBin oAdd (eK (.int 60)) (eK (.int 1)))))
      (sRzB 2)
      sNil)))
      sNil)) σ h := rfl
def w_deeds_of_2 (call : CallT) : SemT := (tBl (eBin oLt (eVar 6) (eN nLen (aCons (eVar 4) aNil))))
@[simp] theorem aw_deeds_of_2 (call : CallT) (σ : Lo) (h : Hs) : w_deeds_of_2 call σ h = (tBl (eBin oLt (eVar 6) (eN nLen (aCons (eVar 4) aNil)))) σ h := rfl
def b_deeds_of_3 (call : CallT) : SemS := (sSq (sAs (eBin oIx (eVar 4) (eVar 6)) (gTp 2 (gCo (gNm 7) (gCo (gNm 8) gNi))))
      (sSq (sAs (eBin oAdd (eVar 6) (eK (.int 1))) (gNm 6))
      (sFor (iSeq (eVar 3)) (gTp 2 (gCo (gNm 9) (gCo (gNm 10) gNi)))
      (b_deeds_of_1 call))))
@[simp] theorem ab_deeds_of_3 (call : CallT) (σ : Lo) (h : Hs) : b_deeds_of_3 call σ h = (sSq (sAs (eBin oIx (eVar 4) (eVar 6)) (gTp 2 (gCo (gNm 7) (gCo (gNm 8) gNi))))
      (sSq (sAs (eBin oAdd (eVar 6) (eK (.int 1))) (gNm 6))
      (sFor (iSeq (eVar 3)) (gTp 2 (gCo (gNm 9) (gCo (gNm 10) gNi)))
      (b_deeds_of_1 call)))) σ h := rfl
def m_deeds_of (call : CallT) : SemS := (sSq (sAs (eCl call 0 [] (aCons (eFd (ok_letters) 3 (eVar 0)) aNil)) (gNm 1))
      (sSq (sAs (eTR (eFd (ok_states) 2 (eVar 0))) (gNm 2))
      (sSq (sAs (eLc false [12, 9] (iEnS (aCons (eVar 1) aNil)) (gTp 2 (gCo (gNm 12) (gCo (gNm 9) gNi))) tYs (eTup (aCons (eVar 9) (aCons (eN nTuple (aCons (eLc false [13] (iSeq (eFd (ok_moves) 4 (eVar 0))) (gNm 13) tYs (eBin oIx (eVar 13) (eVar 12))) aNil)) aNil)))) (gNm 3))
      (sSq (sPar [4, 5, 6] (aCons (eLst (aCons (eTup (aCons (eVar 2) (aCons (eK (.str "")) aNil))) aNil)) (aCons eDt0 (aCons (eK (.int 0)) aNil))))
      (sSq (sWh (w_deeds_of_2 call)
      (b_deeds_of_3 call))
      (sRt (eMk call 1 3 [] (aCons (eVar 0) (aCons (eN nTuple (aCons (eN nSorted (aCons (eSl (eVar 4) (oSome (eK (.int 1))) oNone) aNil)) aNil)) aNil)))))))))
@[simp] theorem am_deeds_of (call : CallT) (σ : Lo) (h : Hs) : m_deeds_of call σ h = (sSq (sAs (eCl call 0 [] (aCons (eFd (ok_letters) 3 (eVar 0)) aNil)) (gNm 1))
      (sSq (sAs (eTR (eFd (ok_states) 2 (eVar 0))) (gNm 2))
      (sSq (sAs (eLc false [12, 9] (iEnS (aCons (eVar 1) aNil)) (gTp 2 (gCo (gNm 12) (gCo (gNm 9) gNi))) tYs (eTup (aCons (eVar 9) (aCons (eN nTuple (aCons (eLc false [13] (iSeq (eFd (ok_moves) 4 (eVar 0))) (gNm 13) tYs (eBin oIx (eVar 13) (eVar 12))) aNil)) aNil)))) (gNm 3))
      (sSq (sPar [4, 5, 6] (aCons (eLst (aCons (eTup (aCons (eVar 2) (aCons (eK (.str "")) aNil))) aNil)) (aCons eDt0 (aCons (eK (.int 0)) aNil))))
      (sSq (sWh (w_deeds_of_2 call)
      (b_deeds_of_3 call))
      (sRt (eMk call 1 3 [] (aCons (eVar 0) (aCons (eN nTuple (aCons (eN nSorted (aCons (eSl (eVar 4) (oSome (eK (.int 1))) oNone) aNil)) aNil)) aNil))))))))) σ h := rfl
def m_Watcher__init_ (call : CallT) : SemS := (sSq (sFd ok_letters 3 (eVar 0) (eVar 1))
      (sSq (sFd ok_moves 4 (eVar 0) (eVar 2))
      (sSq (sFd ok_ends 5 (eVar 0) (eVar 3))
      (sFd ok_states 2 (eVar 0) (eN nLen (aCons (eVar 2) aNil))))))
@[simp] theorem am_Watcher__init_ (call : CallT) (σ : Lo) (h : Hs) : m_Watcher__init_ call σ h = (sSq (sFd ok_letters 3 (eVar 0) (eVar 1))
      (sSq (sFd ok_moves 4 (eVar 0) (eVar 2))
      (sSq (sFd ok_ends 5 (eVar 0) (eVar 3))
      (sFd ok_states 2 (eVar 0) (eN nLen (aCons (eVar 2) aNil)))))) σ h := rfl
def m_Watcher__eq_ (call : CallT) : SemS := (sRt (eAn (eIsi (isiT isOk isBt 4) (eVar 1)) (eAn (eBin oEq (eFd (ok_letters) 3 (eVar 0)) (eFd (ok_letters) 3 (eVar 1))) (eAn (eBin oEq (eFd (ok_moves) 4 (eVar 0)) (eFd (ok_moves) 4 (eVar 1))) (eBin oEq (eFd (ok_ends) 5 (eVar 0)) (eFd (ok_ends) 5 (eVar 1)))))))
@[simp] theorem am_Watcher__eq_ (call : CallT) (σ : Lo) (h : Hs) : m_Watcher__eq_ call σ h = (sRt (eAn (eIsi (isiT isOk isBt 4) (eVar 1)) (eAn (eBin oEq (eFd (ok_letters) 3 (eVar 0)) (eFd (ok_letters) 3 (eVar 1))) (eAn (eBin oEq (eFd (ok_moves) 4 (eVar 0)) (eFd (ok_moves) 4 (eVar 1))) (eBin oEq (eFd (ok_ends) 5 (eVar 0)) (eFd (ok_ends) 5 (eVar 1))))))) σ h := rfl
def b_Watcher_state_after_1 (call : CallT) : SemS := (sAs (eBin oIx (eBin oIx (eFd (ok_moves) 4 (eVar 0)) (eVar 2)) (eSI (eK (.str "abc")) (aCons (eVar 3) aNil))) (gNm 2))
@[simp] theorem ab_Watcher_state_after_1 (call : CallT) (σ : Lo) (h : Hs) : b_Watcher_state_after_1 call σ h = (sAs (eBin oIx (eBin oIx (eFd (ok_moves) 4 (eVar 0)) (eVar 2)) (eSI (eK (.str "abc")) (aCons (eVar 3) aNil))) (gNm 2)) σ h := rfl
def m_Watcher_state_after (call : CallT) : SemS := (sSq (sFor (iSt (eVar 1)) (gNm 3)
      (b_Watcher_state_after_1 call))
      (sRt (eVar 2)))
@[simp] theorem am_Watcher_state_after (call : CallT) (σ : Lo) (h : Hs) : m_Watcher_state_after call σ h = (sSq (sFor (iSt (eVar 1)) (gNm 3)
      (b_Watcher_state_after_1 call))
      (sRt (eVar 2))) σ h := rfl
def m__law_source (call : CallT) : SemS := (sRt (eLst (aCons (eN nListV (aCons (eVar 0) aNil)) (aCons (eK (.int 0)) (aCons (eK (.int 0)) (aCons (eK (.int 1)) aNil))))))
@[simp] theorem am__law_source (call : CallT) (σ : Lo) (h : Hs) : m__law_source call σ h = (sRt (eLst (aCons (eN nListV (aCons (eVar 0) aNil)) (aCons (eK (.int 0)) (aCons (eK (.int 0)) (aCons (eK (.int 1)) aNil)))))) σ h := rfl
def m__law_take (call : CallT) : SemS := (sSq (sIf (tBl (eBin (oEqF false) (eBin oIx (eVar 0) (eK (.int 2))) (eK (.int 0))))
      (sSq (sAs (eK (.int 0)) (gNm 2))
      (sSq (sIf (tBl (eBin oLt (eBin oIx (eVar 0) (eK (.int 1))) (eN nLen (aCons (eBin oIx (eVar 0) (eK (.int 0))) aNil))))
      (sAs (eBin oIx (eBin oIx (eVar 0) (eK (.int 0))) (eBin oIx (eVar 0) (eK (.int 1)))) (gNm 2))
      sNil)
      (sSq (sAs (eBin oAdd (eBin oIx (eVar 0) (eK (.int 1))) (eK (.int 1))) (gSt (eVar 0) (eK (.int 1))))
      (sIf (tBl (eBin oGe (eVar 2) (eBin oPow (eK (.int 10)) (eK (.int 18)))))
      (sAs (eVar 2) (gSt (eVar 0) (eK (.int 2))))
      (sSq (sAs (eBin oMod (eN nInt (aCons (eBin oAdd (eBin oAdd (eBin oAdd (eBin oMulI (eBin oIx (eVar 0) (eK (.int 3))) (eK (.int 69621))) (eBin oMulI (eBin oMod (eN nInt (aCons (eVar 2) aNil)) (eK (.int 2147483629))) (eK (.int 48271)))) (eBin oMulI (eBin oIx (eVar 0) (eK (.int 1))) (eK (.int 7919)))) (eK (.int 1))) aNil)) (eK (.int 2147483647))) (gNm 3))
      (sSq (sAs (eBin oMod (eN nInt (aCons (eBin oAdd (eBin oAdd (eBin oMulI (eVar 3) (eVar 3)) (eBin oMulI (eBin oIx (eVar 0) (eK (.int 1))) (eK (.int 104729)))) (eK (.int 13))) aNil)) (eK (.int 2147483629))) (gNm 3))
      (sSq (sAs (eVar 3) (gSt (eVar 0) (eK (.int 3))))
      (sRt (eBin oMod (eBin oDiv (eVar 3) (eK (.int 7))) (eVar 1))))))))))
      sNil)
      (sSq (sAs (eBin oMod (eN nInt (aCons (eBin oIx (eVar 0) (eK (.int 2))) aNil)) (eVar 1)) (gNm 4))
      (sSq (sAs (eBin oDiv (eBin oIx (eVar 0) (eK (.int 2))) (eVar 1)) (gSt (eVar 0) (eK (.int 2))))
      (sRt (eVar 4)))))
@[simp] theorem am__law_take (call : CallT) (σ : Lo) (h : Hs) : m__law_take call σ h = (sSq (sIf (tBl (eBin (oEqF false) (eBin oIx (eVar 0) (eK (.int 2))) (eK (.int 0))))
      (sSq (sAs (eK (.int 0)) (gNm 2))
      (sSq (sIf (tBl (eBin oLt (eBin oIx (eVar 0) (eK (.int 1))) (eN nLen (aCons (eBin oIx (eVar 0) (eK (.int 0))) aNil))))
      (sAs (eBin oIx (eBin oIx (eVar 0) (eK (.int 0))) (eBin oIx (eVar 0) (eK (.int 1)))) (gNm 2))
      sNil)
      (sSq (sAs (eBin oAdd (eBin oIx (eVar 0) (eK (.int 1))) (eK (.int 1))) (gSt (eVar 0) (eK (.int 1))))
      (sIf (tBl (eBin oGe (eVar 2) (eBin oPow (eK (.int 10)) (eK (.int 18)))))
      (sAs (eVar 2) (gSt (eVar 0) (eK (.int 2))))
      (sSq (sAs (eBin oMod (eN nInt (aCons (eBin oAdd (eBin oAdd (eBin oAdd (eBin oMulI (eBin oIx (eVar 0) (eK (.int 3))) (eK (.int 69621))) (eBin oMulI (eBin oMod (eN nInt (aCons (eVar 2) aNil)) (eK (.int 2147483629))) (eK (.int 48271)))) (eBin oMulI (eBin oIx (eVar 0) (eK (.int 1))) (eK (.int 7919)))) (eK (.int 1))) aNil)) (eK (.int 2147483647))) (gNm 3))
      (sSq (sAs (eBin oMod (eN nInt (aCons (eBin oAdd (eBin oAdd (eBin oMulI (eVar 3) (eVar 3)) (eBin oMulI (eBin oIx (eVar 0) (eK (.int 1))) (eK (.int 104729)))) (eK (.int 13))) aNil)) (eK (.int 2147483629))) (gNm 3))
      (sSq (sAs (eVar 3) (gSt (eVar 0) (eK (.int 3))))
      (sRt (eBin oMod (eBin oDiv (eVar 3) (eK (.int 7))) (eVar 1))))))))))
      sNil)
      (sSq (sAs (eBin oMod (eN nInt (aCons (eBin oIx (eVar 0) (eK (.int 2))) aNil)) (eVar 1)) (gNm 4))
      (sSq (sAs (eBin oDiv (eBin oIx (eVar 0) (eK (.int 2))) (eVar 1)) (gSt (eVar 0) (eK (.int 2))))
      (sRt (eVar 4))))) σ h := rfl
def m__law_pick (call : CallT) : SemS := (sRt (eBin oIx (eVar 1) (eCl call 14 [] (aCons (eVar 0) (aCons (eN nLen (aCons (eVar 1) aNil)) aNil)))))
@[simp] theorem am__law_pick (call : CallT) (σ : Lo) (h : Hs) : m__law_pick call σ h = (sRt (eBin oIx (eVar 1) (eCl call 14 [] (aCons (eVar 0) (aCons (eN nLen (aCons (eVar 1) aNil)) aNil))))) σ h := rfl
def m__law_drawn_text (call : CallT) : SemS := (sRt (eJo (eK (.str "")) (eLc false [3] (iA1 (aCons (eCl call 14 [] (aCons (eVar 0) (aCons (eBin oAdd (eVar 2) (eK (.int 1))) aNil))) aNil)) (gNm 3) tYs (eCl call 15 [] (aCons (eVar 0) (aCons (eVar 1) aNil))))))
@[simp] theorem am__law_drawn_text (call : CallT) (σ : Lo) (h : Hs) : m__law_drawn_text call σ h = (sRt (eJo (eK (.str "")) (eLc false [3] (iA1 (aCons (eCl call 14 [] (aCons (eVar 0) (aCons (eBin oAdd (eVar 2) (eK (.int 1))) aNil))) aNil)) (gNm 3) tYs (eCl call 15 [] (aCons (eVar 0) (aCons (eVar 1) aNil)))))) σ h := rfl
def b__law_after_1 (call : CallT) : SemS := (sAs (eBin oIx (eBin oIx (eVar 0) (eVar 1)) (eSI (eK (.str "abc")) (aCons (eVar 3) aNil))) (gNm 1))
@[simp] theorem ab__law_after_1 (call : CallT) (σ : Lo) (h : Hs) : b__law_after_1 call σ h = (sAs (eBin oIx (eBin oIx (eVar 0) (eVar 1)) (eSI (eK (.str "abc")) (aCons (eVar 3) aNil))) (gNm 1)) σ h := rfl
def m__law_after (call : CallT) : SemS := (sSq (sFor (iSt (eVar 2)) (gNm 3)
      (b__law_after_1 call))
      (sRt (eVar 1)))
@[simp] theorem am__law_after (call : CallT) (σ : Lo) (h : Hs) : m__law_after call σ h = (sSq (sFor (iSt (eVar 2)) (gNm 3)
      (b__law_after_1 call))
      (sRt (eVar 1))) σ h := rfl
def b__law_walks_1 (call : CallT) : SemS := (sSq (sAs (eN nTuple (aCons (eLc false [10] (iSeq (eVar 7)) (gNm 10) tYs (eBin oIx (eBin oIx (eVar 0) (eVar 10)) (eVar 8))) aNil)) (gNm 9))
      (sIf (tBl (eBin (oDIn true) (eVar 9) (eVar 3)))
      (sSq (sDp (eVar 3) (eVar 9) (eK (.bl true)))
      (sEx (eLm lmAppend (eVar 2) (aCons (eTup (aCons (eBin oAdd (eVar 6) (eBin oIx (eK (.str "abc")) (eVar 8))) (aCons (eVar 9) aNil))) aNil))))
      sNil))
@[simp] theorem ab__law_walks_1 (call : CallT) (σ : Lo) (h : Hs) : b__law_walks_1 call σ h = (sSq (sAs (eN nTuple (aCons (eLc false [10] (iSeq (eVar 7)) (gNm 10) tYs (eBin oIx (eBin oIx (eVar 0) (eVar 10)) (eVar 8))) aNil)) (gNm 9))
      (sIf (tBl (eBin (oDIn true) (eVar 9) (eVar 3)))
      (sSq (sDp (eVar 3) (eVar 9) (eK (.bl true)))
      (sEx (eLm lmAppend (eVar 2) (aCons (eTup (aCons (eBin oAdd (eVar 6) (eBin oIx (eK (.str "abc")) (eVar 8))) (aCons (eVar 9) aNil))) aNil))))
      sNil)) σ h := rfl
def b__law_walks_2 (call : CallT) : SemS := (sSq (sIf (tBl (eBin oEq (eVar 4) (eN nLen (aCons (eVar 2) aNil))))
      sBrk
      sNil)
      (sSq (sAs (eBin oIx (eVar 2) (eVar 4)) (gTp 2 (gCo (gNm 6) (gCo (gNm 7) gNi))))
      (sSq (sAs (eBin oAdd (eVar 4) (eK (.int 1))) (gNm 4))
      (sFor (iA1 (aCons (eN nLen (aCons (eBin oIx (eVar 0) (eK (.int 0))) aNil)) aNil)) (gNm 8)
      (b__law_walks_1 call)))))
@[simp] theorem ab__law_walks_2 (call : CallT) (σ : Lo) (h : Hs) : b__law_walks_2 call σ h = (sSq (sIf (tBl (eBin oEq (eVar 4) (eN nLen (aCons (eVar 2) aNil))))
      sBrk
      sNil)
      (sSq (sAs (eBin oIx (eVar 2) (eVar 4)) (gTp 2 (gCo (gNm 6) (gCo (gNm 7) gNi))))
      (sSq (sAs (eBin oAdd (eVar 4) (eK (.int 1))) (gNm 4))
      (sFor (iA1 (aCons (eN nLen (aCons (eBin oIx (eVar 0) (eK (.int 0))) aNil)) aNil)) (gNm 8)
      (b__law_walks_1 call))))) σ h := rfl
def m__law_walks (call : CallT) : SemS := (sSq (sPar [2, 3, 4] (aCons (eLst (aCons (eTup (aCons (eK (.str "")) (aCons (eVar 1) aNil))) aNil)) (aCons (eDt1 (eVar 1) (eK (.bl true))) (aCons (eK (.int 0)) aNil))))
      (sSq (sFor (iA1 (aCons (eK (.int 20000)) aNil)) (gNm 5)
      (b__law_walks_2 call))
      (sRt (eVar 2))))
@[simp] theorem am__law_walks (call : CallT) (σ : Lo) (h : Hs) : m__law_walks call σ h = (sSq (sPar [2, 3, 4] (aCons (eLst (aCons (eTup (aCons (eK (.str "")) (aCons (eVar 1) aNil))) aNil)) (aCons (eDt1 (eVar 1) (eK (.bl true))) (aCons (eK (.int 0)) aNil))))
      (sSq (sFor (iA1 (aCons (eK (.int 20000)) aNil)) (gNm 5)
      (b__law_walks_2 call))
      (sRt (eVar 2)))) σ h := rfl
def m__law_deed (call : CallT) : SemS := (sRt (eN nTuple (aCons (eLc false [2] (iA1 (aCons (eN nLen (aCons (eVar 0) aNil)) aNil)) (gNm 2) tYs (eCl call 17 [] (aCons (eVar 0) (aCons (eVar 2) (aCons (eVar 1) aNil))))) aNil)))
@[simp] theorem am__law_deed (call : CallT) (σ : Lo) (h : Hs) : m__law_deed call σ h = (sRt (eN nTuple (aCons (eLc false [2] (iA1 (aCons (eN nLen (aCons (eVar 0) aNil)) aNil)) (gNm 2) tYs (eCl call 17 [] (aCons (eVar 0) (aCons (eVar 2) (aCons (eVar 1) aNil))))) aNil))) σ h := rfl
def m__law_chain (call : CallT) : SemS := (sRt (eN nTuple (aCons (eLc false [2] (iSeq (eVar 0)) (gNm 2) tYs (eBin oIx (eVar 1) (eVar 2))) aNil)))
@[simp] theorem am__law_chain (call : CallT) (σ : Lo) (h : Hs) : m__law_chain call σ h = (sRt (eN nTuple (aCons (eLc false [2] (iSeq (eVar 0)) (gNm 2) tYs (eBin oIx (eVar 1) (eVar 2))) aNil))) σ h := rfl
def b__law_table_1 (call : CallT) : SemS := (sSq (sAs (eN nTuple (aCons (eLc false [9] (iSeq (eVar 5)) (gNm 9) tYs (eBin oIx (eBin oIx (eVar 0) (eVar 9)) (eVar 7))) aNil)) (gNm 8))
      (sIf (tBl (eBin (oDIn true) (eVar 8) (eVar 2)))
      (sSq (sDp (eVar 2) (eVar 8) (eK (.bl true)))
      (sEx (eLm lmAppend (eVar 1) (aCons (eTup (aCons (eVar 8) (aCons (eBin oAdd (eVar 6) (eBin oIx (eK (.str "abc")) (eVar 7))) aNil))) aNil))))
      sNil))
@[simp] theorem ab__law_table_1 (call : CallT) (σ : Lo) (h : Hs) : b__law_table_1 call σ h = (sSq (sAs (eN nTuple (aCons (eLc false [9] (iSeq (eVar 5)) (gNm 9) tYs (eBin oIx (eBin oIx (eVar 0) (eVar 9)) (eVar 7))) aNil)) (gNm 8))
      (sIf (tBl (eBin (oDIn true) (eVar 8) (eVar 2)))
      (sSq (sDp (eVar 2) (eVar 8) (eK (.bl true)))
      (sEx (eLm lmAppend (eVar 1) (aCons (eTup (aCons (eVar 8) (aCons (eBin oAdd (eVar 6) (eBin oIx (eK (.str "abc")) (eVar 7))) aNil))) aNil))))
      sNil)) σ h := rfl
def b__law_table_2 (call : CallT) : SemS := (sSq (sIf (tOr' (tBl (eBin oEq (eVar 3) (eN nLen (aCons (eVar 1) aNil)))) (tBl (eBin oGt (eN nLen (aCons (eVar 1) aNil)) (eK (.int 61)))))
      sBrk
      sNil)
      (sSq (sAs (eBin oIx (eVar 1) (eVar 3)) (gTp 2 (gCo (gNm 5) (gCo (gNm 6) gNi))))
      (sSq (sAs (eBin oAdd (eVar 3) (eK (.int 1))) (gNm 3))
      (sFor (iA1 (aCons (eN nLen (aCons (eBin oIx (eVar 0) (eK (.int 0))) aNil)) aNil)) (gNm 7)
      (b__law_table_1 call)))))
@[simp] theorem ab__law_table_2 (call : CallT) (σ : Lo) (h : Hs) : b__law_table_2 call σ h = (sSq (sIf (tOr' (tBl (eBin oEq (eVar 3) (eN nLen (aCons (eVar 1) aNil)))) (tBl (eBin oGt (eN nLen (aCons (eVar 1) aNil)) (eK (.int 61)))))
      sBrk
      sNil)
      (sSq (sAs (eBin oIx (eVar 1) (eVar 3)) (gTp 2 (gCo (gNm 5) (gCo (gNm 6) gNi))))
      (sSq (sAs (eBin oAdd (eVar 3) (eK (.int 1))) (gNm 3))
      (sFor (iA1 (aCons (eN nLen (aCons (eBin oIx (eVar 0) (eK (.int 0))) aNil)) aNil)) (gNm 7)
      (b__law_table_1 call))))) σ h := rfl
def m__law_table (call : CallT) : SemS := (sSq (sPar [1, 2, 3] (aCons (eLst (aCons (eTup (aCons (eTR (eN nLen (aCons (eVar 0) aNil))) (aCons (eK (.str "")) aNil))) aNil)) (aCons eDt0 (aCons (eK (.int 0)) aNil))))
      (sSq (sFor (iA1 (aCons (eK (.int 70)) aNil)) (gNm 4)
      (b__law_table_2 call))
      (sRt (eSl (eVar 1) (oSome (eK (.int 1))) oNone))))
@[simp] theorem am__law_table (call : CallT) (σ : Lo) (h : Hs) : m__law_table call σ h = (sSq (sPar [1, 2, 3] (aCons (eLst (aCons (eTup (aCons (eTR (eN nLen (aCons (eVar 0) aNil))) (aCons (eK (.str "")) aNil))) aNil)) (aCons eDt0 (aCons (eK (.int 0)) aNil))))
      (sSq (sFor (iA1 (aCons (eK (.int 70)) aNil)) (gNm 4)
      (b__law_table_2 call))
      (sRt (eSl (eVar 1) (oSome (eK (.int 1))) oNone)))) σ h := rfl
def m__law_moves (call : CallT) : SemS := (sRt (eN nTuple (aCons (eLc false [3] (iA1 (aCons (eVar 1) aNil)) (gNm 3) tYs (eN nTuple (aCons (eLc false [4] (iA1 (aCons (eVar 2) aNil)) (gNm 4) tYs (eCl call 14 [] (aCons (eVar 0) (aCons (eVar 1) aNil)))) aNil))) aNil)))
@[simp] theorem am__law_moves (call : CallT) (σ : Lo) (h : Hs) : m__law_moves call σ h = (sRt (eN nTuple (aCons (eLc false [3] (iA1 (aCons (eVar 1) aNil)) (gNm 3) tYs (eN nTuple (aCons (eLc false [4] (iA1 (aCons (eVar 2) aNil)) (gNm 4) tYs (eCl call 14 [] (aCons (eVar 0) (aCons (eVar 1) aNil)))) aNil))) aNil))) σ h := rfl
def m__law_goals (call : CallT) : SemS := (sRt (eN nTuple (aCons (eLc false [2] (iA1 (aCons (eVar 1) aNil)) (gNm 2) (tTru (eCl call 15 [] (aCons (eVar 0) (aCons (eLv (aCons (eK (.bl true)) (aCons (eK (.bl false)) aNil))) aNil)))) (eVar 2)) aNil)))
@[simp] theorem am__law_goals (call : CallT) (σ : Lo) (h : Hs) : m__law_goals call σ h = (sRt (eN nTuple (aCons (eLc false [2] (iA1 (aCons (eVar 1) aNil)) (gNm 2) (tTru (eCl call 15 [] (aCons (eVar 0) (aCons (eLv (aCons (eK (.bl true)) (aCons (eK (.bl false)) aNil))) aNil)))) (eVar 2)) aNil))) σ h := rfl
def m__law_lot (call : CallT) : SemS := (sTryO (isxC xPar xS 2) (sRt (eCl call 9 [] (aCons (eVar 0) aNil)))
      (sRt (eK .non)))
@[simp] theorem am__law_lot (call : CallT) (σ : Lo) (h : Hs) : m__law_lot call σ h = (sTryO (isxC xPar xS 2) (sRt (eCl call 9 [] (aCons (eVar 0) aNil)))
      (sRt (eK .non))) σ h := rfl
def b__law_path_1 (call : CallT) : SemS := (sIf (tBl (eBin (oInF false) (eBin oIx (eVar 6) (eK (.int 0))) (eVar 2)))
      (sSq (sEx (eLm lmAppend (eVar 3) (aCons (eTup (aCons (eN nLen (aCons (eVar 5) aNil)) (aCons (eBin oAdd (eBin oIx (eK (.str "abc")) (eVar 4)) (eVar 5)) aNil))) aNil)))
      sBrk)
      sNil)
@[simp] theorem ab__law_path_1 (call : CallT) (σ : Lo) (h : Hs) : b__law_path_1 call σ h = (sIf (tBl (eBin (oInF false) (eBin oIx (eVar 6) (eK (.int 0))) (eVar 2)))
      (sSq (sEx (eLm lmAppend (eVar 3) (aCons (eTup (aCons (eN nLen (aCons (eVar 5) aNil)) (aCons (eBin oAdd (eBin oIx (eK (.str "abc")) (eVar 4)) (eVar 5)) aNil))) aNil)))
      sBrk)
      sNil) σ h := rfl
def b__law_path_2 (call : CallT) : SemS := (sFor (iSeq (eCl call 18 [] (aCons (eVar 0) (aCons (eTup (aCons (eBin oIx (eBin oIx (eVar 0) (eVar 1)) (eVar 4)) aNil)) aNil)))) (gTp 2 (gCo (gNm 5) (gCo (gNm 6) gNi)))
      (b__law_path_1 call))
@[simp] theorem ab__law_path_2 (call : CallT) (σ : Lo) (h : Hs) : b__law_path_2 call σ h = (sFor (iSeq (eCl call 18 [] (aCons (eVar 0) (aCons (eTup (aCons (eBin oIx (eBin oIx (eVar 0) (eVar 1)) (eVar 4)) aNil)) aNil)))) (gTp 2 (gCo (gNm 5) (gCo (gNm 6) gNi)))
      (b__law_path_1 call)) σ h := rfl
def m__law_path (call : CallT) : SemS := (sSq (sAs (eLst aNil) (gNm 3))
      (sSq (sFor (iA1 (aCons (eN nLen (aCons (eBin oIx (eVar 0) (eK (.int 0))) aNil)) aNil)) (gNm 4)
      (b__law_path_2 call))
      (sRt (eIf (tTru (eVar 3)) (eBin oIx (eN nMinD (aCons (eVar 3) aNil)) (eK (.int 1))) (eK .non)))))
@[simp] theorem am__law_path (call : CallT) (σ : Lo) (h : Hs) : m__law_path call σ h = (sSq (sAs (eLst aNil) (gNm 3))
      (sSq (sFor (iA1 (aCons (eN nLen (aCons (eBin oIx (eVar 0) (eK (.int 0))) aNil)) aNil)) (gNm 4)
      (b__law_path_2 call))
      (sRt (eIf (tTru (eVar 3)) (eBin oIx (eN nMinD (aCons (eVar 3) aNil)) (eK (.int 1))) (eK .non))))) σ h := rfl
def b__law_right_1 (call : CallT) : SemS := (sSq (sAs (eCl call 8 [] (aCons (eVar 6) (aCons (eVar 8) aNil))) (gNm 10))
      (sIf (tOr' (tBl (eBin oNe (eVar 10) (eCl call 20 [] (aCons (eVar 6) (aCons (eVar 8) aNil))))) (tBl (eBin (oDIn true) (eVar 10) (eVar 5))))
      (sRt (eK (.bl false)))
      sNil))
@[simp] theorem ab__law_right_1 (call : CallT) (σ : Lo) (h : Hs) : b__law_right_1 call σ h = (sSq (sAs (eCl call 8 [] (aCons (eVar 6) (aCons (eVar 8) aNil))) (gNm 10))
      (sIf (tOr' (tBl (eBin oNe (eVar 10) (eCl call 20 [] (aCons (eVar 6) (aCons (eVar 8) aNil))))) (tBl (eBin (oDIn true) (eVar 10) (eVar 5))))
      (sRt (eK (.bl false)))
      sNil)) σ h := rfl
def b__law_right_2 (call : CallT) : SemS := (sSq (sIf (tOr' (tBl (eBin oNe (eMe call 5 3 [] (eVar 2) (aCons (eVar 6) aNil)) (eVar 7))) (tBl (eBin oNe (eMe call 4 3 [] (eVar 2) (aCons (eVar 7) aNil)) (eVar 6))))
      (sRt (eK (.bl false)))
      sNil)
      (sFor (iSeq (eVar 3)) (gTp 2 (gCo (gNm 8) (gCo (gNm 9) gNi)))
      (b__law_right_1 call)))
@[simp] theorem ab__law_right_2 (call : CallT) (σ : Lo) (h : Hs) : b__law_right_2 call σ h = (sSq (sIf (tOr' (tBl (eBin oNe (eMe call 5 3 [] (eVar 2) (aCons (eVar 6) aNil)) (eVar 7))) (tBl (eBin oNe (eMe call 4 3 [] (eVar 2) (aCons (eVar 7) aNil)) (eVar 6))))
      (sRt (eK (.bl false)))
      sNil)
      (sFor (iSeq (eVar 3)) (gTp 2 (gCo (gNm 8) (gCo (gNm 9) gNi)))
      (b__law_right_1 call))) σ h := rfl
def b__law_right_3 (call : CallT) : SemS := (sSq (sAs (eN nTuple (aCons (eLc false [18] (iA1 (aCons (eVar 4) aNil)) (gNm 18) tYs (eCl call 14 [] (aCons (eVar 0) (aCons (eVar 4) aNil)))) aNil)) (gNm 6))
      (sSq (sIf (tBl (eBin oNe (eMe call 5 3 [] (eVar 2) (aCons (eVar 6) aNil)) (eDg2 (eVar 5) (eVar 6) (eK .non))))
      (sRt (eK (.bl false)))
      sNil)
      (sSq (sAs (eCl call 16 [] (aCons (eVar 0) (aCons (eSl (eK (.str "abc")) oNone (oSome (eN nLen (aCons (eBin oIx (eVar 1) (eK (.int 0))) aNil)))) (aCons (eK (.int 30)) aNil)))) (gNm 7))
      (sIf (tOr' (tBl (eBin oNe (eMe call 4 3 [] (eVar 2) (aCons (eVar 7) aNil)) (eCl call 19 [] (aCons (eVar 1) (aCons (eVar 7) aNil))))) (tAn (tBl (eBin (oEqF true) (eVar 7) (eK (.str "")))) (tBl (eBin (oDIn true) (eMe call 4 3 [] (eVar 2) (aCons (eVar 7) aNil)) (eVar 5)))))
      (sRt (eK (.bl false)))
      sNil))))
@[simp] theorem ab__law_right_3 (call : CallT) (σ : Lo) (h : Hs) : b__law_right_3 call σ h = (sSq (sAs (eN nTuple (aCons (eLc false [18] (iA1 (aCons (eVar 4) aNil)) (gNm 18) tYs (eCl call 14 [] (aCons (eVar 0) (aCons (eVar 4) aNil)))) aNil)) (gNm 6))
      (sSq (sIf (tBl (eBin oNe (eMe call 5 3 [] (eVar 2) (aCons (eVar 6) aNil)) (eDg2 (eVar 5) (eVar 6) (eK .non))))
      (sRt (eK (.bl false)))
      sNil)
      (sSq (sAs (eCl call 16 [] (aCons (eVar 0) (aCons (eSl (eK (.str "abc")) oNone (oSome (eN nLen (aCons (eBin oIx (eVar 1) (eK (.int 0))) aNil)))) (aCons (eK (.int 30)) aNil)))) (gNm 7))
      (sIf (tOr' (tBl (eBin oNe (eMe call 4 3 [] (eVar 2) (aCons (eVar 7) aNil)) (eCl call 19 [] (aCons (eVar 1) (aCons (eVar 7) aNil))))) (tAn (tBl (eBin (oEqF true) (eVar 7) (eK (.str "")))) (tBl (eBin (oDIn true) (eMe call 4 3 [] (eVar 2) (aCons (eVar 7) aNil)) (eVar 5)))))
      (sRt (eK (.bl false)))
      sNil)))) σ h := rfl
def b__law_right_4 (call : CallT) : SemS := (sIf (tBl (eBin oNe (eMe call 3 3 [] (eVar 2) (aCons (eBin oIx (eK (.str "abc")) (eVar 12)) aNil)) (eN nTuple (aCons (eLc false [19] (iSeq (eVar 1)) (gNm 19) tYs (eBin oIx (eVar 19) (eVar 12))) aNil))))
      (sRt (eK (.bl false)))
      sNil)
@[simp] theorem ab__law_right_4 (call : CallT) (σ : Lo) (h : Hs) : b__law_right_4 call σ h = (sIf (tBl (eBin oNe (eMe call 3 3 [] (eVar 2) (aCons (eBin oIx (eK (.str "abc")) (eVar 12)) aNil)) (eN nTuple (aCons (eLc false [19] (iSeq (eVar 1)) (gNm 19) tYs (eBin oIx (eVar 19) (eVar 12))) aNil))))
      (sRt (eK (.bl false)))
      sNil) σ h := rfl
def b__law_right_5 (call : CallT) : SemS := (sSq (sAs (eLc false [20] (iA1 (aCons (eVar 4) aNil)) (gNm 20) (tBl (eBin oNotN (eCl call 25 [] (aCons (eVar 1) (aCons (eVar 13) (aCons (eLv (aCons (eVar 20) aNil)) aNil)))) (eK .non))) (eVar 20)) (gNm 14))
      (sSq (sIf (tBl (eBin oNe (eMe call 6 3 [] (eVar 2) (aCons (eVar 13) aNil)) (eN nTuple (aCons (eVar 14) aNil))))
      (sRt (eK (.bl false)))
      sNil)
      (sSq (sAs (eLc false [11] (iA1 (aCons (eCl call 14 [] (aCons (eVar 0) (aCons (eK (.int 4)) aNil))) aNil)) (gNm 11) tYs (eCl call 14 [] (aCons (eVar 0) (aCons (eVar 4) aNil)))) (gNm 15))
      (sSq (sPar [16, 17] (aCons (eN nListV (aCons (eVar 15) aNil)) (aCons (eCl call 25 [] (aCons (eVar 1) (aCons (eVar 13) (aCons (eVar 15) aNil)))) aNil)))
      (sSq (sIf (tOr' (tBl (eBin oNe (eMe call 7 3 [] (eVar 2) (aCons (eVar 13) (aCons (eVar 15) aNil))) (eVar 17))) (tOr' (tBl (eBin oNe (eMe call 7 3 [] (eVar 2) (aCons (eVar 13) (aCons (eN nTuple (aCons (eVar 15) aNil)) aNil))) (eVar 17))) (tBl (eBin oNe (eVar 15) (eVar 16)))))
      (sRt (eK (.bl false)))
      sNil)
      (sIf (tBl (eBin oNe (eBin oIsN (eVar 17) (eK .non)) (eBin oEq (eLc false [20] (iSeq (eVar 15)) (gNm 20) (tBl (eBin (oInF false) (eVar 20) (eVar 14))) (eVar 20)) (eLv aNil))))
      (sRt (eK (.bl false)))
      sNil))))))
@[simp] theorem ab__law_right_5 (call : CallT) (σ : Lo) (h : Hs) : b__law_right_5 call σ h = (sSq (sAs (eLc false [20] (iA1 (aCons (eVar 4) aNil)) (gNm 20) (tBl (eBin oNotN (eCl call 25 [] (aCons (eVar 1) (aCons (eVar 13) (aCons (eLv (aCons (eVar 20) aNil)) aNil)))) (eK .non))) (eVar 20)) (gNm 14))
      (sSq (sIf (tBl (eBin oNe (eMe call 6 3 [] (eVar 2) (aCons (eVar 13) aNil)) (eN nTuple (aCons (eVar 14) aNil))))
      (sRt (eK (.bl false)))
      sNil)
      (sSq (sAs (eLc false [11] (iA1 (aCons (eCl call 14 [] (aCons (eVar 0) (aCons (eK (.int 4)) aNil))) aNil)) (gNm 11) tYs (eCl call 14 [] (aCons (eVar 0) (aCons (eVar 4) aNil)))) (gNm 15))
      (sSq (sPar [16, 17] (aCons (eN nListV (aCons (eVar 15) aNil)) (aCons (eCl call 25 [] (aCons (eVar 1) (aCons (eVar 13) (aCons (eVar 15) aNil)))) aNil)))
      (sSq (sIf (tOr' (tBl (eBin oNe (eMe call 7 3 [] (eVar 2) (aCons (eVar 13) (aCons (eVar 15) aNil))) (eVar 17))) (tOr' (tBl (eBin oNe (eMe call 7 3 [] (eVar 2) (aCons (eVar 13) (aCons (eN nTuple (aCons (eVar 15) aNil)) aNil))) (eVar 17))) (tBl (eBin oNe (eVar 15) (eVar 16)))))
      (sRt (eK (.bl false)))
      sNil)
      (sIf (tBl (eBin oNe (eBin oIsN (eVar 17) (eK .non)) (eBin oEq (eLc false [20] (iSeq (eVar 15)) (gNm 20) (tBl (eBin (oInF false) (eVar 20) (eVar 14))) (eVar 20)) (eLv aNil))))
      (sRt (eK (.bl false)))
      sNil)))))) σ h := rfl
def m__law_right (call : CallT) : SemS := (sSq (sAs (eN nSorted (aCons (eCl call 21 [] (aCons (eVar 1) aNil)) aNil)) (gNm 3))
      (sSq (sAs (eN nLen (aCons (eVar 1) aNil)) (gNm 4))
      (sSq (sIf (tOr' (tNo (tTru (eIsi (isiL ["tuple"]) (eFd (ok_table) 1 (eVar 2))))) (tBl (eBin (oEqF true) (eN nRepr (aCons (eFd (ok_table) 1 (eVar 2)) aNil)) (eN nRepr (aCons (eN nTuple (aCons (eVar 3) aNil)) aNil)))))
      (sRt (eK (.bl false)))
      sNil)
      (sSq (sIf (tOr' (tBl (eBin oNe (eFd (ok_states) 2 (eVar 2)) (eVar 4))) (tBl (eBin oNe (eFd (ok_letters) 3 (eVar 2)) (eN nTupS (aCons (eSl (eK (.str "abc")) oNone (oSome (eN nLen (aCons (eBin oIx (eVar 1) (eK (.int 0))) aNil)))) aNil)))))
      (sRt (eK (.bl false)))
      sNil)
      (sSq (sAs (eN nDictP (aCons (eVar 3) aNil)) (gNm 5))
      (sSq (sFor (iSeq (eVar 3)) (gTp 2 (gCo (gNm 6) (gCo (gNm 7) gNi)))
      (b__law_right_2 call))
      (sSq (sFor (iA1 (aCons (eK (.int 5)) aNil)) (gNm 11)
      (b__law_right_3 call))
      (sSq (sFor (iA1 (aCons (eN nLen (aCons (eBin oIx (eVar 1) (eK (.int 0))) aNil)) aNil)) (gNm 12)
      (b__law_right_4 call))
      (sSq (sFor (iA1 (aCons (eVar 4) aNil)) (gNm 13)
      (b__law_right_5 call))
      (sRt (eBin oEq (eMe call 4 3 [] (eVar 2) (aCons (eK (.str "")) aNil)) (eTR (eVar 4)))))))))))))
@[simp] theorem am__law_right (call : CallT) (σ : Lo) (h : Hs) : m__law_right call σ h = (sSq (sAs (eN nSorted (aCons (eCl call 21 [] (aCons (eVar 1) aNil)) aNil)) (gNm 3))
      (sSq (sAs (eN nLen (aCons (eVar 1) aNil)) (gNm 4))
      (sSq (sIf (tOr' (tNo (tTru (eIsi (isiL ["tuple"]) (eFd (ok_table) 1 (eVar 2))))) (tBl (eBin (oEqF true) (eN nRepr (aCons (eFd (ok_table) 1 (eVar 2)) aNil)) (eN nRepr (aCons (eN nTuple (aCons (eVar 3) aNil)) aNil)))))
      (sRt (eK (.bl false)))
      sNil)
      (sSq (sIf (tOr' (tBl (eBin oNe (eFd (ok_states) 2 (eVar 2)) (eVar 4))) (tBl (eBin oNe (eFd (ok_letters) 3 (eVar 2)) (eN nTupS (aCons (eSl (eK (.str "abc")) oNone (oSome (eN nLen (aCons (eBin oIx (eVar 1) (eK (.int 0))) aNil)))) aNil)))))
      (sRt (eK (.bl false)))
      sNil)
      (sSq (sAs (eN nDictP (aCons (eVar 3) aNil)) (gNm 5))
      (sSq (sFor (iSeq (eVar 3)) (gTp 2 (gCo (gNm 6) (gCo (gNm 7) gNi)))
      (b__law_right_2 call))
      (sSq (sFor (iA1 (aCons (eK (.int 5)) aNil)) (gNm 11)
      (b__law_right_3 call))
      (sSq (sFor (iA1 (aCons (eN nLen (aCons (eBin oIx (eVar 1) (eK (.int 0))) aNil)) aNil)) (gNm 12)
      (b__law_right_4 call))
      (sSq (sFor (iA1 (aCons (eVar 4) aNil)) (gNm 13)
      (b__law_right_5 call))
      (sRt (eBin oEq (eMe call 4 3 [] (eVar 2) (aCons (eK (.str "")) aNil)) (eTR (eVar 4))))))))))))) σ h := rfl
def b_law_1 (call : CallT) : SemS := (sSq (sAs (eTup (aCons (eBin oAdd (eK (.int 1)) (eCl call 14 [] (aCons (eVar 1) (aCons (eK (.int 4)) aNil)))) (aCons (eBin oAdd (eK (.int 1)) (eCl call 14 [] (aCons (eVar 1) (aCons (eK (.int 3)) aNil)))) aNil))) (gTp 2 (gCo (gNm 4) (gCo (gNm 5) gNi))))
      (sSq (sAs (eCl call 22 [] (aCons (eVar 1) (aCons (eVar 4) (aCons (eVar 5) aNil)))) (gNm 6))
      (sSq (sAs (eN nTuple (aCons (eLc false [10] (iA1 (aCons (eCl call 14 [] (aCons (eVar 1) (aCons (eK (.int 3)) aNil))) aNil)) (gNm 10) tYs (eCl call 23 [] (aCons (eVar 1) (aCons (eVar 4) aNil)))) aNil)) (gNm 7))
      (sSq (sAs (eMk call 10 4 [] (aCons (eVar 5) (aCons (eVar 6) (aCons (eVar 7) aNil)))) (gNm 8))
      (sSq (sAs (eCl call 24 [] (aCons (eVar 8) aNil)) (gNm 9))
      (sSq (sIf (tBl (eBin oNe (eBin oIsN (eVar 9) (eK .non)) (eBin oGt (eN nLen (aCons (eCl call 21 [] (aCons (eVar 6) aNil)) aNil)) (eK (.int 60)))))
      (sRt (eK (.bl false)))
      sNil)
      (sIf (tBl (eBin oNotN (eVar 9) (eK .non)))
      (sSq (sEx (eLm lmAppend (eVar 2) (aCons (eTup (aCons (eVar 6) (aCons (eVar 9) aNil))) aNil)))
      (sSq (sIf (tNo (tAn (tBl (eBin (oEqO false eqTab call) (eFd (ok_watcher) 0 (eVar 9)) (eVar 8))) (tBl (eBin (oEqO false eqTab call) (eVar 9) (eCl call 9 [] (aCons (eMk call 10 4 [] (aCons (eVar 5) (aCons (eVar 6) (aCons (eVar 7) aNil)))) aNil))))))
      (sRt (eK (.bl false)))
      sNil)
      (sIf (tOr' (tNo (tBl (eBin (oEqO false eqTab call) (eVar 9) (eMk call 1 3 [] (aCons (eVar 8) (aCons (eN nTuple (aCons (eN nSorted (aCons (eCl call 21 [] (aCons (eVar 6) aNil)) aNil)) aNil)) aNil)))))) (tBl (eBin (oEqO false eqTab call) (eVar 9) (eMk call 1 3 [] (aCons (eVar 8) (aCons (eSl (eFd (ok_table) 1 (eVar 9)) (oSome (eK (.int 1))) oNone) aNil))))))
      (sRt (eK (.bl false)))
      sNil)))
      sNil)))))))
@[simp] theorem ab_law_1 (call : CallT) (σ : Lo) (h : Hs) : b_law_1 call σ h = (sSq (sAs (eTup (aCons (eBin oAdd (eK (.int 1)) (eCl call 14 [] (aCons (eVar 1) (aCons (eK (.int 4)) aNil)))) (aCons (eBin oAdd (eK (.int 1)) (eCl call 14 [] (aCons (eVar 1) (aCons (eK (.int 3)) aNil)))) aNil))) (gTp 2 (gCo (gNm 4) (gCo (gNm 5) gNi))))
      (sSq (sAs (eCl call 22 [] (aCons (eVar 1) (aCons (eVar 4) (aCons (eVar 5) aNil)))) (gNm 6))
      (sSq (sAs (eN nTuple (aCons (eLc false [10] (iA1 (aCons (eCl call 14 [] (aCons (eVar 1) (aCons (eK (.int 3)) aNil))) aNil)) (gNm 10) tYs (eCl call 23 [] (aCons (eVar 1) (aCons (eVar 4) aNil)))) aNil)) (gNm 7))
      (sSq (sAs (eMk call 10 4 [] (aCons (eVar 5) (aCons (eVar 6) (aCons (eVar 7) aNil)))) (gNm 8))
      (sSq (sAs (eCl call 24 [] (aCons (eVar 8) aNil)) (gNm 9))
      (sSq (sIf (tBl (eBin oNe (eBin oIsN (eVar 9) (eK .non)) (eBin oGt (eN nLen (aCons (eCl call 21 [] (aCons (eVar 6) aNil)) aNil)) (eK (.int 60)))))
      (sRt (eK (.bl false)))
      sNil)
      (sIf (tBl (eBin oNotN (eVar 9) (eK .non)))
      (sSq (sEx (eLm lmAppend (eVar 2) (aCons (eTup (aCons (eVar 6) (aCons (eVar 9) aNil))) aNil)))
      (sSq (sIf (tNo (tAn (tBl (eBin (oEqO false eqTab call) (eFd (ok_watcher) 0 (eVar 9)) (eVar 8))) (tBl (eBin (oEqO false eqTab call) (eVar 9) (eCl call 9 [] (aCons (eMk call 10 4 [] (aCons (eVar 5) (aCons (eVar 6) (aCons (eVar 7) aNil)))) aNil))))))
      (sRt (eK (.bl false)))
      sNil)
      (sIf (tOr' (tNo (tBl (eBin (oEqO false eqTab call) (eVar 9) (eMk call 1 3 [] (aCons (eVar 8) (aCons (eN nTuple (aCons (eN nSorted (aCons (eCl call 21 [] (aCons (eVar 6) aNil)) aNil)) aNil)) aNil)))))) (tBl (eBin (oEqO false eqTab call) (eVar 9) (eMk call 1 3 [] (aCons (eVar 8) (aCons (eSl (eFd (ok_table) 1 (eVar 9)) (oSome (eK (.int 1))) oNone) aNil))))))
      (sRt (eK (.bl false)))
      sNil)))
      sNil))))))) σ h := rfl
def b_law_2 (call : CallT) : SemS := (sIf (tNo (tTru (eCl call 26 [] (aCons (eVar 1) (aCons (eVar 6) (aCons (eVar 9) aNil))))))
      (sRt (eK (.bl false)))
      sNil)
@[simp] theorem ab_law_2 (call : CallT) (σ : Lo) (h : Hs) : b_law_2 call σ h = (sIf (tNo (tTru (eCl call 26 [] (aCons (eVar 1) (aCons (eVar 6) (aCons (eVar 9) aNil))))))
      (sRt (eK (.bl false)))
      sNil) σ h := rfl
def m_law (call : CallT) : SemS := (sSq (sAs (eCl call 13 [] (aCons (eVar 0) aNil)) (gNm 1))
      (sSq (sAs (eLst aNil) (gNm 2))
      (sSq (sFor (iA1 (aCons (eK (.int 2)) aNil)) (gNm 3)
      (b_law_1 call))
      (sSq (sFrz 2) (sSq (sFor (iSeq (eVar 2)) (gTp 2 (gCo (gNm 6) (gCo (gNm 9) gNi)))
      (b_law_2 call))
      (sRt (eK (.bl true))))))))
@[simp] theorem am_law (call : CallT) (σ : Lo) (h : Hs) : m_law call σ h = (sSq (sAs (eCl call 13 [] (aCons (eVar 0) aNil)) (gNm 1))
      (sSq (sAs (eLst aNil) (gNm 2))
      (sSq (sFor (iA1 (aCons (eK (.int 2)) aNil)) (gNm 3)
      (b_law_1 call))
      (sSq (sFrz 2) (sSq (sFor (iSeq (eVar 2)) (gTp 2 (gCo (gNm 6) (gCo (gNm 9) gNi)))
      (b_law_2 call))
      (sRt (eK (.bl true)))))))) σ h := rfl
def defs : List MDef := [⟨1, 1, false, m_alphabet_of⟩, ⟨3, 3, false, m_Deeds__init_⟩, ⟨2, 2, false, m_Deeds__eq_⟩, ⟨2, 2, false, m_Deeds_letter_deed⟩, ⟨2, 3, false, m_Deeds_text_deed⟩, ⟨2, 4, false, m_Deeds_text_of⟩, ⟨2, 4, false, m_Deeds_reached_from⟩, ⟨3, 6, false, m_Deeds_path_text⟩, ⟨2, 3, false, m_deed_after⟩, ⟨1, 14, false, m_deeds_of⟩, ⟨4, 4, false, m_Watcher__init_⟩, ⟨2, 2, false, m_Watcher__eq_⟩, ⟨3, 4, false, m_Watcher_state_after⟩, ⟨1, 1, true, m__law_source⟩, ⟨2, 5, false, m__law_take⟩, ⟨2, 2, false, m__law_pick⟩, ⟨3, 4, false, m__law_drawn_text⟩, ⟨3, 4, false, m__law_after⟩, ⟨2, 11, false, m__law_walks⟩, ⟨2, 3, false, m__law_deed⟩, ⟨2, 3, false, m__law_chain⟩, ⟨1, 10, false, m__law_table⟩, ⟨3, 5, false, m__law_moves⟩, ⟨2, 3, false, m__law_goals⟩, ⟨1, 1, false, m__law_lot⟩, ⟨3, 7, false, m__law_path⟩, ⟨3, 21, false, m__law_right⟩, ⟨1, 11, false, m_law⟩]
abbrev fns (K : PySem.W.Frag) (fd : Nat → FuncData) : List Fn := [⟨He.fAd K d_alphabet_of.at_, fd 0, ["letters"]⟩, ⟨He.fAd K d_Deeds__init_.at_, fd 1, ["self", "watcher", "table"]⟩, ⟨He.fAd K d_Deeds__eq_.at_, fd 2, ["self", "other"]⟩, ⟨He.fAd K d_Deeds_letter_deed.at_, fd 3, ["self", "letter"]⟩, ⟨He.fAd K d_Deeds_text_deed.at_, fd 4, ["self", "text"]⟩, ⟨He.fAd K d_Deeds_text_of.at_, fd 5, ["self", "deed"]⟩, ⟨He.fAd K d_Deeds_reached_from.at_, fd 6, ["self", "start"]⟩, ⟨He.fAd K d_Deeds_path_text.at_, fd 7, ["self", "start", "goals"]⟩, ⟨He.fAd K d_deed_after.at_, fd 8, ["first", "then"]⟩, ⟨He.fAd K d_deeds_of.at_, fd 9, ["watcher"]⟩, ⟨He.fAd K d_Watcher__init_.at_, fd 10, ["self", "letters", "moves", "ends"]⟩, ⟨He.fAd K d_Watcher__eq_.at_, fd 11, ["self", "other"]⟩, ⟨He.fAd K d_Watcher_state_after.at_, fd 12, ["self", "text", "state"]⟩, ⟨He.fAd K d__law_source.at_, fd 13, ["_law_script"]⟩, ⟨He.fAd K d__law_take.at_, fd 14, ["_law_source_here", "_law_many"]⟩, ⟨He.fAd K d__law_pick.at_, fd 15, ["_law_source_here", "_law_things"]⟩, ⟨He.fAd K d__law_drawn_text.at_, fd 16, ["_law_source_here", "_law_alphabet", "_law_most"]⟩, ⟨He.fAd K d__law_after.at_, fd 17, ["_law_moves_here", "_law_state", "_law_text"]⟩, ⟨He.fAd K d__law_walks.at_, fd 18, ["_law_moves_here", "_law_begun"]⟩, ⟨He.fAd K d__law_deed.at_, fd 19, ["_law_moves_here", "_law_text"]⟩, ⟨He.fAd K d__law_chain.at_, fd 20, ["_law_first", "_law_then"]⟩, ⟨He.fAd K d__law_table.at_, fd 21, ["_law_moves_here"]⟩, ⟨He.fAd K d__law_moves.at_, fd 22, ["_law_source_here", "_law_states", "_law_letters"]⟩, ⟨He.fAd K d__law_goals.at_, fd 23, ["_law_source_here", "_law_states"]⟩, ⟨He.fAd K d__law_lot.at_, fd 24, ["_law_watcher"]⟩, ⟨He.fAd K d__law_path.at_, fd 25, ["_law_moves_here", "_law_start", "_law_goals_here"]⟩, ⟨He.fAd K d__law_right.at_, fd 26, ["_law_source_here", "_law_moves_here", "_law_lot_here"]⟩, ⟨He.fAd K d_law.at_, fd 27, ["_law_script"]⟩]
structure Fx (K : PySem.W.Frag) (mg : Str → Option Value) (fd : Nat → FuncData) : Prop where
  D_alphabet_of : FunD K d_alphabet_of.name d_alphabet_of.qual d_alphabet_of.params d_alphabet_of.body d_alphabet_of.scope (d_alphabet_of.dvs K) (d_alphabet_of.kws K) (He.fAd K d_alphabet_of.at_) (fd 0)
  i_alphabet_of : FnI K ⟨He.fAd K d_alphabet_of.at_, fd 0, ["letters"]⟩
  D_Deeds__init_ : FunD K d_Deeds__init_.name d_Deeds__init_.qual d_Deeds__init_.params d_Deeds__init_.body d_Deeds__init_.scope (d_Deeds__init_.dvs K) (d_Deeds__init_.kws K) (He.fAd K d_Deeds__init_.at_) (fd 1)
  i_Deeds__init_ : FnI K ⟨He.fAd K d_Deeds__init_.at_, fd 1, ["self", "watcher", "table"]⟩
  D_Deeds__eq_ : FunD K d_Deeds__eq_.name d_Deeds__eq_.qual d_Deeds__eq_.params d_Deeds__eq_.body d_Deeds__eq_.scope (d_Deeds__eq_.dvs K) (d_Deeds__eq_.kws K) (He.fAd K d_Deeds__eq_.at_) (fd 2)
  i_Deeds__eq_ : FnI K ⟨He.fAd K d_Deeds__eq_.at_, fd 2, ["self", "other"]⟩
  D_Deeds_letter_deed : FunD K d_Deeds_letter_deed.name d_Deeds_letter_deed.qual d_Deeds_letter_deed.params d_Deeds_letter_deed.body d_Deeds_letter_deed.scope (d_Deeds_letter_deed.dvs K) (d_Deeds_letter_deed.kws K) (He.fAd K d_Deeds_letter_deed.at_) (fd 3)
  i_Deeds_letter_deed : FnI K ⟨He.fAd K d_Deeds_letter_deed.at_, fd 3, ["self", "letter"]⟩
  D_Deeds_text_deed : FunD K d_Deeds_text_deed.name d_Deeds_text_deed.qual d_Deeds_text_deed.params d_Deeds_text_deed.body d_Deeds_text_deed.scope (d_Deeds_text_deed.dvs K) (d_Deeds_text_deed.kws K) (He.fAd K d_Deeds_text_deed.at_) (fd 4)
  i_Deeds_text_deed : FnI K ⟨He.fAd K d_Deeds_text_deed.at_, fd 4, ["self", "text"]⟩
  D_Deeds_text_of : FunD K d_Deeds_text_of.name d_Deeds_text_of.qual d_Deeds_text_of.params d_Deeds_text_of.body d_Deeds_text_of.scope (d_Deeds_text_of.dvs K) (d_Deeds_text_of.kws K) (He.fAd K d_Deeds_text_of.at_) (fd 5)
  i_Deeds_text_of : FnI K ⟨He.fAd K d_Deeds_text_of.at_, fd 5, ["self", "deed"]⟩
  D_Deeds_reached_from : FunD K d_Deeds_reached_from.name d_Deeds_reached_from.qual d_Deeds_reached_from.params d_Deeds_reached_from.body d_Deeds_reached_from.scope (d_Deeds_reached_from.dvs K) (d_Deeds_reached_from.kws K) (He.fAd K d_Deeds_reached_from.at_) (fd 6)
  i_Deeds_reached_from : FnI K ⟨He.fAd K d_Deeds_reached_from.at_, fd 6, ["self", "start"]⟩
  D_Deeds_path_text : FunD K d_Deeds_path_text.name d_Deeds_path_text.qual d_Deeds_path_text.params d_Deeds_path_text.body d_Deeds_path_text.scope (d_Deeds_path_text.dvs K) (d_Deeds_path_text.kws K) (He.fAd K d_Deeds_path_text.at_) (fd 7)
  i_Deeds_path_text : FnI K ⟨He.fAd K d_Deeds_path_text.at_, fd 7, ["self", "start", "goals"]⟩
  D_deed_after : FunD K d_deed_after.name d_deed_after.qual d_deed_after.params d_deed_after.body d_deed_after.scope (d_deed_after.dvs K) (d_deed_after.kws K) (He.fAd K d_deed_after.at_) (fd 8)
  i_deed_after : FnI K ⟨He.fAd K d_deed_after.at_, fd 8, ["first", "then"]⟩
  D_deeds_of : FunD K d_deeds_of.name d_deeds_of.qual d_deeds_of.params d_deeds_of.body d_deeds_of.scope (d_deeds_of.dvs K) (d_deeds_of.kws K) (He.fAd K d_deeds_of.at_) (fd 9)
  i_deeds_of : FnI K ⟨He.fAd K d_deeds_of.at_, fd 9, ["watcher"]⟩
  D_Watcher__init_ : FunD K d_Watcher__init_.name d_Watcher__init_.qual d_Watcher__init_.params d_Watcher__init_.body d_Watcher__init_.scope (d_Watcher__init_.dvs K) (d_Watcher__init_.kws K) (He.fAd K d_Watcher__init_.at_) (fd 10)
  i_Watcher__init_ : FnI K ⟨He.fAd K d_Watcher__init_.at_, fd 10, ["self", "letters", "moves", "ends"]⟩
  D_Watcher__eq_ : FunD K d_Watcher__eq_.name d_Watcher__eq_.qual d_Watcher__eq_.params d_Watcher__eq_.body d_Watcher__eq_.scope (d_Watcher__eq_.dvs K) (d_Watcher__eq_.kws K) (He.fAd K d_Watcher__eq_.at_) (fd 11)
  i_Watcher__eq_ : FnI K ⟨He.fAd K d_Watcher__eq_.at_, fd 11, ["self", "other"]⟩
  D_Watcher_state_after : FunD K d_Watcher_state_after.name d_Watcher_state_after.qual d_Watcher_state_after.params d_Watcher_state_after.body d_Watcher_state_after.scope (d_Watcher_state_after.dvs K) (d_Watcher_state_after.kws K) (He.fAd K d_Watcher_state_after.at_) (fd 12)
  i_Watcher_state_after : FnI K ⟨He.fAd K d_Watcher_state_after.at_, fd 12, ["self", "text", "state"]⟩
  D__law_source : FunD K d__law_source.name d__law_source.qual d__law_source.params d__law_source.body d__law_source.scope (d__law_source.dvs K) (d__law_source.kws K) (He.fAd K d__law_source.at_) (fd 13)
  i__law_source : FnI K ⟨He.fAd K d__law_source.at_, fd 13, ["_law_script"]⟩
  D__law_take : FunD K d__law_take.name d__law_take.qual d__law_take.params d__law_take.body d__law_take.scope (d__law_take.dvs K) (d__law_take.kws K) (He.fAd K d__law_take.at_) (fd 14)
  i__law_take : FnI K ⟨He.fAd K d__law_take.at_, fd 14, ["_law_source_here", "_law_many"]⟩
  D__law_pick : FunD K d__law_pick.name d__law_pick.qual d__law_pick.params d__law_pick.body d__law_pick.scope (d__law_pick.dvs K) (d__law_pick.kws K) (He.fAd K d__law_pick.at_) (fd 15)
  i__law_pick : FnI K ⟨He.fAd K d__law_pick.at_, fd 15, ["_law_source_here", "_law_things"]⟩
  D__law_drawn_text : FunD K d__law_drawn_text.name d__law_drawn_text.qual d__law_drawn_text.params d__law_drawn_text.body d__law_drawn_text.scope (d__law_drawn_text.dvs K) (d__law_drawn_text.kws K) (He.fAd K d__law_drawn_text.at_) (fd 16)
  i__law_drawn_text : FnI K ⟨He.fAd K d__law_drawn_text.at_, fd 16, ["_law_source_here", "_law_alphabet", "_law_most"]⟩
  D__law_after : FunD K d__law_after.name d__law_after.qual d__law_after.params d__law_after.body d__law_after.scope (d__law_after.dvs K) (d__law_after.kws K) (He.fAd K d__law_after.at_) (fd 17)
  i__law_after : FnI K ⟨He.fAd K d__law_after.at_, fd 17, ["_law_moves_here", "_law_state", "_law_text"]⟩
  D__law_walks : FunD K d__law_walks.name d__law_walks.qual d__law_walks.params d__law_walks.body d__law_walks.scope (d__law_walks.dvs K) (d__law_walks.kws K) (He.fAd K d__law_walks.at_) (fd 18)
  i__law_walks : FnI K ⟨He.fAd K d__law_walks.at_, fd 18, ["_law_moves_here", "_law_begun"]⟩
  D__law_deed : FunD K d__law_deed.name d__law_deed.qual d__law_deed.params d__law_deed.body d__law_deed.scope (d__law_deed.dvs K) (d__law_deed.kws K) (He.fAd K d__law_deed.at_) (fd 19)
  i__law_deed : FnI K ⟨He.fAd K d__law_deed.at_, fd 19, ["_law_moves_here", "_law_text"]⟩
  D__law_chain : FunD K d__law_chain.name d__law_chain.qual d__law_chain.params d__law_chain.body d__law_chain.scope (d__law_chain.dvs K) (d__law_chain.kws K) (He.fAd K d__law_chain.at_) (fd 20)
  i__law_chain : FnI K ⟨He.fAd K d__law_chain.at_, fd 20, ["_law_first", "_law_then"]⟩
  D__law_table : FunD K d__law_table.name d__law_table.qual d__law_table.params d__law_table.body d__law_table.scope (d__law_table.dvs K) (d__law_table.kws K) (He.fAd K d__law_table.at_) (fd 21)
  i__law_table : FnI K ⟨He.fAd K d__law_table.at_, fd 21, ["_law_moves_here"]⟩
  D__law_moves : FunD K d__law_moves.name d__law_moves.qual d__law_moves.params d__law_moves.body d__law_moves.scope (d__law_moves.dvs K) (d__law_moves.kws K) (He.fAd K d__law_moves.at_) (fd 22)
  i__law_moves : FnI K ⟨He.fAd K d__law_moves.at_, fd 22, ["_law_source_here", "_law_states", "_law_letters"]⟩
  D__law_goals : FunD K d__law_goals.name d__law_goals.qual d__law_goals.params d__law_goals.body d__law_goals.scope (d__law_goals.dvs K) (d__law_goals.kws K) (He.fAd K d__law_goals.at_) (fd 23)
  i__law_goals : FnI K ⟨He.fAd K d__law_goals.at_, fd 23, ["_law_source_here", "_law_states"]⟩
  D__law_lot : FunD K d__law_lot.name d__law_lot.qual d__law_lot.params d__law_lot.body d__law_lot.scope (d__law_lot.dvs K) (d__law_lot.kws K) (He.fAd K d__law_lot.at_) (fd 24)
  i__law_lot : FnI K ⟨He.fAd K d__law_lot.at_, fd 24, ["_law_watcher"]⟩
  D__law_path : FunD K d__law_path.name d__law_path.qual d__law_path.params d__law_path.body d__law_path.scope (d__law_path.dvs K) (d__law_path.kws K) (He.fAd K d__law_path.at_) (fd 25)
  i__law_path : FnI K ⟨He.fAd K d__law_path.at_, fd 25, ["_law_moves_here", "_law_start", "_law_goals_here"]⟩
  D__law_right : FunD K d__law_right.name d__law_right.qual d__law_right.params d__law_right.body d__law_right.scope (d__law_right.dvs K) (d__law_right.kws K) (He.fAd K d__law_right.at_) (fd 26)
  i__law_right : FnI K ⟨He.fAd K d__law_right.at_, fd 26, ["_law_source_here", "_law_moves_here", "_law_lot_here"]⟩
  D_law : FunD K d_law.name d_law.qual d_law.params d_law.body d_law.scope (d_law.dvs K) (d_law.kws K) (He.fAd K d_law.at_) (fd 27)
  i_law : FnI K ⟨He.fAd K d_law.at_, fd 27, ["_law_script"]⟩
  g_BadLetters : mg "BadLetters" = some (.ref (He.ga K "BadLetters"))
  g_Deeds : mg "Deeds" = some (.ref (He.ga K "Deeds"))
  g_PressError : mg "PressError" = some (.ref (He.ga K "PressError"))
  g_TooMany : mg "TooMany" = some (.ref (He.ga K "TooMany"))
  g_Watcher : mg "Watcher" = some (.ref (He.ga K "Watcher"))
  g__law_after : mg "_law_after" = some (.ref (He.ga K "_law_after"))
  g__law_chain : mg "_law_chain" = some (.ref (He.ga K "_law_chain"))
  g__law_deed : mg "_law_deed" = some (.ref (He.ga K "_law_deed"))
  g__law_drawn_text : mg "_law_drawn_text" = some (.ref (He.ga K "_law_drawn_text"))
  g__law_goals : mg "_law_goals" = some (.ref (He.ga K "_law_goals"))
  g__law_lot : mg "_law_lot" = some (.ref (He.ga K "_law_lot"))
  g__law_moves : mg "_law_moves" = some (.ref (He.ga K "_law_moves"))
  g__law_path : mg "_law_path" = some (.ref (He.ga K "_law_path"))
  g__law_pick : mg "_law_pick" = some (.ref (He.ga K "_law_pick"))
  g__law_right : mg "_law_right" = some (.ref (He.ga K "_law_right"))
  g__law_source : mg "_law_source" = some (.ref (He.ga K "_law_source"))
  g__law_table : mg "_law_table" = some (.ref (He.ga K "_law_table"))
  g__law_take : mg "_law_take" = some (.ref (He.ga K "_law_take"))
  g__law_walks : mg "_law_walks" = some (.ref (He.ga K "_law_walks"))
  g_alphabet_of : mg "alphabet_of" = some (.ref (He.ga K "alphabet_of"))
  g_deed_after : mg "deed_after" = some (.ref (He.ga K "deed_after"))
  g_deeds_of : mg "deeds_of" = some (.ref (He.ga K "deeds_of"))
  g_law : mg "law" = some (.ref (He.ga K "law"))
  f_bool : mg "bool" = none
  f_dict : mg "dict" = none
  f_enumerate : mg "enumerate" = none
  f_int : mg "int" = none
  f_isinstance : mg "isinstance" = none
  f_len : mg "len" = none
  f_list : mg "list" = none
  f_min : mg "min" = none
  f_range : mg "range" = none
  f_repr : mg "repr" = none
  f_set : mg "set" = none
  f_sorted : mg "sorted" = none
  f_tuple : mg "tuple" = none
  c_Deeds : Cls K (He.ga K "Deeds")
  c_Watcher : Cls K (He.ga K "Watcher")
  n_Deeds_letters : NoAttr K (He.ga K "Deeds") "letters"
  n_Deeds_states : NoAttr K (He.ga K "Deeds") "states"
  n_Deeds_table : NoAttr K (He.ga K "Deeds") "table"
  n_Deeds_watcher : NoAttr K (He.ga K "Deeds") "watcher"
  n_Watcher_ends : NoAttr K (He.ga K "Watcher") "ends"
  n_Watcher_letters : NoAttr K (He.ga K "Watcher") "letters"
  n_Watcher_moves : NoAttr K (He.ga K "Watcher") "moves"
  n_Watcher_states : NoAttr K (He.ga K "Watcher") "states"
  m_Deeds : Mk K (He.ga K "Deeds") (He.fAd K d_Deeds__init_.at_)
  m_Watcher : Mk K (He.ga K "Watcher") (He.fAd K d_Watcher__init_.at_)
  me_Deeds_letter_deed : Meth K (He.ga K "Deeds") "letter_deed" (He.fAd K d_Deeds_letter_deed.at_)
  me_Deeds_path_text : Meth K (He.ga K "Deeds") "path_text" (He.fAd K d_Deeds_path_text.at_)
  me_Deeds_reached_from : Meth K (He.ga K "Deeds") "reached_from" (He.fAd K d_Deeds_reached_from.at_)
  me_Deeds_text_deed : Meth K (He.ga K "Deeds") "text_deed" (He.fAd K d_Deeds_text_deed.at_)
  me_Deeds_text_of : Meth K (He.ga K "Deeds") "text_of" (He.fAd K d_Deeds_text_of.at_)
  me_Watcher_state_after : Meth K (He.ga K "Watcher") "state_after" (He.fAd K d_Watcher_state_after.at_)
  e_Deeds : Meth K (He.ga K "Deeds") "__eq__" (He.fAd K d_Deeds__eq_.at_)
  e_Watcher : Meth K (He.ga K "Watcher") "__eq__" (He.fAd K d_Watcher__eq_.at_)
  k_MOST_DEEDS : ∃ t, mg "MOST_DEEDS" = some (.int 60 t)
  w_isi : isiAllB K cn isOk = true
  w_kit : kitAllB K cn isOk isBt isCs = true
  w_nf : nfAllB K cn (eqTab.map (·.1)) = true
  w_x : xAllB K cn xS = true
  w_kx : kitXB K cn xPar xS xT = true
  w_ky : kitYB K cn xS xY = true
  w_b : bareAllB K cn xBare = true
  w_em : exmXB K cn xPar xS xTr = true
section
variable {K : PySem.W.Frag} {mg : Str → Option Value} {fd : Nat → FuncData}
theorem fx_of {h : Heap} (X : K.In h) (G : h.Ns mainGlobals mg) (c : SaysM (fun K => (xf K).all id) fa fn K) (hd : ∀ i d, fn[i]? = some d → FunD K d.name d.qual d.params d.body d.scope (d.dvs K) (d.kws K) (He.fAd K d.at_) (fd i)) : Fx K mg fd where
  D_alphabet_of := hd 0 _ rfl
  i_alphabet_of := ⟨(hd 0 _ rfl).kp, (hd 0 _ rfl).bindsN fun _ _ _ _ _ _ us hl => match us, hl with | [_], _ => rfl⟩
  D_Deeds__init_ := hd 1 _ rfl
  i_Deeds__init_ := ⟨(hd 1 _ rfl).kp, (hd 1 _ rfl).bindsN fun _ _ _ _ _ _ us hl => match us, hl with | [_, _, _], _ => rfl⟩
  D_Deeds__eq_ := hd 2 _ rfl
  i_Deeds__eq_ := ⟨(hd 2 _ rfl).kp, (hd 2 _ rfl).bindsN fun _ _ _ _ _ _ us hl => match us, hl with | [_, _], _ => rfl⟩
  D_Deeds_letter_deed := hd 3 _ rfl
  i_Deeds_letter_deed := ⟨(hd 3 _ rfl).kp, (hd 3 _ rfl).bindsN fun _ _ _ _ _ _ us hl => match us, hl with | [_, _], _ => rfl⟩
  D_Deeds_text_deed := hd 4 _ rfl
  i_Deeds_text_deed := ⟨(hd 4 _ rfl).kp, (hd 4 _ rfl).bindsN fun _ _ _ _ _ _ us hl => match us, hl with | [_, _], _ => rfl⟩
  D_Deeds_text_of := hd 5 _ rfl
  i_Deeds_text_of := ⟨(hd 5 _ rfl).kp, (hd 5 _ rfl).bindsN fun _ _ _ _ _ _ us hl => match us, hl with | [_, _], _ => rfl⟩
  D_Deeds_reached_from := hd 6 _ rfl
  i_Deeds_reached_from := ⟨(hd 6 _ rfl).kp, (hd 6 _ rfl).bindsN fun _ _ _ _ _ _ us hl => match us, hl with | [_, _], _ => rfl⟩
  D_Deeds_path_text := hd 7 _ rfl
  i_Deeds_path_text := ⟨(hd 7 _ rfl).kp, (hd 7 _ rfl).bindsN fun _ _ _ _ _ _ us hl => match us, hl with | [_, _, _], _ => rfl⟩
  D_deed_after := hd 8 _ rfl
  i_deed_after := ⟨(hd 8 _ rfl).kp, (hd 8 _ rfl).bindsN fun _ _ _ _ _ _ us hl => match us, hl with | [_, _], _ => rfl⟩
  D_deeds_of := hd 9 _ rfl
  i_deeds_of := ⟨(hd 9 _ rfl).kp, (hd 9 _ rfl).bindsN fun _ _ _ _ _ _ us hl => match us, hl with | [_], _ => rfl⟩
  D_Watcher__init_ := hd 10 _ rfl
  i_Watcher__init_ := ⟨(hd 10 _ rfl).kp, (hd 10 _ rfl).bindsN fun _ _ _ _ _ _ us hl => match us, hl with | [_, _, _, _], _ => rfl⟩
  D_Watcher__eq_ := hd 11 _ rfl
  i_Watcher__eq_ := ⟨(hd 11 _ rfl).kp, (hd 11 _ rfl).bindsN fun _ _ _ _ _ _ us hl => match us, hl with | [_, _], _ => rfl⟩
  D_Watcher_state_after := hd 12 _ rfl
  i_Watcher_state_after := ⟨(hd 12 _ rfl).kp, by
    obtain ⟨ds, v, b⟩ := (hd 12 _ rfl).binds1 (ps := ["self", "text", "state"]) 3 1 (by intro z; cases z) rfl fun _ _ _ _ _ _ _ us its h1 h2 => match us, its, h1, h2 with | [_, _, _], [_], _, _ => ⟨_, rfl, rfl⟩
    cases v
    exact b⟩
  D__law_source := hd 13 _ rfl
  i__law_source := ⟨(hd 13 _ rfl).kp, (hd 13 _ rfl).bindsN fun _ _ _ _ _ _ us hl => match us, hl with | [_], _ => rfl⟩
  D__law_take := hd 14 _ rfl
  i__law_take := ⟨(hd 14 _ rfl).kp, (hd 14 _ rfl).bindsN fun _ _ _ _ _ _ us hl => match us, hl with | [_, _], _ => rfl⟩
  D__law_pick := hd 15 _ rfl
  i__law_pick := ⟨(hd 15 _ rfl).kp, (hd 15 _ rfl).bindsN fun _ _ _ _ _ _ us hl => match us, hl with | [_, _], _ => rfl⟩
  D__law_drawn_text := hd 16 _ rfl
  i__law_drawn_text := ⟨(hd 16 _ rfl).kp, (hd 16 _ rfl).bindsN fun _ _ _ _ _ _ us hl => match us, hl with | [_, _, _], _ => rfl⟩
  D__law_after := hd 17 _ rfl
  i__law_after := ⟨(hd 17 _ rfl).kp, (hd 17 _ rfl).bindsN fun _ _ _ _ _ _ us hl => match us, hl with | [_, _, _], _ => rfl⟩
  D__law_walks := hd 18 _ rfl
  i__law_walks := ⟨(hd 18 _ rfl).kp, (hd 18 _ rfl).bindsN fun _ _ _ _ _ _ us hl => match us, hl with | [_, _], _ => rfl⟩
  D__law_deed := hd 19 _ rfl
  i__law_deed := ⟨(hd 19 _ rfl).kp, (hd 19 _ rfl).bindsN fun _ _ _ _ _ _ us hl => match us, hl with | [_, _], _ => rfl⟩
  D__law_chain := hd 20 _ rfl
  i__law_chain := ⟨(hd 20 _ rfl).kp, (hd 20 _ rfl).bindsN fun _ _ _ _ _ _ us hl => match us, hl with | [_, _], _ => rfl⟩
  D__law_table := hd 21 _ rfl
  i__law_table := ⟨(hd 21 _ rfl).kp, (hd 21 _ rfl).bindsN fun _ _ _ _ _ _ us hl => match us, hl with | [_], _ => rfl⟩
  D__law_moves := hd 22 _ rfl
  i__law_moves := ⟨(hd 22 _ rfl).kp, (hd 22 _ rfl).bindsN fun _ _ _ _ _ _ us hl => match us, hl with | [_, _, _], _ => rfl⟩
  D__law_goals := hd 23 _ rfl
  i__law_goals := ⟨(hd 23 _ rfl).kp, (hd 23 _ rfl).bindsN fun _ _ _ _ _ _ us hl => match us, hl with | [_, _], _ => rfl⟩
  D__law_lot := hd 24 _ rfl
  i__law_lot := ⟨(hd 24 _ rfl).kp, (hd 24 _ rfl).bindsN fun _ _ _ _ _ _ us hl => match us, hl with | [_], _ => rfl⟩
  D__law_path := hd 25 _ rfl
  i__law_path := ⟨(hd 25 _ rfl).kp, (hd 25 _ rfl).bindsN fun _ _ _ _ _ _ us hl => match us, hl with | [_, _, _], _ => rfl⟩
  D__law_right := hd 26 _ rfl
  i__law_right := ⟨(hd 26 _ rfl).kp, (hd 26 _ rfl).bindsN fun _ _ _ _ _ _ us hl => match us, hl with | [_, _, _], _ => rfl⟩
  D_law := hd 27 _ rfl
  i_law := ⟨(hd 27 _ rfl).kp, (hd 27 _ rfl).bindsN fun _ _ _ _ _ _ us hl => match us, hl with | [_], _ => rfl⟩
  g_BadLetters := He.glo_ok X G (c.d.fact 0 rfl)
  g_Deeds := He.glo_ok X G (c.d.fact 1 rfl)
  g_PressError := He.glo_ok X G (c.d.fact 2 rfl)
  g_TooMany := He.glo_ok X G (c.d.fact 3 rfl)
  g_Watcher := He.glo_ok X G (c.d.fact 4 rfl)
  g__law_after := He.glo_ok X G (c.d.fact 5 rfl)
  g__law_chain := He.glo_ok X G (c.d.fact 6 rfl)
  g__law_deed := He.glo_ok X G (c.d.fact 7 rfl)
  g__law_drawn_text := He.glo_ok X G (c.d.fact 8 rfl)
  g__law_goals := He.glo_ok X G (c.d.fact 9 rfl)
  g__law_lot := He.glo_ok X G (c.d.fact 10 rfl)
  g__law_moves := He.glo_ok X G (c.d.fact 11 rfl)
  g__law_path := He.glo_ok X G (c.d.fact 12 rfl)
  g__law_pick := He.glo_ok X G (c.d.fact 13 rfl)
  g__law_right := He.glo_ok X G (c.d.fact 14 rfl)
  g__law_source := He.glo_ok X G (c.d.fact 15 rfl)
  g__law_table := He.glo_ok X G (c.d.fact 16 rfl)
  g__law_take := He.glo_ok X G (c.d.fact 17 rfl)
  g__law_walks := He.glo_ok X G (c.d.fact 18 rfl)
  g_alphabet_of := He.glo_ok X G (c.d.fact 19 rfl)
  g_deed_after := He.glo_ok X G (c.d.fact 20 rfl)
  g_deeds_of := He.glo_ok X G (c.d.fact 21 rfl)
  g_law := He.glo_ok X G (c.d.fact 22 rfl)
  f_bool := He.free_ok X G (c.d.fact 23 rfl)
  f_dict := He.free_ok X G (c.d.fact 24 rfl)
  f_enumerate := He.free_ok X G (c.d.fact 25 rfl)
  f_int := He.free_ok X G (c.d.fact 26 rfl)
  f_isinstance := He.free_ok X G (c.d.fact 27 rfl)
  f_len := He.free_ok X G (c.d.fact 28 rfl)
  f_list := He.free_ok X G (c.d.fact 29 rfl)
  f_min := He.free_ok X G (c.d.fact 30 rfl)
  f_range := He.free_ok X G (c.d.fact 31 rfl)
  f_repr := He.free_ok X G (c.d.fact 32 rfl)
  f_set := He.free_ok X G (c.d.fact 33 rfl)
  f_sorted := He.free_ok X G (c.d.fact 34 rfl)
  f_tuple := He.free_ok X G (c.d.fact 35 rfl)
  c_Deeds := He.cls_ok (c.d.fact 36 rfl)
  c_Watcher := He.cls_ok (c.d.fact 37 rfl)
  n_Deeds_letters := He.noat_ok (c.d.fact 38 rfl)
  n_Deeds_states := He.noat_ok (c.d.fact 39 rfl)
  n_Deeds_table := He.noat_ok (c.d.fact 40 rfl)
  n_Deeds_watcher := He.noat_ok (c.d.fact 41 rfl)
  n_Watcher_ends := He.noat_ok (c.d.fact 42 rfl)
  n_Watcher_letters := He.noat_ok (c.d.fact 43 rfl)
  n_Watcher_moves := He.noat_ok (c.d.fact 44 rfl)
  n_Watcher_states := He.noat_ok (c.d.fact 45 rfl)
  m_Deeds := He.mkr_ok (c.d.fact 46 rfl)
  m_Watcher := He.mkr_ok (c.d.fact 47 rfl)
  me_Deeds_letter_deed := He.meth_ok (c.d.fact 50 rfl)
  me_Deeds_path_text := He.meth_ok (c.d.fact 51 rfl)
  me_Deeds_reached_from := He.meth_ok (c.d.fact 52 rfl)
  me_Deeds_text_deed := He.meth_ok (c.d.fact 53 rfl)
  me_Deeds_text_of := He.meth_ok (c.d.fact 54 rfl)
  me_Watcher_state_after := He.meth_ok (c.d.fact 55 rfl)
  e_Deeds := He.meth_ok (c.d.fact 48 rfl)
  e_Watcher := He.meth_ok (c.d.fact 49 rfl)
  k_MOST_DEEDS := He.int_ok X G (c.d.fact 56 rfl)
  w_isi := List.all_eq_true.mp c.x _ (List.mem_of_getElem? (i := 0) rfl)
  w_kit := List.all_eq_true.mp c.x _ (List.mem_of_getElem? (i := 1) rfl)
  w_nf := List.all_eq_true.mp c.x _ (List.mem_of_getElem? (i := 2) rfl)
  w_x := List.all_eq_true.mp c.x _ (List.mem_of_getElem? (i := 3) rfl)
  w_kx := List.all_eq_true.mp c.x _ (List.mem_of_getElem? (i := 4) rfl)
  w_ky := List.all_eq_true.mp c.x _ (List.mem_of_getElem? (i := 5) rfl)
  w_b := List.all_eq_true.mp c.x _ (List.mem_of_getElem? (i := 6) rfl)
  w_em := List.all_eq_true.mp c.x _ (List.mem_of_getElem? (i := 7) rfl)
theorem hok_watcher (fx : Fx K mg fd) (C : Nat) (h : ok_watcher C = true) : Cls K ((ct K).ca C) ∧ NoAttr K ((ct K).ca C) "watcher" := by
  simp only [ok_watcher, Bool.or_eq_true, beq_iff_eq] at h
  subst h; exact ⟨fx.c_Deeds, fx.n_Deeds_watcher⟩
theorem hok_table (fx : Fx K mg fd) (C : Nat) (h : ok_table C = true) : Cls K ((ct K).ca C) ∧ NoAttr K ((ct K).ca C) "table" := by
  simp only [ok_table, Bool.or_eq_true, beq_iff_eq] at h
  subst h; exact ⟨fx.c_Deeds, fx.n_Deeds_table⟩
theorem hok_states (fx : Fx K mg fd) (C : Nat) (h : ok_states C = true) : Cls K ((ct K).ca C) ∧ NoAttr K ((ct K).ca C) "states" := by
  simp only [ok_states, Bool.or_eq_true, beq_iff_eq] at h
  rcases h with rfl | rfl
  · exact ⟨fx.c_Deeds, fx.n_Deeds_states⟩
  · exact ⟨fx.c_Watcher, fx.n_Watcher_states⟩
theorem hok_letters (fx : Fx K mg fd) (C : Nat) (h : ok_letters C = true) : Cls K ((ct K).ca C) ∧ NoAttr K ((ct K).ca C) "letters" := by
  simp only [ok_letters, Bool.or_eq_true, beq_iff_eq] at h
  rcases h with rfl | rfl
  · exact ⟨fx.c_Deeds, fx.n_Deeds_letters⟩
  · exact ⟨fx.c_Watcher, fx.n_Watcher_letters⟩
theorem hok_moves (fx : Fx K mg fd) (C : Nat) (h : ok_moves C = true) : Cls K ((ct K).ca C) ∧ NoAttr K ((ct K).ca C) "moves" := by
  simp only [ok_moves, Bool.or_eq_true, beq_iff_eq] at h
  subst h; exact ⟨fx.c_Watcher, fx.n_Watcher_moves⟩
theorem hok_ends (fx : Fx K mg fd) (C : Nat) (h : ok_ends C = true) : Cls K ((ct K).ca C) ∧ NoAttr K ((ct K).ca C) "ends" := by
  simp only [ok_ends, Bool.or_eq_true, beq_iff_eq] at h
  subst h; exact ⟨fx.c_Watcher, fx.n_Watcher_ends⟩
theorem isiOk (fx : Fx K mg fd) {C : Nat} (h : C ∈ isCs) : IsiOk K (ct K) (.ref ((ct K).ca C)) (isiT isOk isBt C) := by
  refine isiT_ok (cn := cn) (cs := isCs) (fun _ => rfl) (fun E hE => ?_) fx.w_isi fx.w_kit h
  simp only [isOk, List.mem_cons, List.not_mem_nil, or_false] at hE
  rcases hE with rfl | rfl
  · exact fx.c_Deeds
  · exact fx.c_Watcher
end
section
variable {P : Program} {w : World} {K : PySem.W.Frag} {mg : Str → Option Value} {base : Heap} {fd : Nat → FuncData}
theorem eqcs {X : Cx} (fx : Fx X.K mg fd) : EqCs X (ct X.K) (fns X.K fd) eqTab :=
  (.cons (.mk' rfl fx.e_Deeds fx.i_Deeds__eq_) (.cons (.mk' rfl fx.e_Watcher fx.i_Watcher__eq_) .nil))
theorem eqt {X : Cx} (fx : Fx X.K mg fd) : EqT X (ct X.K) (fns X.K fd) eqTab := (eqcs fx).tab (fun _ => rfl) fx.w_nf
abbrev N_alphabet_of : List Str := ["letters"]
theorem sc_alphabet_of : FnScope N_alphabet_of ["letters"] (defScope s_alphabet_of) := ⟨by kernel_rfl, by kernel_rfl, by kernel_rfl, by decide +kernel, rfl, by decide +kernel, by decide +kernel⟩
theorem t_alphabet_of (fx : Fx K mg fd) (call : CallT) (n : Nat) (cdv : Value) (A : Around) (outer : List Env) (s : Shared) (H : Hp) (E : XK) (c : Cq (cxOf (L2.CX P w) P w K mg base N_alphabet_of "alphabet_of" (defScope s_alphabet_of) (He.fAd K d_alphabet_of.at_) cdv A outer s H E) (ct K) (fns K fd) call n) :
    SSs (cxOf (L2.CX P w) P w K mg base N_alphabet_of "alphabet_of" (defScope s_alphabet_of) (He.fAd K d_alphabet_of.at_) cdv A outer s H E) (ct K) (fun c d _ H' => E c d H') (defBody s_alphabet_of) (m_alphabet_of call) := by
  have tk : Takes (cxOf (L2.CX P w) P w K mg base N_alphabet_of "alphabet_of" (defScope s_alphabet_of) (He.fAd K d_alphabet_of.at_) cdv A outer s H E) (fun cls d _ H' => E cls d H') := takes_of rfl rfl rfl rfl
  have nd := sc_alphabet_of.nd
  have po : PassesOwn (model P w) (cxOf (L2.CX P w) P w K mg base N_alphabet_of "alphabet_of" (defScope s_alphabet_of) (He.fAd K d_alphabet_of.at_) cdv A outer s H E).A (cxOf (L2.CX P w) P w K mg base N_alphabet_of "alphabet_of" (defScope s_alphabet_of) (He.fAd K d_alphabet_of.at_) cdv A outer s H E).env (cxOf (L2.CX P w) P w K mg base N_alphabet_of "alphabet_of" (defScope s_alphabet_of) (He.fAd K d_alphabet_of.at_) cdv A outer s H E).xe := passes_of rfl
  exact (sss_cons (ss_if (st_bool (sw_or (st_truth (se_isiB rfl fx.f_bool (by decide +kernel) Mi.isi_bool rfl fx.f_isinstance (se_var 0))) (sw_or (st_not (st_truth (se_isiB rfl fx.f_int (by decide +kernel) Mi.isi_int rfl fx.f_isinstance (se_var 0)))) (sw_or1 (st_not (st_chain le_sound le_sound se_int (se_var 0) se_int))))))
      (sss_one ss_never)
      sss_nil)
      (sss_one (ss_ret' (se_slice se_str so_none (so_some (se_var 0))))))
theorem b_alphabet_of (fx : Fx K mg fd) : BodyOk P w K mg base (ct K) (fns K fd) ⟨He.fAd K d_alphabet_of.at_, fd 0, ["letters"]⟩ ⟨1, 1, false, m_alphabet_of⟩ :=
  ⟨_, "alphabet_of", _, _, _, _, _, N_alphabet_of, fx.D_alphabet_of, sc_alphabet_of, rfl, rfl, by decide, fun call n co cdv A outer s H E hr => t_alphabet_of fx call n cdv A outer s H E ⟨co, hr⟩⟩
abbrev N_Deeds__init_ : List Str := ["self", "watcher", "table"]
theorem sc_Deeds__init_ : FnScope N_Deeds__init_ ["self", "watcher", "table"] (defScope s_Deeds__init_) := ⟨by kernel_rfl, by kernel_rfl, by kernel_rfl, by decide +kernel, rfl, by decide +kernel, by decide +kernel⟩
theorem t_Deeds__init_ (fx : Fx K mg fd) (call : CallT) (n : Nat) (cdv : Value) (A : Around) (outer : List Env) (s : Shared) (H : Hp) (E : XK) (c : Cq (cxOf (L2.CX P w) P w K mg base N_Deeds__init_ "Deeds.__init__" (defScope s_Deeds__init_) (He.fAd K d_Deeds__init_.at_) cdv A outer s H E) (ct K) (fns K fd) call n) :
    SSs (cxOf (L2.CX P w) P w K mg base N_Deeds__init_ "Deeds.__init__" (defScope s_Deeds__init_) (He.fAd K d_Deeds__init_.at_) cdv A outer s H E) (ct K) (fun c d _ H' => E c d H') (defBody s_Deeds__init_) (m_Deeds__init_ call) := by
  have tk : Takes (cxOf (L2.CX P w) P w K mg base N_Deeds__init_ "Deeds.__init__" (defScope s_Deeds__init_) (He.fAd K d_Deeds__init_.at_) cdv A outer s H E) (fun cls d _ H' => E cls d H') := takes_of rfl rfl rfl rfl
  have nd := sc_Deeds__init_.nd
  have po : PassesOwn (model P w) (cxOf (L2.CX P w) P w K mg base N_Deeds__init_ "Deeds.__init__" (defScope s_Deeds__init_) (He.fAd K d_Deeds__init_.at_) cdv A outer s H E).A (cxOf (L2.CX P w) P w K mg base N_Deeds__init_ "Deeds.__init__" (defScope s_Deeds__init_) (He.fAd K d_Deeds__init_.at_) cdv A outer s H E).env (cxOf (L2.CX P w) P w K mg base N_Deeds__init_ "Deeds.__init__" (defScope s_Deeds__init_) (He.fAd K d_Deeds__init_.at_) cdv A outer s H E).xe := passes_of rfl
  exact (sss_cons (ss_fld (ok := ok_watcher) (k := 0) (se_var 0) (se_var 1) rfl (hok_watcher fx))
      (sss_cons (ss_fld (ok := ok_table) (k := 1) (se_var 0) (se_var 2) rfl (hok_table fx))
      (sss_cons (ss_fld (ok := ok_states) (k := 2) (se_var 0) (se_fld (ok := ok_states) (k := 2) (se_var 1) rfl (hok_states fx)) rfl (hok_states fx))
      (sss_one (ss_fld (ok := ok_letters) (k := 3) (se_var 0) (se_callTy (tupS_sound rfl) rfl fx.f_tuple (by decide +kernel) (sa_cons (sc_call ⟨c.co, c.ro⟩ tk fx.i_alphabet_of fx.g_alphabet_of rfl rfl (sa_cons (se_fld (ok := ok_letters) (k := 3) (se_var 1) rfl (hok_letters fx)) sa_nil)) sa_nil)) rfl (hok_letters fx))))))
theorem b_Deeds__init_ (fx : Fx K mg fd) : BodyOk P w K mg base (ct K) (fns K fd) ⟨He.fAd K d_Deeds__init_.at_, fd 1, ["self", "watcher", "table"]⟩ ⟨3, 3, false, m_Deeds__init_⟩ :=
  ⟨_, "Deeds.__init__", _, _, _, _, _, N_Deeds__init_, fx.D_Deeds__init_, sc_Deeds__init_, rfl, rfl, by decide, fun call n co cdv A outer s H E hr => t_Deeds__init_ fx call n cdv A outer s H E ⟨co, hr⟩⟩
abbrev N_Deeds__eq_ : List Str := ["self", "other"]
theorem sc_Deeds__eq_ : FnScope N_Deeds__eq_ ["self", "other"] (defScope s_Deeds__eq_) := ⟨by kernel_rfl, by kernel_rfl, by kernel_rfl, by decide +kernel, rfl, by decide +kernel, by decide +kernel⟩
theorem t_Deeds__eq_ (fx : Fx K mg fd) (call : CallT) (n : Nat) (cdv : Value) (A : Around) (outer : List Env) (s : Shared) (H : Hp) (E : XK) (c : Cq (cxOf (L2.CX P w) P w K mg base N_Deeds__eq_ "Deeds.__eq__" (defScope s_Deeds__eq_) (He.fAd K d_Deeds__eq_.at_) cdv A outer s H E) (ct K) (fns K fd) call n) :
    SSs (cxOf (L2.CX P w) P w K mg base N_Deeds__eq_ "Deeds.__eq__" (defScope s_Deeds__eq_) (He.fAd K d_Deeds__eq_.at_) cdv A outer s H E) (ct K) (fun c d _ H' => E c d H') (defBody s_Deeds__eq_) (m_Deeds__eq_ call) := by
  have tk : Takes (cxOf (L2.CX P w) P w K mg base N_Deeds__eq_ "Deeds.__eq__" (defScope s_Deeds__eq_) (He.fAd K d_Deeds__eq_.at_) cdv A outer s H E) (fun cls d _ H' => E cls d H') := takes_of rfl rfl rfl rfl
  have nd := sc_Deeds__eq_.nd
  have po : PassesOwn (model P w) (cxOf (L2.CX P w) P w K mg base N_Deeds__eq_ "Deeds.__eq__" (defScope s_Deeds__eq_) (He.fAd K d_Deeds__eq_.at_) cdv A outer s H E).A (cxOf (L2.CX P w) P w K mg base N_Deeds__eq_ "Deeds.__eq__" (defScope s_Deeds__eq_) (He.fAd K d_Deeds__eq_.at_) cdv A outer s H E).env (cxOf (L2.CX P w) P w K mg base N_Deeds__eq_ "Deeds.__eq__" (defScope s_Deeds__eq_) (He.fAd K d_Deeds__eq_.at_) cdv A outer s H E).xe := passes_of rfl
  exact (sss_one (ss_ret' (se_and (se_isiC rfl fx.g_Deeds (isiOk fx (C := 3) (by decide)) rfl fx.f_isinstance (se_var 1)) (se_and (se_cmp (eqoE_sound c.co (eqt fx) c.ro) (se_fld (ok := ok_watcher) (k := 0) (se_var 0) rfl (hok_watcher fx)) (se_fld (ok := ok_watcher) (k := 0) (se_var 1) rfl (hok_watcher fx))) (se_one (se_cmp (eq_sound (unR c.ro)) (se_fld (ok := ok_table) (k := 1) (se_var 0) rfl (hok_table fx)) (se_fld (ok := ok_table) (k := 1) (se_var 1) rfl (hok_table fx))))))))
theorem b_Deeds__eq_ (fx : Fx K mg fd) : BodyOk P w K mg base (ct K) (fns K fd) ⟨He.fAd K d_Deeds__eq_.at_, fd 2, ["self", "other"]⟩ ⟨2, 2, false, m_Deeds__eq_⟩ :=
  ⟨_, "Deeds.__eq__", _, _, _, _, _, N_Deeds__eq_, fx.D_Deeds__eq_, sc_Deeds__eq_, rfl, rfl, by decide, fun call n co cdv A outer s H E hr => t_Deeds__eq_ fx call n cdv A outer s H E ⟨co, hr⟩⟩
abbrev N_Deeds_letter_deed : List Str := ["self", "letter"]
theorem sc_Deeds_letter_deed : FnScope N_Deeds_letter_deed ["self", "letter"] (defScope s_Deeds_letter_deed) := ⟨by kernel_rfl, by kernel_rfl, by kernel_rfl, by decide +kernel, rfl, by decide +kernel, by decide +kernel⟩
theorem t_Deeds_letter_deed (fx : Fx K mg fd) (call : CallT) (n : Nat) (cdv : Value) (A : Around) (outer : List Env) (s : Shared) (H : Hp) (E : XK) (c : Cq (cxOf (L2.CX P w) P w K mg base N_Deeds_letter_deed "Deeds.letter_deed" (defScope s_Deeds_letter_deed) (He.fAd K d_Deeds_letter_deed.at_) cdv A outer s H E) (ct K) (fns K fd) call n) :
    SSs (cxOf (L2.CX P w) P w K mg base N_Deeds_letter_deed "Deeds.letter_deed" (defScope s_Deeds_letter_deed) (He.fAd K d_Deeds_letter_deed.at_) cdv A outer s H E) (ct K) (fun c d _ H' => E c d H') (defBody s_Deeds_letter_deed) (m_Deeds_letter_deed call) := by
  have tk : Takes (cxOf (L2.CX P w) P w K mg base N_Deeds_letter_deed "Deeds.letter_deed" (defScope s_Deeds_letter_deed) (He.fAd K d_Deeds_letter_deed.at_) cdv A outer s H E) (fun cls d _ H' => E cls d H') := takes_of rfl rfl rfl rfl
  have nd := sc_Deeds_letter_deed.nd
  have po : PassesOwn (model P w) (cxOf (L2.CX P w) P w K mg base N_Deeds_letter_deed "Deeds.letter_deed" (defScope s_Deeds_letter_deed) (He.fAd K d_Deeds_letter_deed.at_) cdv A outer s H E).A (cxOf (L2.CX P w) P w K mg base N_Deeds_letter_deed "Deeds.letter_deed" (defScope s_Deeds_letter_deed) (He.fAd K d_Deeds_letter_deed.at_) cdv A outer s H E).env (cxOf (L2.CX P w) P w K mg base N_Deeds_letter_deed "Deeds.letter_deed" (defScope s_Deeds_letter_deed) (He.fAd K d_Deeds_letter_deed.at_) cdv A outer s H E).xe := passes_of rfl
  exact (sss_one (ss_ret' (sc_meth (C := 3) ⟨c.co, c.ro⟩ tk fx.i_Deeds_text_deed fx.me_Deeds_text_deed fx.c_Deeds rfl (nmL_new (by decide +kernel) (by decide +kernel)) (se_var 0) (sa_cons (se_var 1) sa_nil))))
theorem b_Deeds_letter_deed (fx : Fx K mg fd) : BodyOk P w K mg base (ct K) (fns K fd) ⟨He.fAd K d_Deeds_letter_deed.at_, fd 3, ["self", "letter"]⟩ ⟨2, 2, false, m_Deeds_letter_deed⟩ :=
  ⟨_, "Deeds.letter_deed", _, _, _, _, _, N_Deeds_letter_deed, fx.D_Deeds_letter_deed, sc_Deeds_letter_deed, rfl, rfl, by decide, fun call n co cdv A outer s H E hr => t_Deeds_letter_deed fx call n cdv A outer s H E ⟨co, hr⟩⟩
abbrev N_Deeds_text_deed : List Str := ["self", "text", "state"]
theorem sc_Deeds_text_deed : FnScope N_Deeds_text_deed ["self", "text"] (defScope s_Deeds_text_deed) := ⟨by kernel_rfl, by kernel_rfl, by kernel_rfl, by decide +kernel, rfl, by decide +kernel, by decide +kernel⟩
theorem t_Deeds_text_deed (fx : Fx K mg fd) (call : CallT) (n : Nat) (cdv : Value) (A : Around) (outer : List Env) (s : Shared) (H : Hp) (E : XK) (c : Cq (cxOf (L2.CX P w) P w K mg base N_Deeds_text_deed "Deeds.text_deed" (defScope s_Deeds_text_deed) (He.fAd K d_Deeds_text_deed.at_) cdv A outer s H E) (ct K) (fns K fd) call n) :
    SSs (cxOf (L2.CX P w) P w K mg base N_Deeds_text_deed "Deeds.text_deed" (defScope s_Deeds_text_deed) (He.fAd K d_Deeds_text_deed.at_) cdv A outer s H E) (ct K) (fun c d _ H' => E c d H') (defBody s_Deeds_text_deed) (m_Deeds_text_deed call) := by
  have tk : Takes (cxOf (L2.CX P w) P w K mg base N_Deeds_text_deed "Deeds.text_deed" (defScope s_Deeds_text_deed) (He.fAd K d_Deeds_text_deed.at_) cdv A outer s H E) (fun cls d _ H' => E cls d H') := takes_of rfl rfl rfl rfl
  have nd := sc_Deeds_text_deed.nd
  have po : PassesOwn (model P w) (cxOf (L2.CX P w) P w K mg base N_Deeds_text_deed "Deeds.text_deed" (defScope s_Deeds_text_deed) (He.fAd K d_Deeds_text_deed.at_) cdv A outer s H E).A (cxOf (L2.CX P w) P w K mg base N_Deeds_text_deed "Deeds.text_deed" (defScope s_Deeds_text_deed) (He.fAd K d_Deeds_text_deed.at_) cdv A outer s H E).env (cxOf (L2.CX P w) P w K mg base N_Deeds_text_deed "Deeds.text_deed" (defScope s_Deeds_text_deed) (He.fAd K d_Deeds_text_deed.at_) cdv A outer s H E).xe := passes_of rfl
  exact (sss_one (ss_ret' (se_callTy tuple_sound rfl fx.f_tuple (by decide +kernel) (sa_cons (se_lc false rfl nd (si_rng1 rfl fx.f_range (sa_cons (se_fld (ok := ok_states) (k := 2) (se_var 0) rfl (hok_states fx)) sa_nil)) (own := [("state", 2)]) (blkOk_by (by first | decide +kernel | kernel_rfl)) rfl (fun _ _ _ _ _ => (sgc_name nd (i := 2) rfl (by first | exact .inl rfl | exact .inr rfl) (by decide))) (fun _ _ _ _ _ => spt_nil) (fun _ _ _ _ _ => (sc_meth (C := 4) ⟨c.co, c.ro⟩ takesW fx.i_Watcher_state_after fx.me_Watcher_state_after fx.c_Watcher rfl (nmL_new (by decide +kernel) (by decide +kernel)) (se_fld (ok := ok_watcher) (k := 0) (se_var 0) rfl (hok_watcher fx)) (sa_cons (se_var 1) (sa_cons (se_var 2) sa_nil))))) sa_nil))))
theorem b_Deeds_text_deed (fx : Fx K mg fd) : BodyOk P w K mg base (ct K) (fns K fd) ⟨He.fAd K d_Deeds_text_deed.at_, fd 4, ["self", "text"]⟩ ⟨2, 3, false, m_Deeds_text_deed⟩ :=
  ⟨_, "Deeds.text_deed", _, _, _, _, _, N_Deeds_text_deed, fx.D_Deeds_text_deed, sc_Deeds_text_deed, rfl, rfl, by decide, fun call n co cdv A outer s H E hr => t_Deeds_text_deed fx call n cdv A outer s H E ⟨co, hr⟩⟩
abbrev N_Deeds_text_of : List Str := ["self", "deed", "told", "text"]
theorem sc_Deeds_text_of : FnScope N_Deeds_text_of ["self", "deed"] (defScope s_Deeds_text_of) := ⟨by kernel_rfl, by kernel_rfl, by kernel_rfl, by decide +kernel, rfl, by decide +kernel, by decide +kernel⟩
theorem t_Deeds_text_of (fx : Fx K mg fd) (call : CallT) (n : Nat) (cdv : Value) (A : Around) (outer : List Env) (s : Shared) (H : Hp) (E : XK) (c : Cq (cxOf (L2.CX P w) P w K mg base N_Deeds_text_of "Deeds.text_of" (defScope s_Deeds_text_of) (He.fAd K d_Deeds_text_of.at_) cdv A outer s H E) (ct K) (fns K fd) call n) :
    SSs (cxOf (L2.CX P w) P w K mg base N_Deeds_text_of "Deeds.text_of" (defScope s_Deeds_text_of) (He.fAd K d_Deeds_text_of.at_) cdv A outer s H E) (ct K) (fun c d _ H' => E c d H') (defBody s_Deeds_text_of) (m_Deeds_text_of call) := by
  have tk : Takes (cxOf (L2.CX P w) P w K mg base N_Deeds_text_of "Deeds.text_of" (defScope s_Deeds_text_of) (He.fAd K d_Deeds_text_of.at_) cdv A outer s H E) (fun cls d _ H' => E cls d H') := takes_of rfl rfl rfl rfl
  have nd := sc_Deeds_text_of.nd
  have po : PassesOwn (model P w) (cxOf (L2.CX P w) P w K mg base N_Deeds_text_of "Deeds.text_of" (defScope s_Deeds_text_of) (He.fAd K d_Deeds_text_of.at_) cdv A outer s H E).A (cxOf (L2.CX P w) P w K mg base N_Deeds_text_of "Deeds.text_of" (defScope s_Deeds_text_of) (He.fAd K d_Deeds_text_of.at_) cdv A outer s H E).env (cxOf (L2.CX P w) P w K mg base N_Deeds_text_of "Deeds.text_of" (defScope s_Deeds_text_of) (He.fAd K d_Deeds_text_of.at_) cdv A outer s H E).xe := passes_of rfl
  exact (sss_cons (ss_for po rfl (si_seq (se_fld (ok := ok_table) (k := 1) (se_var 0) rfl (hok_table fx))) (sg_tup rfl (sgs_cons (sg_name nd (i := 2) rfl (by first | exact .inl rfl | exact .inr rfl)) (sgs_cons (sg_name nd (i := 3) rfl (by first | exact .inl rfl | exact .inr rfl)) sgs_nil)))
      (sss_one (ss_if (st_cmp (eq_sound (unR c.ro)) (se_var 2) (se_var 1))
      (sss_one (ss_ret' (se_var 3)))
      sss_nil)))
      (sss_one (ss_ret' se_non)))
theorem b_Deeds_text_of (fx : Fx K mg fd) : BodyOk P w K mg base (ct K) (fns K fd) ⟨He.fAd K d_Deeds_text_of.at_, fd 5, ["self", "deed"]⟩ ⟨2, 4, false, m_Deeds_text_of⟩ :=
  ⟨_, "Deeds.text_of", _, _, _, _, _, N_Deeds_text_of, fx.D_Deeds_text_of, sc_Deeds_text_of, rfl, rfl, by decide, fun call n co cdv A outer s H E hr => t_Deeds_text_of fx call n cdv A outer s H E ⟨co, hr⟩⟩
abbrev N_Deeds_reached_from : List Str := ["self", "start", "deed", "text"]
theorem sc_Deeds_reached_from : FnScope N_Deeds_reached_from ["self", "start"] (defScope s_Deeds_reached_from) := ⟨by kernel_rfl, by kernel_rfl, by kernel_rfl, by decide +kernel, rfl, by decide +kernel, by decide +kernel⟩
theorem t_Deeds_reached_from (fx : Fx K mg fd) (call : CallT) (n : Nat) (cdv : Value) (A : Around) (outer : List Env) (s : Shared) (H : Hp) (E : XK) (c : Cq (cxOf (L2.CX P w) P w K mg base N_Deeds_reached_from "Deeds.reached_from" (defScope s_Deeds_reached_from) (He.fAd K d_Deeds_reached_from.at_) cdv A outer s H E) (ct K) (fns K fd) call n) :
    SSs (cxOf (L2.CX P w) P w K mg base N_Deeds_reached_from "Deeds.reached_from" (defScope s_Deeds_reached_from) (He.fAd K d_Deeds_reached_from.at_) cdv A outer s H E) (ct K) (fun c d _ H' => E c d H') (defBody s_Deeds_reached_from) (m_Deeds_reached_from call) := by
  have tk : Takes (cxOf (L2.CX P w) P w K mg base N_Deeds_reached_from "Deeds.reached_from" (defScope s_Deeds_reached_from) (He.fAd K d_Deeds_reached_from.at_) cdv A outer s H E) (fun cls d _ H' => E cls d H') := takes_of rfl rfl rfl rfl
  have nd := sc_Deeds_reached_from.nd
  have po : PassesOwn (model P w) (cxOf (L2.CX P w) P w K mg base N_Deeds_reached_from "Deeds.reached_from" (defScope s_Deeds_reached_from) (He.fAd K d_Deeds_reached_from.at_) cdv A outer s H E).A (cxOf (L2.CX P w) P w K mg base N_Deeds_reached_from "Deeds.reached_from" (defScope s_Deeds_reached_from) (He.fAd K d_Deeds_reached_from.at_) cdv A outer s H E).env (cxOf (L2.CX P w) P w K mg base N_Deeds_reached_from "Deeds.reached_from" (defScope s_Deeds_reached_from) (He.fAd K d_Deeds_reached_from.at_) cdv A outer s H E).xe := passes_of rfl
  exact (sss_one (ss_ret' (se_callTy tuple_sound rfl fx.f_tuple (by decide +kernel) (sa_cons (se_sortSet rfl rfl fx.f_sorted rfl fx.f_set (se_lc false rfl nd (si_seq (se_fld (ok := ok_table) (k := 1) (se_var 0) rfl (hok_table fx))) (own := [("deed", 2), ("text", 3)]) (blkOk_by (by first | decide +kernel | kernel_rfl)) rfl (fun _ _ _ _ _ => (sgc_tup rfl (sgsc_cons (sgc_name nd (i := 2) rfl (by first | exact .inl rfl | exact .inr rfl) (by decide)) (sgsc_cons (sgc_name nd (i := 3) rfl (by first | exact .inl rfl | exact .inr rfl) (by decide)) sgsc_nil)))) (fun _ _ _ _ _ => spt_nil) (fun _ _ _ _ _ => (se_ix ix_sound (se_var 2) (se_var 1))))) sa_nil))))
theorem b_Deeds_reached_from (fx : Fx K mg fd) : BodyOk P w K mg base (ct K) (fns K fd) ⟨He.fAd K d_Deeds_reached_from.at_, fd 6, ["self", "start"]⟩ ⟨2, 4, false, m_Deeds_reached_from⟩ :=
  ⟨_, "Deeds.reached_from", _, _, _, _, _, N_Deeds_reached_from, fx.D_Deeds_reached_from, sc_Deeds_reached_from, rfl, rfl, by decide, fun call n co cdv A outer s H E hr => t_Deeds_reached_from fx call n cdv A outer s H E ⟨co, hr⟩⟩
abbrev N_Deeds_path_text : List Str := ["self", "start", "goals", "best", "deed", "text"]
theorem sc_Deeds_path_text : FnScope N_Deeds_path_text ["self", "start", "goals"] (defScope s_Deeds_path_text) := ⟨by kernel_rfl, by kernel_rfl, by kernel_rfl, by decide +kernel, rfl, by decide +kernel, by decide +kernel⟩
theorem t_Deeds_path_text (fx : Fx K mg fd) (call : CallT) (n : Nat) (cdv : Value) (A : Around) (outer : List Env) (s : Shared) (H : Hp) (E : XK) (c : Cq (cxOf (L2.CX P w) P w K mg base N_Deeds_path_text "Deeds.path_text" (defScope s_Deeds_path_text) (He.fAd K d_Deeds_path_text.at_) cdv A outer s H E) (ct K) (fns K fd) call n) :
    SSs (cxOf (L2.CX P w) P w K mg base N_Deeds_path_text "Deeds.path_text" (defScope s_Deeds_path_text) (He.fAd K d_Deeds_path_text.at_) cdv A outer s H E) (ct K) (fun c d _ H' => E c d H') (defBody s_Deeds_path_text) (m_Deeds_path_text call) := by
  have tk : Takes (cxOf (L2.CX P w) P w K mg base N_Deeds_path_text "Deeds.path_text" (defScope s_Deeds_path_text) (He.fAd K d_Deeds_path_text.at_) cdv A outer s H E) (fun cls d _ H' => E cls d H') := takes_of rfl rfl rfl rfl
  have nd := sc_Deeds_path_text.nd
  have po : PassesOwn (model P w) (cxOf (L2.CX P w) P w K mg base N_Deeds_path_text "Deeds.path_text" (defScope s_Deeds_path_text) (He.fAd K d_Deeds_path_text.at_) cdv A outer s H E).A (cxOf (L2.CX P w) P w K mg base N_Deeds_path_text "Deeds.path_text" (defScope s_Deeds_path_text) (He.fAd K d_Deeds_path_text.at_) cdv A outer s H E).env (cxOf (L2.CX P w) P w K mg base N_Deeds_path_text "Deeds.path_text" (defScope s_Deeds_path_text) (He.fAd K d_Deeds_path_text.at_) cdv A outer s H E).xe := passes_of rfl
  exact (sss_cons (ss_set nd (i := 3) rfl (by first | exact .inl rfl | exact .inr rfl) se_non)
      (sss_cons (ss_for po rfl (si_seq (se_fld (ok := ok_table) (k := 1) (se_var 0) rfl (hok_table fx))) (sg_tup rfl (sgs_cons (sg_name nd (i := 4) rfl (by first | exact .inl rfl | exact .inr rfl)) (sgs_cons (sg_name nd (i := 5) rfl (by first | exact .inl rfl | exact .inr rfl)) sgs_nil)))
      (sss_one (ss_if (st_bool (sw_and (st_cmp inT_sound (se_ix ix_sound (se_var 4) (se_var 1)) (se_var 2)) (sw_and1 (st_bool (sw_or (st_cmp isN_sound (se_var 3) se_non) (sw_or1 (st_cmp (ltD_sound c.ro) (se_tup (sa_cons (se_callB len_sound rfl fx.f_len (by decide +kernel) (sa_cons (se_var 5) sa_nil)) (sa_cons (se_var 5) sa_nil))) (se_tup (sa_cons (se_callB len_sound rfl fx.f_len (by decide +kernel) (sa_cons (se_var 3) sa_nil)) (sa_cons (se_var 3) sa_nil))))))))))
      (sss_one (ss_set nd (i := 3) rfl (by first | exact .inl rfl | exact .inr rfl) (se_var 5)))
      sss_nil)))
      (sss_one (ss_ret' (se_var 3)))))
theorem b_Deeds_path_text (fx : Fx K mg fd) : BodyOk P w K mg base (ct K) (fns K fd) ⟨He.fAd K d_Deeds_path_text.at_, fd 7, ["self", "start", "goals"]⟩ ⟨3, 6, false, m_Deeds_path_text⟩ :=
  ⟨_, "Deeds.path_text", _, _, _, _, _, N_Deeds_path_text, fx.D_Deeds_path_text, sc_Deeds_path_text, rfl, rfl, by decide, fun call n co cdv A outer s H E hr => t_Deeds_path_text fx call n cdv A outer s H E ⟨co, hr⟩⟩
abbrev N_deed_after : List Str := ["first", "then", "state"]
theorem sc_deed_after : FnScope N_deed_after ["first", "then"] (defScope s_deed_after) := ⟨by kernel_rfl, by kernel_rfl, by kernel_rfl, by decide +kernel, rfl, by decide +kernel, by decide +kernel⟩
theorem t_deed_after (fx : Fx K mg fd) (call : CallT) (n : Nat) (cdv : Value) (A : Around) (outer : List Env) (s : Shared) (H : Hp) (E : XK) (c : Cq (cxOf (L2.CX P w) P w K mg base N_deed_after "deed_after" (defScope s_deed_after) (He.fAd K d_deed_after.at_) cdv A outer s H E) (ct K) (fns K fd) call n) :
    SSs (cxOf (L2.CX P w) P w K mg base N_deed_after "deed_after" (defScope s_deed_after) (He.fAd K d_deed_after.at_) cdv A outer s H E) (ct K) (fun c d _ H' => E c d H') (defBody s_deed_after) (m_deed_after call) := by
  have tk : Takes (cxOf (L2.CX P w) P w K mg base N_deed_after "deed_after" (defScope s_deed_after) (He.fAd K d_deed_after.at_) cdv A outer s H E) (fun cls d _ H' => E cls d H') := takes_of rfl rfl rfl rfl
  have nd := sc_deed_after.nd
  have po : PassesOwn (model P w) (cxOf (L2.CX P w) P w K mg base N_deed_after "deed_after" (defScope s_deed_after) (He.fAd K d_deed_after.at_) cdv A outer s H E).A (cxOf (L2.CX P w) P w K mg base N_deed_after "deed_after" (defScope s_deed_after) (He.fAd K d_deed_after.at_) cdv A outer s H E).env (cxOf (L2.CX P w) P w K mg base N_deed_after "deed_after" (defScope s_deed_after) (He.fAd K d_deed_after.at_) cdv A outer s H E).xe := passes_of rfl
  exact (sss_one (ss_ret' (se_callTy tuple_sound rfl fx.f_tuple (by decide +kernel) (sa_cons (se_lc false rfl nd (si_seq (se_var 0)) (own := [("state", 2)]) (blkOk_by (by first | decide +kernel | kernel_rfl)) rfl (fun _ _ _ _ _ => (sgc_name nd (i := 2) rfl (by first | exact .inl rfl | exact .inr rfl) (by decide))) (fun _ _ _ _ _ => spt_nil) (fun _ _ _ _ _ => (se_ix ix_sound (se_var 1) (se_var 2)))) sa_nil))))
theorem b_deed_after (fx : Fx K mg fd) : BodyOk P w K mg base (ct K) (fns K fd) ⟨He.fAd K d_deed_after.at_, fd 8, ["first", "then"]⟩ ⟨2, 3, false, m_deed_after⟩ :=
  ⟨_, "deed_after", _, _, _, _, _, N_deed_after, fx.D_deed_after, sc_deed_after, rfl, rfl, by decide, fun call n co cdv A outer s H E hr => t_deed_after fx call n cdv A outer s H E ⟨co, hr⟩⟩
abbrev N_deeds_of : List Str := ["watcher", "alphabet", "same", "steps", "found", "seen", "at", "deed", "text", "sign", "then", "following", "place", "move"]
theorem sc_deeds_of : FnScope N_deeds_of ["watcher"] (defScope s_deeds_of) := ⟨by kernel_rfl, by kernel_rfl, by kernel_rfl, by decide +kernel, rfl, by decide +kernel, by decide +kernel⟩
theorem t_deeds_of (fx : Fx K mg fd) (call : CallT) (n : Nat) (cdv : Value) (A : Around) (outer : List Env) (s : Shared) (H : Hp) (E : XK) (c : Cq (cxOf (L2.CX P w) P w K mg base N_deeds_of "deeds_of" (defScope s_deeds_of) (He.fAd K d_deeds_of.at_) cdv A outer s H E) (ct K) (fns K fd) call n) :
    SSs (cxOf (L2.CX P w) P w K mg base N_deeds_of "deeds_of" (defScope s_deeds_of) (He.fAd K d_deeds_of.at_) cdv A outer s H E) (ct K) (fun c d _ H' => E c d H') (defBody s_deeds_of) (m_deeds_of call) := by
  have tk : Takes (cxOf (L2.CX P w) P w K mg base N_deeds_of "deeds_of" (defScope s_deeds_of) (He.fAd K d_deeds_of.at_) cdv A outer s H E) (fun cls d _ H' => E cls d H') := takes_of rfl rfl rfl rfl
  have nd := sc_deeds_of.nd
  have po : PassesOwn (model P w) (cxOf (L2.CX P w) P w K mg base N_deeds_of "deeds_of" (defScope s_deeds_of) (He.fAd K d_deeds_of.at_) cdv A outer s H E).A (cxOf (L2.CX P w) P w K mg base N_deeds_of "deeds_of" (defScope s_deeds_of) (He.fAd K d_deeds_of.at_) cdv A outer s H E).env (cxOf (L2.CX P w) P w K mg base N_deeds_of "deeds_of" (defScope s_deeds_of) (He.fAd K d_deeds_of.at_) cdv A outer s H E).xe := passes_of rfl
  exact (sss_cons (ss_set nd (i := 1) rfl (by first | exact .inl rfl | exact .inr rfl) (sc_call ⟨c.co, c.ro⟩ tk fx.i_alphabet_of fx.g_alphabet_of rfl rfl (sa_cons (se_fld (ok := ok_letters) (k := 3) (se_var 0) rfl (hok_letters fx)) sa_nil)))
      (sss_cons (ss_set nd (i := 2) rfl (by first | exact .inl rfl | exact .inr rfl) (se_tupR rfl rfl fx.f_tuple rfl fx.f_range (se_fld (ok := ok_states) (k := 2) (se_var 0) rfl (hok_states fx))))
      (sss_cons (ss_setLc false rfl nd (i := 3) rfl rfl (sw_true rfl rfl rfl (by decide +kernel)) (si_enumS rfl fx.f_enumerate (sa_cons (se_var 1) sa_nil)) (own := [("place", 12), ("sign", 9)]) (blkOk_by (by first | decide +kernel | kernel_rfl)) rfl (fun _ _ _ _ _ => (sgc_tup rfl (sgsc_cons (sgc_name nd (i := 12) rfl (by first | exact .inl rfl | exact .inr rfl) (by decide)) (sgsc_cons (sgc_name nd (i := 9) rfl (by first | exact .inl rfl | exact .inr rfl) (by decide)) sgsc_nil)))) (fun _ _ _ _ _ => spt_nil) (fun _ _ _ _ _ => (se_tup (sa_cons (se_var 9) (sa_cons (se_callTy tuple_sound rfl fx.f_tuple (by decide +kernel) (sa_cons (se_lc false rfl nd (si_seq (se_fld (ok := ok_moves) (k := 4) (se_var 0) rfl (hok_moves fx))) (own := [("move", 13)]) (blkOk_by (by first | decide +kernel | kernel_rfl)) rfl (fun _ _ _ _ _ => (sgc_name nd (i := 13) rfl (by first | exact .inl rfl | exact .inr rfl) (by decide))) (fun _ _ _ _ _ => spt_nil) (fun _ _ _ _ _ => (se_ix ix_sound (se_var 13) (se_var 12)))) sa_nil)) sa_nil)))))
      (sss_cons (ss_par3 (i := 4) (j := 5) (l := 6) rfl nd (sa_cons (se_lst (sa_cons (se_tup (sa_cons (se_var 2) (sa_cons se_str sa_nil))) sa_nil)) (sa_cons se_dt0 (sa_cons se_int sa_nil))))
      (sss_cons (ss_while po (st_cmp lt_sound (se_var 6) (se_callB len_sound rfl fx.f_len (by decide +kernel) (sa_cons (se_var 4) sa_nil)))
      (sss_cons (ss_asg (se_ix ix_sound (se_var 4) (se_var 6)) (sg_tup rfl (sgs_cons (sg_name nd (i := 7) rfl (by first | exact .inl rfl | exact .inr rfl)) (sgs_cons (sg_name nd (i := 8) rfl (by first | exact .inl rfl | exact .inr rfl)) sgs_nil))))
      (sss_cons (ss_set nd (i := 6) rfl (by first | exact .inl rfl | exact .inr rfl) (se_bin add_sound (se_var 6) se_int))
      (sss_one (ss_for po rfl (si_seq (se_var 3)) (sg_tup rfl (sgs_cons (sg_name nd (i := 9) rfl (by first | exact .inl rfl | exact .inr rfl)) (sgs_cons (sg_name nd (i := 10) rfl (by first | exact .inl rfl | exact .inr rfl)) sgs_nil)))
      (sss_cons (ss_set nd (i := 11) rfl (by first | exact .inl rfl | exact .inr rfl) (sc_call ⟨c.co, c.ro⟩ tk fx.i_deed_after fx.g_deed_after rfl rfl (sa_cons (se_var 7) (sa_cons (se_var 10) sa_nil))))
      (sss_one (ss_if (st_cmp (dnotin_sound (unR5 c.ro)) (se_var 11) (se_var 5))
      (sss_cons (ss_dput (unR5 c.ro) (se_var 5) (se_var 11) se_bl)
      (sss_cons (ss_expr (se_append (se_var 4) (sa_cons (se_tup (sa_cons (se_var 11) (sa_cons (se_bin add_sound (se_var 8) (se_var 9)) sa_nil))) sa_nil)))
      (sss_one (ss_if (st_cmp gt_sound (se_callB len_sound rfl fx.f_len (by decide +kernel) (sa_cons (se_var 4) sa_nil)) (se_bin add_sound (se_gI rfl fx.k_MOST_DEEDS) se_int))
      (sss_one (ss_rzB (C := 2) rfl tk (bare_ok (fun _ => rfl) fx.w_b (C := 2) (by decide)).1 (bare_ok (fun _ => rfl) fx.w_b (C := 2) (by decide)).2 (xAll_ok (cn := cn) (C := 2) (fun _ => rfl) fx.w_x (by decide)) fx.g_TooMany rfl))
      sss_nil))))
      sss_nil))))))))
      (sss_one (ss_ret' (sc_make ⟨c.co, c.ro⟩ tk fx.i_Deeds__init_ fx.m_Deeds fx.g_Deeds rfl rfl (sa_cons (se_var 0) (sa_cons (se_callTy tuple_sound rfl fx.f_tuple (by decide +kernel) (sa_cons (se_callB (sorted_sound c.ro) rfl fx.f_sorted (by decide +kernel) (sa_cons (se_slice (se_var 4) (so_some se_int) so_none) sa_nil)) sa_nil)) sa_nil))))))))))
theorem b_deeds_of (fx : Fx K mg fd) : BodyOk P w K mg base (ct K) (fns K fd) ⟨He.fAd K d_deeds_of.at_, fd 9, ["watcher"]⟩ ⟨1, 14, false, m_deeds_of⟩ :=
  ⟨_, "deeds_of", _, _, _, _, _, N_deeds_of, fx.D_deeds_of, sc_deeds_of, rfl, rfl, by decide, fun call n co cdv A outer s H E hr => t_deeds_of fx call n cdv A outer s H E ⟨co, hr⟩⟩
abbrev N_Watcher__init_ : List Str := ["self", "letters", "moves", "ends"]
theorem sc_Watcher__init_ : FnScope N_Watcher__init_ ["self", "letters", "moves", "ends"] (defScope s_Watcher__init_) := ⟨by kernel_rfl, by kernel_rfl, by kernel_rfl, by decide +kernel, rfl, by decide +kernel, by decide +kernel⟩
theorem t_Watcher__init_ (fx : Fx K mg fd) (call : CallT) (n : Nat) (cdv : Value) (A : Around) (outer : List Env) (s : Shared) (H : Hp) (E : XK) (c : Cq (cxOf (L2.CX P w) P w K mg base N_Watcher__init_ "Watcher.__init__" (defScope s_Watcher__init_) (He.fAd K d_Watcher__init_.at_) cdv A outer s H E) (ct K) (fns K fd) call n) :
    SSs (cxOf (L2.CX P w) P w K mg base N_Watcher__init_ "Watcher.__init__" (defScope s_Watcher__init_) (He.fAd K d_Watcher__init_.at_) cdv A outer s H E) (ct K) (fun c d _ H' => E c d H') (defBody s_Watcher__init_) (m_Watcher__init_ call) := by
  have tk : Takes (cxOf (L2.CX P w) P w K mg base N_Watcher__init_ "Watcher.__init__" (defScope s_Watcher__init_) (He.fAd K d_Watcher__init_.at_) cdv A outer s H E) (fun cls d _ H' => E cls d H') := takes_of rfl rfl rfl rfl
  have nd := sc_Watcher__init_.nd
  have po : PassesOwn (model P w) (cxOf (L2.CX P w) P w K mg base N_Watcher__init_ "Watcher.__init__" (defScope s_Watcher__init_) (He.fAd K d_Watcher__init_.at_) cdv A outer s H E).A (cxOf (L2.CX P w) P w K mg base N_Watcher__init_ "Watcher.__init__" (defScope s_Watcher__init_) (He.fAd K d_Watcher__init_.at_) cdv A outer s H E).env (cxOf (L2.CX P w) P w K mg base N_Watcher__init_ "Watcher.__init__" (defScope s_Watcher__init_) (He.fAd K d_Watcher__init_.at_) cdv A outer s H E).xe := passes_of rfl
  exact (sss_cons (ss_fld (ok := ok_letters) (k := 3) (se_var 0) (se_var 1) rfl (hok_letters fx))
      (sss_cons (ss_fld (ok := ok_moves) (k := 4) (se_var 0) (se_var 2) rfl (hok_moves fx))
      (sss_cons (ss_fld (ok := ok_ends) (k := 5) (se_var 0) (se_var 3) rfl (hok_ends fx))
      (sss_one (ss_fld (ok := ok_states) (k := 2) (se_var 0) (se_callB len_sound rfl fx.f_len (by decide +kernel) (sa_cons (se_var 2) sa_nil)) rfl (hok_states fx))))))
theorem b_Watcher__init_ (fx : Fx K mg fd) : BodyOk P w K mg base (ct K) (fns K fd) ⟨He.fAd K d_Watcher__init_.at_, fd 10, ["self", "letters", "moves", "ends"]⟩ ⟨4, 4, false, m_Watcher__init_⟩ :=
  ⟨_, "Watcher.__init__", _, _, _, _, _, N_Watcher__init_, fx.D_Watcher__init_, sc_Watcher__init_, rfl, rfl, by decide, fun call n co cdv A outer s H E hr => t_Watcher__init_ fx call n cdv A outer s H E ⟨co, hr⟩⟩
abbrev N_Watcher__eq_ : List Str := ["self", "other"]
theorem sc_Watcher__eq_ : FnScope N_Watcher__eq_ ["self", "other"] (defScope s_Watcher__eq_) := ⟨by kernel_rfl, by kernel_rfl, by kernel_rfl, by decide +kernel, rfl, by decide +kernel, by decide +kernel⟩
theorem t_Watcher__eq_ (fx : Fx K mg fd) (call : CallT) (n : Nat) (cdv : Value) (A : Around) (outer : List Env) (s : Shared) (H : Hp) (E : XK) (c : Cq (cxOf (L2.CX P w) P w K mg base N_Watcher__eq_ "Watcher.__eq__" (defScope s_Watcher__eq_) (He.fAd K d_Watcher__eq_.at_) cdv A outer s H E) (ct K) (fns K fd) call n) :
    SSs (cxOf (L2.CX P w) P w K mg base N_Watcher__eq_ "Watcher.__eq__" (defScope s_Watcher__eq_) (He.fAd K d_Watcher__eq_.at_) cdv A outer s H E) (ct K) (fun c d _ H' => E c d H') (defBody s_Watcher__eq_) (m_Watcher__eq_ call) := by
  have tk : Takes (cxOf (L2.CX P w) P w K mg base N_Watcher__eq_ "Watcher.__eq__" (defScope s_Watcher__eq_) (He.fAd K d_Watcher__eq_.at_) cdv A outer s H E) (fun cls d _ H' => E cls d H') := takes_of rfl rfl rfl rfl
  have nd := sc_Watcher__eq_.nd
  have po : PassesOwn (model P w) (cxOf (L2.CX P w) P w K mg base N_Watcher__eq_ "Watcher.__eq__" (defScope s_Watcher__eq_) (He.fAd K d_Watcher__eq_.at_) cdv A outer s H E).A (cxOf (L2.CX P w) P w K mg base N_Watcher__eq_ "Watcher.__eq__" (defScope s_Watcher__eq_) (He.fAd K d_Watcher__eq_.at_) cdv A outer s H E).env (cxOf (L2.CX P w) P w K mg base N_Watcher__eq_ "Watcher.__eq__" (defScope s_Watcher__eq_) (He.fAd K d_Watcher__eq_.at_) cdv A outer s H E).xe := passes_of rfl
  exact (sss_one (ss_ret' (se_and (se_isiC rfl fx.g_Watcher (isiOk fx (C := 4) (by decide)) rfl fx.f_isinstance (se_var 1)) (se_and (se_cmp (eq_sound (unR c.ro)) (se_fld (ok := ok_letters) (k := 3) (se_var 0) rfl (hok_letters fx)) (se_fld (ok := ok_letters) (k := 3) (se_var 1) rfl (hok_letters fx))) (se_and (se_cmp (eq_sound (unR c.ro)) (se_fld (ok := ok_moves) (k := 4) (se_var 0) rfl (hok_moves fx)) (se_fld (ok := ok_moves) (k := 4) (se_var 1) rfl (hok_moves fx))) (se_one (se_cmp (eq_sound (unR c.ro)) (se_fld (ok := ok_ends) (k := 5) (se_var 0) rfl (hok_ends fx)) (se_fld (ok := ok_ends) (k := 5) (se_var 1) rfl (hok_ends fx)))))))))
theorem b_Watcher__eq_ (fx : Fx K mg fd) : BodyOk P w K mg base (ct K) (fns K fd) ⟨He.fAd K d_Watcher__eq_.at_, fd 11, ["self", "other"]⟩ ⟨2, 2, false, m_Watcher__eq_⟩ :=
  ⟨_, "Watcher.__eq__", _, _, _, _, _, N_Watcher__eq_, fx.D_Watcher__eq_, sc_Watcher__eq_, rfl, rfl, by decide, fun call n co cdv A outer s H E hr => t_Watcher__eq_ fx call n cdv A outer s H E ⟨co, hr⟩⟩
abbrev N_Watcher_state_after : List Str := ["self", "text", "state", "sign"]
theorem sc_Watcher_state_after : FnScope N_Watcher_state_after ["self", "text", "state"] (defScope s_Watcher_state_after) := ⟨by kernel_rfl, by kernel_rfl, by kernel_rfl, by decide +kernel, rfl, by decide +kernel, by decide +kernel⟩
theorem t_Watcher_state_after (fx : Fx K mg fd) (call : CallT) (n : Nat) (cdv : Value) (A : Around) (outer : List Env) (s : Shared) (H : Hp) (E : XK) (c : Cq (cxOf (L2.CX P w) P w K mg base N_Watcher_state_after "Watcher.state_after" (defScope s_Watcher_state_after) (He.fAd K d_Watcher_state_after.at_) cdv A outer s H E) (ct K) (fns K fd) call n) :
    SSs (cxOf (L2.CX P w) P w K mg base N_Watcher_state_after "Watcher.state_after" (defScope s_Watcher_state_after) (He.fAd K d_Watcher_state_after.at_) cdv A outer s H E) (ct K) (fun c d _ H' => E c d H') (defBody s_Watcher_state_after) (m_Watcher_state_after call) := by
  have tk : Takes (cxOf (L2.CX P w) P w K mg base N_Watcher_state_after "Watcher.state_after" (defScope s_Watcher_state_after) (He.fAd K d_Watcher_state_after.at_) cdv A outer s H E) (fun cls d _ H' => E cls d H') := takes_of rfl rfl rfl rfl
  have nd := sc_Watcher_state_after.nd
  have po : PassesOwn (model P w) (cxOf (L2.CX P w) P w K mg base N_Watcher_state_after "Watcher.state_after" (defScope s_Watcher_state_after) (He.fAd K d_Watcher_state_after.at_) cdv A outer s H E).A (cxOf (L2.CX P w) P w K mg base N_Watcher_state_after "Watcher.state_after" (defScope s_Watcher_state_after) (He.fAd K d_Watcher_state_after.at_) cdv A outer s H E).env (cxOf (L2.CX P w) P w K mg base N_Watcher_state_after "Watcher.state_after" (defScope s_Watcher_state_after) (He.fAd K d_Watcher_state_after.at_) cdv A outer s H E).xe := passes_of rfl
  exact (sss_cons (ss_for po rfl (si_str (se_var 1)) (sg_name nd (i := 3) rfl (by first | exact .inl rfl | exact .inr rfl))
      (sss_one (ss_set nd (i := 2) rfl (by first | exact .inl rfl | exact .inr rfl) (se_ix ix_sound (se_ix ix_sound (se_fld (ok := ok_moves) (k := 4) (se_var 0) rfl (hok_moves fx)) (se_var 2)) (se_sindex se_str (sa_cons (se_var 3) sa_nil))))))
      (sss_one (ss_ret' (se_var 2))))
theorem b_Watcher_state_after (fx : Fx K mg fd) : BodyOk P w K mg base (ct K) (fns K fd) ⟨He.fAd K d_Watcher_state_after.at_, fd 12, ["self", "text", "state"]⟩ ⟨3, 4, false, m_Watcher_state_after⟩ :=
  ⟨_, "Watcher.state_after", _, _, _, _, _, N_Watcher_state_after, fx.D_Watcher_state_after, sc_Watcher_state_after, rfl, rfl, by decide, fun call n co cdv A outer s H E hr => t_Watcher_state_after fx call n cdv A outer s H E ⟨co, hr⟩⟩
abbrev N__law_source : List Str := ["_law_script"]
theorem sc__law_source : FnScope N__law_source ["_law_script"] (defScope s__law_source) := ⟨by kernel_rfl, by kernel_rfl, by kernel_rfl, by decide +kernel, rfl, by decide +kernel, by decide +kernel⟩
theorem t__law_source (fx : Fx K mg fd) (call : CallT) (n : Nat) (cdv : Value) (A : Around) (outer : List Env) (s : Shared) (H : Hp) (E : XK) (c : Cq (cxOf (L2.CX P w) P w K mg base N__law_source "_law_source" (defScope s__law_source) (He.fAd K d__law_source.at_) cdv A outer s H E) (ct K) (fns K fd) call n) :
    SSs (cxOf (L2.CX P w) P w K mg base N__law_source "_law_source" (defScope s__law_source) (He.fAd K d__law_source.at_) cdv A outer s H E) (ct K) (fun c d _ H' => E c d H') (defBody s__law_source) (m__law_source call) := by
  have tk : Takes (cxOf (L2.CX P w) P w K mg base N__law_source "_law_source" (defScope s__law_source) (He.fAd K d__law_source.at_) cdv A outer s H E) (fun cls d _ H' => E cls d H') := takes_of rfl rfl rfl rfl
  have nd := sc__law_source.nd
  have po : PassesOwn (model P w) (cxOf (L2.CX P w) P w K mg base N__law_source "_law_source" (defScope s__law_source) (He.fAd K d__law_source.at_) cdv A outer s H E).A (cxOf (L2.CX P w) P w K mg base N__law_source "_law_source" (defScope s__law_source) (He.fAd K d__law_source.at_) cdv A outer s H E).env (cxOf (L2.CX P w) P w K mg base N__law_source "_law_source" (defScope s__law_source) (He.fAd K d__law_source.at_) cdv A outer s H E).xe := passes_of rfl
  exact (sss_one (ss_ret' (se_lst (sa_cons (se_callTy listV_sound rfl fx.f_list (by decide +kernel) (sa_cons (se_var 0) sa_nil)) (sa_cons se_int (sa_cons se_int (sa_cons se_int sa_nil)))))))
theorem b__law_source (fx : Fx K mg fd) : BodyOk P w K mg base (ct K) (fns K fd) ⟨He.fAd K d__law_source.at_, fd 13, ["_law_script"]⟩ ⟨1, 1, true, m__law_source⟩ :=
  ⟨_, "_law_source", _, _, _, _, _, N__law_source, fx.D__law_source, sc__law_source, rfl, rfl, by decide, fun call n co cdv A outer s H E hr => t__law_source fx call n cdv A outer s H E ⟨co, hr⟩⟩
abbrev N__law_take : List Str := ["_law_source_here", "_law_many", "_law_cell", "_law_mixed", "_law_told"]
theorem sc__law_take : FnScope N__law_take ["_law_source_here", "_law_many"] (defScope s__law_take) := ⟨by kernel_rfl, by kernel_rfl, by kernel_rfl, by decide +kernel, rfl, by decide +kernel, by decide +kernel⟩
theorem t__law_take (fx : Fx K mg fd) (call : CallT) (n : Nat) (cdv : Value) (A : Around) (outer : List Env) (s : Shared) (H : Hp) (E : XK) (c : Cq (cxOf (L2.CX P w) P w K mg base N__law_take "_law_take" (defScope s__law_take) (He.fAd K d__law_take.at_) cdv A outer s H E) (ct K) (fns K fd) call n) :
    SSs (cxOf (L2.CX P w) P w K mg base N__law_take "_law_take" (defScope s__law_take) (He.fAd K d__law_take.at_) cdv A outer s H E) (ct K) (fun c d _ H' => E c d H') (defBody s__law_take) (m__law_take call) := by
  have tk : Takes (cxOf (L2.CX P w) P w K mg base N__law_take "_law_take" (defScope s__law_take) (He.fAd K d__law_take.at_) cdv A outer s H E) (fun cls d _ H' => E cls d H') := takes_of rfl rfl rfl rfl
  have nd := sc__law_take.nd
  have po : PassesOwn (model P w) (cxOf (L2.CX P w) P w K mg base N__law_take "_law_take" (defScope s__law_take) (He.fAd K d__law_take.at_) cdv A outer s H E).A (cxOf (L2.CX P w) P w K mg base N__law_take "_law_take" (defScope s__law_take) (He.fAd K d__law_take.at_) cdv A outer s H E).env (cxOf (L2.CX P w) P w K mg base N__law_take "_law_take" (defScope s__law_take) (He.fAd K d__law_take.at_) cdv A outer s H E).xe := passes_of rfl
  exact (sss_cons (ss_if (st_cmp eqF_sound (se_ix ix_sound (se_var 0) se_int) se_int)
      (sss_cons (ss_set nd (i := 2) rfl (by first | exact .inl rfl | exact .inr rfl) se_int)
      (sss_cons (ss_if (st_cmp lt_sound (se_ix ix_sound (se_var 0) se_int) (se_callB len_sound rfl fx.f_len (by decide +kernel) (sa_cons (se_ix ix_sound (se_var 0) se_int) sa_nil)))
      (sss_one (ss_set nd (i := 2) rfl (by first | exact .inl rfl | exact .inr rfl) (se_ix ix_sound (se_ix ix_sound (se_var 0) se_int) (se_ix ix_sound (se_var 0) se_int))))
      sss_nil)
      (sss_cons (ss_asg (se_bin add_sound (se_ix ix_sound (se_var 0) se_int) se_int) (sg_store (se_var 0) se_int))
      (sss_one (ss_if (st_cmp ge_sound (se_var 2) (se_bin pow_sound se_int se_int))
      (sss_one (ss_asg (se_var 2) (sg_store (se_var 0) se_int)))
      (sss_cons (ss_set nd (i := 3) rfl (by first | exact .inl rfl | exact .inr rfl) (se_bin mod_sound (se_callTy int_sound rfl fx.f_int (by decide +kernel) (sa_cons (se_bin add_sound (se_bin add_sound (se_bin add_sound (se_bin mulI_sound (se_ix ix_sound (se_var 0) se_int) se_int) (se_bin mulI_sound (se_bin mod_sound (se_callTy int_sound rfl fx.f_int (by decide +kernel) (sa_cons (se_var 2) sa_nil)) se_int) se_int)) (se_bin mulI_sound (se_ix ix_sound (se_var 0) se_int) se_int)) se_int) sa_nil)) se_int))
      (sss_cons (ss_set nd (i := 3) rfl (by first | exact .inl rfl | exact .inr rfl) (se_bin mod_sound (se_callTy int_sound rfl fx.f_int (by decide +kernel) (sa_cons (se_bin add_sound (se_bin add_sound (se_bin mulI_sound (se_var 3) (se_var 3)) (se_bin mulI_sound (se_ix ix_sound (se_var 0) se_int) se_int)) se_int) sa_nil)) se_int))
      (sss_cons (ss_asg (se_var 3) (sg_store (se_var 0) se_int))
      (sss_one (ss_ret' (se_bin mod_sound (se_bin div_sound (se_var 3) se_int) (se_var 1))))))))))))
      sss_nil)
      (sss_cons (ss_set nd (i := 4) rfl (by first | exact .inl rfl | exact .inr rfl) (se_bin mod_sound (se_callTy int_sound rfl fx.f_int (by decide +kernel) (sa_cons (se_ix ix_sound (se_var 0) se_int) sa_nil)) (se_var 1)))
      (sss_cons (ss_asg (se_bin div_sound (se_ix ix_sound (se_var 0) se_int) (se_var 1)) (sg_store (se_var 0) se_int))
      (sss_one (ss_ret' (se_var 4))))))
theorem b__law_take (fx : Fx K mg fd) : BodyOk P w K mg base (ct K) (fns K fd) ⟨He.fAd K d__law_take.at_, fd 14, ["_law_source_here", "_law_many"]⟩ ⟨2, 5, false, m__law_take⟩ :=
  ⟨_, "_law_take", _, _, _, _, _, N__law_take, fx.D__law_take, sc__law_take, rfl, rfl, by decide, fun call n co cdv A outer s H E hr => t__law_take fx call n cdv A outer s H E ⟨co, hr⟩⟩
abbrev N__law_pick : List Str := ["_law_source_here", "_law_things"]
theorem sc__law_pick : FnScope N__law_pick ["_law_source_here", "_law_things"] (defScope s__law_pick) := ⟨by kernel_rfl, by kernel_rfl, by kernel_rfl, by decide +kernel, rfl, by decide +kernel, by decide +kernel⟩
theorem t__law_pick (fx : Fx K mg fd) (call : CallT) (n : Nat) (cdv : Value) (A : Around) (outer : List Env) (s : Shared) (H : Hp) (E : XK) (c : Cq (cxOf (L2.CX P w) P w K mg base N__law_pick "_law_pick" (defScope s__law_pick) (He.fAd K d__law_pick.at_) cdv A outer s H E) (ct K) (fns K fd) call n) :
    SSs (cxOf (L2.CX P w) P w K mg base N__law_pick "_law_pick" (defScope s__law_pick) (He.fAd K d__law_pick.at_) cdv A outer s H E) (ct K) (fun c d _ H' => E c d H') (defBody s__law_pick) (m__law_pick call) := by
  have tk : Takes (cxOf (L2.CX P w) P w K mg base N__law_pick "_law_pick" (defScope s__law_pick) (He.fAd K d__law_pick.at_) cdv A outer s H E) (fun cls d _ H' => E cls d H') := takes_of rfl rfl rfl rfl
  have nd := sc__law_pick.nd
  have po : PassesOwn (model P w) (cxOf (L2.CX P w) P w K mg base N__law_pick "_law_pick" (defScope s__law_pick) (He.fAd K d__law_pick.at_) cdv A outer s H E).A (cxOf (L2.CX P w) P w K mg base N__law_pick "_law_pick" (defScope s__law_pick) (He.fAd K d__law_pick.at_) cdv A outer s H E).env (cxOf (L2.CX P w) P w K mg base N__law_pick "_law_pick" (defScope s__law_pick) (He.fAd K d__law_pick.at_) cdv A outer s H E).xe := passes_of rfl
  exact (sss_one (ss_ret' (se_ix ix_sound (se_var 1) (sc_call ⟨c.co, c.ro⟩ tk fx.i__law_take fx.g__law_take rfl rfl (sa_cons (se_var 0) (sa_cons (se_callB len_sound rfl fx.f_len (by decide +kernel) (sa_cons (se_var 1) sa_nil)) sa_nil))))))
theorem b__law_pick (fx : Fx K mg fd) : BodyOk P w K mg base (ct K) (fns K fd) ⟨He.fAd K d__law_pick.at_, fd 15, ["_law_source_here", "_law_things"]⟩ ⟨2, 2, false, m__law_pick⟩ :=
  ⟨_, "_law_pick", _, _, _, _, _, N__law_pick, fx.D__law_pick, sc__law_pick, rfl, rfl, by decide, fun call n co cdv A outer s H E hr => t__law_pick fx call n cdv A outer s H E ⟨co, hr⟩⟩
abbrev N__law_drawn_text : List Str := ["_law_source_here", "_law_alphabet", "_law_most", "_law_k"]
theorem sc__law_drawn_text : FnScope N__law_drawn_text ["_law_source_here", "_law_alphabet", "_law_most"] (defScope s__law_drawn_text) := ⟨by kernel_rfl, by kernel_rfl, by kernel_rfl, by decide +kernel, rfl, by decide +kernel, by decide +kernel⟩
theorem t__law_drawn_text (fx : Fx K mg fd) (call : CallT) (n : Nat) (cdv : Value) (A : Around) (outer : List Env) (s : Shared) (H : Hp) (E : XK) (c : Cq (cxOf (L2.CX P w) P w K mg base N__law_drawn_text "_law_drawn_text" (defScope s__law_drawn_text) (He.fAd K d__law_drawn_text.at_) cdv A outer s H E) (ct K) (fns K fd) call n) :
    SSs (cxOf (L2.CX P w) P w K mg base N__law_drawn_text "_law_drawn_text" (defScope s__law_drawn_text) (He.fAd K d__law_drawn_text.at_) cdv A outer s H E) (ct K) (fun c d _ H' => E c d H') (defBody s__law_drawn_text) (m__law_drawn_text call) := by
  have tk : Takes (cxOf (L2.CX P w) P w K mg base N__law_drawn_text "_law_drawn_text" (defScope s__law_drawn_text) (He.fAd K d__law_drawn_text.at_) cdv A outer s H E) (fun cls d _ H' => E cls d H') := takes_of rfl rfl rfl rfl
  have nd := sc__law_drawn_text.nd
  have po : PassesOwn (model P w) (cxOf (L2.CX P w) P w K mg base N__law_drawn_text "_law_drawn_text" (defScope s__law_drawn_text) (He.fAd K d__law_drawn_text.at_) cdv A outer s H E).A (cxOf (L2.CX P w) P w K mg base N__law_drawn_text "_law_drawn_text" (defScope s__law_drawn_text) (He.fAd K d__law_drawn_text.at_) cdv A outer s H E).env (cxOf (L2.CX P w) P w K mg base N__law_drawn_text "_law_drawn_text" (defScope s__law_drawn_text) (He.fAd K d__law_drawn_text.at_) cdv A outer s H E).xe := passes_of rfl
  exact (sss_one (ss_ret' (se_join se_str (se_lc false rfl nd (si_rng1 rfl fx.f_range (sa_cons (sc_call ⟨c.co, c.ro⟩ tk fx.i__law_take fx.g__law_take rfl rfl (sa_cons (se_var 0) (sa_cons (se_bin add_sound (se_var 2) se_int) sa_nil))) sa_nil)) (own := [("_law_k", 3)]) (blkOk_by (by first | decide +kernel | kernel_rfl)) rfl (fun _ _ _ _ _ => (sgc_name nd (i := 3) rfl (by first | exact .inl rfl | exact .inr rfl) (by decide))) (fun _ _ _ _ _ => spt_nil) (fun _ _ _ _ _ => (sc_call ⟨c.co, c.ro⟩ takesW fx.i__law_pick fx.g__law_pick rfl rfl (sa_cons (se_var 0) (sa_cons (se_var 1) sa_nil))))))))
theorem b__law_drawn_text (fx : Fx K mg fd) : BodyOk P w K mg base (ct K) (fns K fd) ⟨He.fAd K d__law_drawn_text.at_, fd 16, ["_law_source_here", "_law_alphabet", "_law_most"]⟩ ⟨3, 4, false, m__law_drawn_text⟩ :=
  ⟨_, "_law_drawn_text", _, _, _, _, _, N__law_drawn_text, fx.D__law_drawn_text, sc__law_drawn_text, rfl, rfl, by decide, fun call n co cdv A outer s H E hr => t__law_drawn_text fx call n cdv A outer s H E ⟨co, hr⟩⟩
abbrev N__law_after : List Str := ["_law_moves_here", "_law_state", "_law_text", "_law_sign"]
theorem sc__law_after : FnScope N__law_after ["_law_moves_here", "_law_state", "_law_text"] (defScope s__law_after) := ⟨by kernel_rfl, by kernel_rfl, by kernel_rfl, by decide +kernel, rfl, by decide +kernel, by decide +kernel⟩
theorem t__law_after (fx : Fx K mg fd) (call : CallT) (n : Nat) (cdv : Value) (A : Around) (outer : List Env) (s : Shared) (H : Hp) (E : XK) (c : Cq (cxOf (L2.CX P w) P w K mg base N__law_after "_law_after" (defScope s__law_after) (He.fAd K d__law_after.at_) cdv A outer s H E) (ct K) (fns K fd) call n) :
    SSs (cxOf (L2.CX P w) P w K mg base N__law_after "_law_after" (defScope s__law_after) (He.fAd K d__law_after.at_) cdv A outer s H E) (ct K) (fun c d _ H' => E c d H') (defBody s__law_after) (m__law_after call) := by
  have tk : Takes (cxOf (L2.CX P w) P w K mg base N__law_after "_law_after" (defScope s__law_after) (He.fAd K d__law_after.at_) cdv A outer s H E) (fun cls d _ H' => E cls d H') := takes_of rfl rfl rfl rfl
  have nd := sc__law_after.nd
  have po : PassesOwn (model P w) (cxOf (L2.CX P w) P w K mg base N__law_after "_law_after" (defScope s__law_after) (He.fAd K d__law_after.at_) cdv A outer s H E).A (cxOf (L2.CX P w) P w K mg base N__law_after "_law_after" (defScope s__law_after) (He.fAd K d__law_after.at_) cdv A outer s H E).env (cxOf (L2.CX P w) P w K mg base N__law_after "_law_after" (defScope s__law_after) (He.fAd K d__law_after.at_) cdv A outer s H E).xe := passes_of rfl
  exact (sss_cons (ss_for po rfl (si_str (se_var 2)) (sg_name nd (i := 3) rfl (by first | exact .inl rfl | exact .inr rfl))
      (sss_one (ss_set nd (i := 1) rfl (by first | exact .inl rfl | exact .inr rfl) (se_ix ix_sound (se_ix ix_sound (se_var 0) (se_var 1)) (se_sindex se_str (sa_cons (se_var 3) sa_nil))))))
      (sss_one (ss_ret' (se_var 1))))
theorem b__law_after (fx : Fx K mg fd) : BodyOk P w K mg base (ct K) (fns K fd) ⟨He.fAd K d__law_after.at_, fd 17, ["_law_moves_here", "_law_state", "_law_text"]⟩ ⟨3, 4, false, m__law_after⟩ :=
  ⟨_, "_law_after", _, _, _, _, _, N__law_after, fx.D__law_after, sc__law_after, rfl, rfl, by decide, fun call n co cdv A outer s H E hr => t__law_after fx call n cdv A outer s H E ⟨co, hr⟩⟩
abbrev N__law_walks : List Str := ["_law_moves_here", "_law_begun", "_law_found", "_law_seen", "_law_at", "_law_turn", "_law_text", "_law_reached", "_law_place", "_law_following", "_law_state"]
theorem sc__law_walks : FnScope N__law_walks ["_law_moves_here", "_law_begun"] (defScope s__law_walks) := ⟨by kernel_rfl, by kernel_rfl, by kernel_rfl, by decide +kernel, rfl, by decide +kernel, by decide +kernel⟩
theorem t__law_walks (fx : Fx K mg fd) (call : CallT) (n : Nat) (cdv : Value) (A : Around) (outer : List Env) (s : Shared) (H : Hp) (E : XK) (c : Cq (cxOf (L2.CX P w) P w K mg base N__law_walks "_law_walks" (defScope s__law_walks) (He.fAd K d__law_walks.at_) cdv A outer s H E) (ct K) (fns K fd) call n) :
    SSs (cxOf (L2.CX P w) P w K mg base N__law_walks "_law_walks" (defScope s__law_walks) (He.fAd K d__law_walks.at_) cdv A outer s H E) (ct K) (fun c d _ H' => E c d H') (defBody s__law_walks) (m__law_walks call) := by
  have tk : Takes (cxOf (L2.CX P w) P w K mg base N__law_walks "_law_walks" (defScope s__law_walks) (He.fAd K d__law_walks.at_) cdv A outer s H E) (fun cls d _ H' => E cls d H') := takes_of rfl rfl rfl rfl
  have nd := sc__law_walks.nd
  have po : PassesOwn (model P w) (cxOf (L2.CX P w) P w K mg base N__law_walks "_law_walks" (defScope s__law_walks) (He.fAd K d__law_walks.at_) cdv A outer s H E).A (cxOf (L2.CX P w) P w K mg base N__law_walks "_law_walks" (defScope s__law_walks) (He.fAd K d__law_walks.at_) cdv A outer s H E).env (cxOf (L2.CX P w) P w K mg base N__law_walks "_law_walks" (defScope s__law_walks) (He.fAd K d__law_walks.at_) cdv A outer s H E).xe := passes_of rfl
  exact (sss_cons (ss_par3 (i := 2) (j := 3) (l := 4) rfl nd (sa_cons (se_lst (sa_cons (se_tup (sa_cons se_str (sa_cons (se_var 1) sa_nil))) sa_nil)) (sa_cons (se_dt1 (unR5 c.ro) (se_var 1) se_bl) (sa_cons se_int sa_nil))))
      (sss_cons (ss_for po rfl (si_rng1 rfl fx.f_range (sa_cons se_int sa_nil)) (sg_name nd (i := 5) rfl (by first | exact .inl rfl | exact .inr rfl))
      (sss_cons (ss_if (st_cmp (eq_sound (unR c.ro)) (se_var 4) (se_callB len_sound rfl fx.f_len (by decide +kernel) (sa_cons (se_var 2) sa_nil)))
      (sss_one ss_break)
      sss_nil)
      (sss_cons (ss_asg (se_ix ix_sound (se_var 2) (se_var 4)) (sg_tup rfl (sgs_cons (sg_name nd (i := 6) rfl (by first | exact .inl rfl | exact .inr rfl)) (sgs_cons (sg_name nd (i := 7) rfl (by first | exact .inl rfl | exact .inr rfl)) sgs_nil))))
      (sss_cons (ss_set nd (i := 4) rfl (by first | exact .inl rfl | exact .inr rfl) (se_bin add_sound (se_var 4) se_int))
      (sss_one (ss_for po rfl (si_rng1 rfl fx.f_range (sa_cons (se_callB len_sound rfl fx.f_len (by decide +kernel) (sa_cons (se_ix ix_sound (se_var 0) se_int) sa_nil)) sa_nil)) (sg_name nd (i := 8) rfl (by first | exact .inl rfl | exact .inr rfl))
      (sss_cons (ss_set nd (i := 9) rfl (by first | exact .inl rfl | exact .inr rfl) (se_callTy tuple_sound rfl fx.f_tuple (by decide +kernel) (sa_cons (se_lc false rfl nd (si_seq (se_var 7)) (own := [("_law_state", 10)]) (blkOk_by (by first | decide +kernel | kernel_rfl)) rfl (fun _ _ _ _ _ => (sgc_name nd (i := 10) rfl (by first | exact .inl rfl | exact .inr rfl) (by decide))) (fun _ _ _ _ _ => spt_nil) (fun _ _ _ _ _ => (se_ix ix_sound (se_ix ix_sound (se_var 0) (se_var 10)) (se_var 8)))) sa_nil)))
      (sss_one (ss_if (st_cmp (dnotin_sound (unR5 c.ro)) (se_var 9) (se_var 3))
      (sss_cons (ss_dput (unR5 c.ro) (se_var 3) (se_var 9) se_bl)
      (sss_one (ss_expr (se_append (se_var 2) (sa_cons (se_tup (sa_cons (se_bin add_sound (se_var 6) (se_ix ix_sound se_str (se_var 8))) (sa_cons (se_var 9) sa_nil))) sa_nil)))))
      sss_nil)))))))))
      (sss_one (ss_ret' (se_var 2)))))
theorem b__law_walks (fx : Fx K mg fd) : BodyOk P w K mg base (ct K) (fns K fd) ⟨He.fAd K d__law_walks.at_, fd 18, ["_law_moves_here", "_law_begun"]⟩ ⟨2, 11, false, m__law_walks⟩ :=
  ⟨_, "_law_walks", _, _, _, _, _, N__law_walks, fx.D__law_walks, sc__law_walks, rfl, rfl, by decide, fun call n co cdv A outer s H E hr => t__law_walks fx call n cdv A outer s H E ⟨co, hr⟩⟩
abbrev N__law_deed : List Str := ["_law_moves_here", "_law_text", "_law_state"]
theorem sc__law_deed : FnScope N__law_deed ["_law_moves_here", "_law_text"] (defScope s__law_deed) := ⟨by kernel_rfl, by kernel_rfl, by kernel_rfl, by decide +kernel, rfl, by decide +kernel, by decide +kernel⟩
theorem t__law_deed (fx : Fx K mg fd) (call : CallT) (n : Nat) (cdv : Value) (A : Around) (outer : List Env) (s : Shared) (H : Hp) (E : XK) (c : Cq (cxOf (L2.CX P w) P w K mg base N__law_deed "_law_deed" (defScope s__law_deed) (He.fAd K d__law_deed.at_) cdv A outer s H E) (ct K) (fns K fd) call n) :
    SSs (cxOf (L2.CX P w) P w K mg base N__law_deed "_law_deed" (defScope s__law_deed) (He.fAd K d__law_deed.at_) cdv A outer s H E) (ct K) (fun c d _ H' => E c d H') (defBody s__law_deed) (m__law_deed call) := by
  have tk : Takes (cxOf (L2.CX P w) P w K mg base N__law_deed "_law_deed" (defScope s__law_deed) (He.fAd K d__law_deed.at_) cdv A outer s H E) (fun cls d _ H' => E cls d H') := takes_of rfl rfl rfl rfl
  have nd := sc__law_deed.nd
  have po : PassesOwn (model P w) (cxOf (L2.CX P w) P w K mg base N__law_deed "_law_deed" (defScope s__law_deed) (He.fAd K d__law_deed.at_) cdv A outer s H E).A (cxOf (L2.CX P w) P w K mg base N__law_deed "_law_deed" (defScope s__law_deed) (He.fAd K d__law_deed.at_) cdv A outer s H E).env (cxOf (L2.CX P w) P w K mg base N__law_deed "_law_deed" (defScope s__law_deed) (He.fAd K d__law_deed.at_) cdv A outer s H E).xe := passes_of rfl
  exact (sss_one (ss_ret' (se_callTy tuple_sound rfl fx.f_tuple (by decide +kernel) (sa_cons (se_lc false rfl nd (si_rng1 rfl fx.f_range (sa_cons (se_callB len_sound rfl fx.f_len (by decide +kernel) (sa_cons (se_var 0) sa_nil)) sa_nil)) (own := [("_law_state", 2)]) (blkOk_by (by first | decide +kernel | kernel_rfl)) rfl (fun _ _ _ _ _ => (sgc_name nd (i := 2) rfl (by first | exact .inl rfl | exact .inr rfl) (by decide))) (fun _ _ _ _ _ => spt_nil) (fun _ _ _ _ _ => (sc_call ⟨c.co, c.ro⟩ takesW fx.i__law_after fx.g__law_after rfl rfl (sa_cons (se_var 0) (sa_cons (se_var 2) (sa_cons (se_var 1) sa_nil)))))) sa_nil))))
theorem b__law_deed (fx : Fx K mg fd) : BodyOk P w K mg base (ct K) (fns K fd) ⟨He.fAd K d__law_deed.at_, fd 19, ["_law_moves_here", "_law_text"]⟩ ⟨2, 3, false, m__law_deed⟩ :=
  ⟨_, "_law_deed", _, _, _, _, _, N__law_deed, fx.D__law_deed, sc__law_deed, rfl, rfl, by decide, fun call n co cdv A outer s H E hr => t__law_deed fx call n cdv A outer s H E ⟨co, hr⟩⟩
abbrev N__law_chain : List Str := ["_law_first", "_law_then", "_law_state"]
theorem sc__law_chain : FnScope N__law_chain ["_law_first", "_law_then"] (defScope s__law_chain) := ⟨by kernel_rfl, by kernel_rfl, by kernel_rfl, by decide +kernel, rfl, by decide +kernel, by decide +kernel⟩
theorem t__law_chain (fx : Fx K mg fd) (call : CallT) (n : Nat) (cdv : Value) (A : Around) (outer : List Env) (s : Shared) (H : Hp) (E : XK) (c : Cq (cxOf (L2.CX P w) P w K mg base N__law_chain "_law_chain" (defScope s__law_chain) (He.fAd K d__law_chain.at_) cdv A outer s H E) (ct K) (fns K fd) call n) :
    SSs (cxOf (L2.CX P w) P w K mg base N__law_chain "_law_chain" (defScope s__law_chain) (He.fAd K d__law_chain.at_) cdv A outer s H E) (ct K) (fun c d _ H' => E c d H') (defBody s__law_chain) (m__law_chain call) := by
  have tk : Takes (cxOf (L2.CX P w) P w K mg base N__law_chain "_law_chain" (defScope s__law_chain) (He.fAd K d__law_chain.at_) cdv A outer s H E) (fun cls d _ H' => E cls d H') := takes_of rfl rfl rfl rfl
  have nd := sc__law_chain.nd
  have po : PassesOwn (model P w) (cxOf (L2.CX P w) P w K mg base N__law_chain "_law_chain" (defScope s__law_chain) (He.fAd K d__law_chain.at_) cdv A outer s H E).A (cxOf (L2.CX P w) P w K mg base N__law_chain "_law_chain" (defScope s__law_chain) (He.fAd K d__law_chain.at_) cdv A outer s H E).env (cxOf (L2.CX P w) P w K mg base N__law_chain "_law_chain" (defScope s__law_chain) (He.fAd K d__law_chain.at_) cdv A outer s H E).xe := passes_of rfl
  exact (sss_one (ss_ret' (se_callTy tuple_sound rfl fx.f_tuple (by decide +kernel) (sa_cons (se_lc false rfl nd (si_seq (se_var 0)) (own := [("_law_state", 2)]) (blkOk_by (by first | decide +kernel | kernel_rfl)) rfl (fun _ _ _ _ _ => (sgc_name nd (i := 2) rfl (by first | exact .inl rfl | exact .inr rfl) (by decide))) (fun _ _ _ _ _ => spt_nil) (fun _ _ _ _ _ => (se_ix ix_sound (se_var 1) (se_var 2)))) sa_nil))))
theorem b__law_chain (fx : Fx K mg fd) : BodyOk P w K mg base (ct K) (fns K fd) ⟨He.fAd K d__law_chain.at_, fd 20, ["_law_first", "_law_then"]⟩ ⟨2, 3, false, m__law_chain⟩ :=
  ⟨_, "_law_chain", _, _, _, _, _, N__law_chain, fx.D__law_chain, sc__law_chain, rfl, rfl, by decide, fun call n co cdv A outer s H E hr => t__law_chain fx call n cdv A outer s H E ⟨co, hr⟩⟩
abbrev N__law_table : List Str := ["_law_moves_here", "_law_found", "_law_seen", "_law_at", "_law_turn", "_law_deed_here", "_law_text", "_law_place", "_law_following", "_law_state"]
theorem sc__law_table : FnScope N__law_table ["_law_moves_here"] (defScope s__law_table) := ⟨by kernel_rfl, by kernel_rfl, by kernel_rfl, by decide +kernel, rfl, by decide +kernel, by decide +kernel⟩
theorem t__law_table (fx : Fx K mg fd) (call : CallT) (n : Nat) (cdv : Value) (A : Around) (outer : List Env) (s : Shared) (H : Hp) (E : XK) (c : Cq (cxOf (L2.CX P w) P w K mg base N__law_table "_law_table" (defScope s__law_table) (He.fAd K d__law_table.at_) cdv A outer s H E) (ct K) (fns K fd) call n) :
    SSs (cxOf (L2.CX P w) P w K mg base N__law_table "_law_table" (defScope s__law_table) (He.fAd K d__law_table.at_) cdv A outer s H E) (ct K) (fun c d _ H' => E c d H') (defBody s__law_table) (m__law_table call) := by
  have tk : Takes (cxOf (L2.CX P w) P w K mg base N__law_table "_law_table" (defScope s__law_table) (He.fAd K d__law_table.at_) cdv A outer s H E) (fun cls d _ H' => E cls d H') := takes_of rfl rfl rfl rfl
  have nd := sc__law_table.nd
  have po : PassesOwn (model P w) (cxOf (L2.CX P w) P w K mg base N__law_table "_law_table" (defScope s__law_table) (He.fAd K d__law_table.at_) cdv A outer s H E).A (cxOf (L2.CX P w) P w K mg base N__law_table "_law_table" (defScope s__law_table) (He.fAd K d__law_table.at_) cdv A outer s H E).env (cxOf (L2.CX P w) P w K mg base N__law_table "_law_table" (defScope s__law_table) (He.fAd K d__law_table.at_) cdv A outer s H E).xe := passes_of rfl
  exact (sss_cons (ss_par3 (i := 1) (j := 2) (l := 3) rfl nd (sa_cons (se_lst (sa_cons (se_tup (sa_cons (se_tupR rfl rfl fx.f_tuple rfl fx.f_range (se_callB len_sound rfl fx.f_len (by decide +kernel) (sa_cons (se_var 0) sa_nil))) (sa_cons se_str sa_nil))) sa_nil)) (sa_cons se_dt0 (sa_cons se_int sa_nil))))
      (sss_cons (ss_for po rfl (si_rng1 rfl fx.f_range (sa_cons se_int sa_nil)) (sg_name nd (i := 4) rfl (by first | exact .inl rfl | exact .inr rfl))
      (sss_cons (ss_if (st_bool (sw_or (st_cmp (eq_sound (unR c.ro)) (se_var 3) (se_callB len_sound rfl fx.f_len (by decide +kernel) (sa_cons (se_var 1) sa_nil))) (sw_or1 (st_cmp gt_sound (se_callB len_sound rfl fx.f_len (by decide +kernel) (sa_cons (se_var 1) sa_nil)) se_int))))
      (sss_one ss_break)
      sss_nil)
      (sss_cons (ss_asg (se_ix ix_sound (se_var 1) (se_var 3)) (sg_tup rfl (sgs_cons (sg_name nd (i := 5) rfl (by first | exact .inl rfl | exact .inr rfl)) (sgs_cons (sg_name nd (i := 6) rfl (by first | exact .inl rfl | exact .inr rfl)) sgs_nil))))
      (sss_cons (ss_set nd (i := 3) rfl (by first | exact .inl rfl | exact .inr rfl) (se_bin add_sound (se_var 3) se_int))
      (sss_one (ss_for po rfl (si_rng1 rfl fx.f_range (sa_cons (se_callB len_sound rfl fx.f_len (by decide +kernel) (sa_cons (se_ix ix_sound (se_var 0) se_int) sa_nil)) sa_nil)) (sg_name nd (i := 7) rfl (by first | exact .inl rfl | exact .inr rfl))
      (sss_cons (ss_set nd (i := 8) rfl (by first | exact .inl rfl | exact .inr rfl) (se_callTy tuple_sound rfl fx.f_tuple (by decide +kernel) (sa_cons (se_lc false rfl nd (si_seq (se_var 5)) (own := [("_law_state", 9)]) (blkOk_by (by first | decide +kernel | kernel_rfl)) rfl (fun _ _ _ _ _ => (sgc_name nd (i := 9) rfl (by first | exact .inl rfl | exact .inr rfl) (by decide))) (fun _ _ _ _ _ => spt_nil) (fun _ _ _ _ _ => (se_ix ix_sound (se_ix ix_sound (se_var 0) (se_var 9)) (se_var 7)))) sa_nil)))
      (sss_one (ss_if (st_cmp (dnotin_sound (unR5 c.ro)) (se_var 8) (se_var 2))
      (sss_cons (ss_dput (unR5 c.ro) (se_var 2) (se_var 8) se_bl)
      (sss_one (ss_expr (se_append (se_var 1) (sa_cons (se_tup (sa_cons (se_var 8) (sa_cons (se_bin add_sound (se_var 6) (se_ix ix_sound se_str (se_var 7))) sa_nil))) sa_nil)))))
      sss_nil)))))))))
      (sss_one (ss_ret' (se_slice (se_var 1) (so_some se_int) so_none)))))
theorem b__law_table (fx : Fx K mg fd) : BodyOk P w K mg base (ct K) (fns K fd) ⟨He.fAd K d__law_table.at_, fd 21, ["_law_moves_here"]⟩ ⟨1, 10, false, m__law_table⟩ :=
  ⟨_, "_law_table", _, _, _, _, _, N__law_table, fx.D__law_table, sc__law_table, rfl, rfl, by decide, fun call n co cdv A outer s H E hr => t__law_table fx call n cdv A outer s H E ⟨co, hr⟩⟩
abbrev N__law_moves : List Str := ["_law_source_here", "_law_states", "_law_letters", "_law_state", "_law_place"]
theorem sc__law_moves : FnScope N__law_moves ["_law_source_here", "_law_states", "_law_letters"] (defScope s__law_moves) := ⟨by kernel_rfl, by kernel_rfl, by kernel_rfl, by decide +kernel, rfl, by decide +kernel, by decide +kernel⟩
theorem t__law_moves (fx : Fx K mg fd) (call : CallT) (n : Nat) (cdv : Value) (A : Around) (outer : List Env) (s : Shared) (H : Hp) (E : XK) (c : Cq (cxOf (L2.CX P w) P w K mg base N__law_moves "_law_moves" (defScope s__law_moves) (He.fAd K d__law_moves.at_) cdv A outer s H E) (ct K) (fns K fd) call n) :
    SSs (cxOf (L2.CX P w) P w K mg base N__law_moves "_law_moves" (defScope s__law_moves) (He.fAd K d__law_moves.at_) cdv A outer s H E) (ct K) (fun c d _ H' => E c d H') (defBody s__law_moves) (m__law_moves call) := by
  have tk : Takes (cxOf (L2.CX P w) P w K mg base N__law_moves "_law_moves" (defScope s__law_moves) (He.fAd K d__law_moves.at_) cdv A outer s H E) (fun cls d _ H' => E cls d H') := takes_of rfl rfl rfl rfl
  have nd := sc__law_moves.nd
  have po : PassesOwn (model P w) (cxOf (L2.CX P w) P w K mg base N__law_moves "_law_moves" (defScope s__law_moves) (He.fAd K d__law_moves.at_) cdv A outer s H E).A (cxOf (L2.CX P w) P w K mg base N__law_moves "_law_moves" (defScope s__law_moves) (He.fAd K d__law_moves.at_) cdv A outer s H E).env (cxOf (L2.CX P w) P w K mg base N__law_moves "_law_moves" (defScope s__law_moves) (He.fAd K d__law_moves.at_) cdv A outer s H E).xe := passes_of rfl
  exact (sss_one (ss_ret' (se_callTy tuple_sound rfl fx.f_tuple (by decide +kernel) (sa_cons (se_lc false rfl nd (si_rng1 rfl fx.f_range (sa_cons (se_var 1) sa_nil)) (own := [("_law_state", 3)]) (blkOk_by (by first | decide +kernel | kernel_rfl)) rfl (fun _ _ _ _ _ => (sgc_name nd (i := 3) rfl (by first | exact .inl rfl | exact .inr rfl) (by decide))) (fun _ _ _ _ _ => spt_nil) (fun _ _ _ _ _ => (se_callTy tuple_sound rfl fx.f_tuple (by decide +kernel) (sa_cons (se_lc false rfl nd (si_rng1 rfl fx.f_range (sa_cons (se_var 2) sa_nil)) (own := [("_law_place", 4)]) (blkOk_by (by first | decide +kernel | kernel_rfl)) rfl (fun _ _ _ _ _ => (sgc_name nd (i := 4) rfl (by first | exact .inl rfl | exact .inr rfl) (by decide))) (fun _ _ _ _ _ => spt_nil) (fun _ _ _ _ _ => (sc_call ⟨c.co, c.ro⟩ takesW fx.i__law_take fx.g__law_take rfl rfl (sa_cons (se_var 0) (sa_cons (se_var 1) sa_nil))))) sa_nil)))) sa_nil))))
theorem b__law_moves (fx : Fx K mg fd) : BodyOk P w K mg base (ct K) (fns K fd) ⟨He.fAd K d__law_moves.at_, fd 22, ["_law_source_here", "_law_states", "_law_letters"]⟩ ⟨3, 5, false, m__law_moves⟩ :=
  ⟨_, "_law_moves", _, _, _, _, _, N__law_moves, fx.D__law_moves, sc__law_moves, rfl, rfl, by decide, fun call n co cdv A outer s H E hr => t__law_moves fx call n cdv A outer s H E ⟨co, hr⟩⟩
abbrev N__law_goals : List Str := ["_law_source_here", "_law_states", "_law_state"]
theorem sc__law_goals : FnScope N__law_goals ["_law_source_here", "_law_states"] (defScope s__law_goals) := ⟨by kernel_rfl, by kernel_rfl, by kernel_rfl, by decide +kernel, rfl, by decide +kernel, by decide +kernel⟩
theorem t__law_goals (fx : Fx K mg fd) (call : CallT) (n : Nat) (cdv : Value) (A : Around) (outer : List Env) (s : Shared) (H : Hp) (E : XK) (c : Cq (cxOf (L2.CX P w) P w K mg base N__law_goals "_law_goals" (defScope s__law_goals) (He.fAd K d__law_goals.at_) cdv A outer s H E) (ct K) (fns K fd) call n) :
    SSs (cxOf (L2.CX P w) P w K mg base N__law_goals "_law_goals" (defScope s__law_goals) (He.fAd K d__law_goals.at_) cdv A outer s H E) (ct K) (fun c d _ H' => E c d H') (defBody s__law_goals) (m__law_goals call) := by
  have tk : Takes (cxOf (L2.CX P w) P w K mg base N__law_goals "_law_goals" (defScope s__law_goals) (He.fAd K d__law_goals.at_) cdv A outer s H E) (fun cls d _ H' => E cls d H') := takes_of rfl rfl rfl rfl
  have nd := sc__law_goals.nd
  have po : PassesOwn (model P w) (cxOf (L2.CX P w) P w K mg base N__law_goals "_law_goals" (defScope s__law_goals) (He.fAd K d__law_goals.at_) cdv A outer s H E).A (cxOf (L2.CX P w) P w K mg base N__law_goals "_law_goals" (defScope s__law_goals) (He.fAd K d__law_goals.at_) cdv A outer s H E).env (cxOf (L2.CX P w) P w K mg base N__law_goals "_law_goals" (defScope s__law_goals) (He.fAd K d__law_goals.at_) cdv A outer s H E).xe := passes_of rfl
  exact (sss_one (ss_ret' (se_callTy tuple_sound rfl fx.f_tuple (by decide +kernel) (sa_cons (se_lc false rfl nd (si_rng1 rfl fx.f_range (sa_cons (se_var 1) sa_nil)) (own := [("_law_state", 2)]) (blkOk_by (by first | decide +kernel | kernel_rfl)) rfl (fun _ _ _ _ _ => (sgc_name nd (i := 2) rfl (by first | exact .inl rfl | exact .inr rfl) (by decide))) (fun _ _ _ _ _ => (spt_one (st_truth (sc_call ⟨c.co, c.ro⟩ takesW fx.i__law_pick fx.g__law_pick rfl rfl (sa_cons (se_var 0) (sa_cons (se_lv (sa_cons se_bl (sa_cons se_bl sa_nil))) sa_nil)))))) (fun _ _ _ _ _ => (se_var 2))) sa_nil))))
theorem b__law_goals (fx : Fx K mg fd) : BodyOk P w K mg base (ct K) (fns K fd) ⟨He.fAd K d__law_goals.at_, fd 23, ["_law_source_here", "_law_states"]⟩ ⟨2, 3, false, m__law_goals⟩ :=
  ⟨_, "_law_goals", _, _, _, _, _, N__law_goals, fx.D__law_goals, sc__law_goals, rfl, rfl, by decide, fun call n co cdv A outer s H E hr => t__law_goals fx call n cdv A outer s H E ⟨co, hr⟩⟩
abbrev N__law_lot : List Str := ["_law_watcher"]
theorem sc__law_lot : FnScope N__law_lot ["_law_watcher"] (defScope s__law_lot) := ⟨by kernel_rfl, by kernel_rfl, by kernel_rfl, by decide +kernel, rfl, by decide +kernel, by decide +kernel⟩
theorem t__law_lot (fx : Fx K mg fd) (call : CallT) (n : Nat) (cdv : Value) (A : Around) (outer : List Env) (s : Shared) (H : Hp) (E : XK) (c : Cq (cxOf (L2.CX P w) P w K mg base N__law_lot "_law_lot" (defScope s__law_lot) (He.fAd K d__law_lot.at_) cdv A outer s H E) (ct K) (fns K fd) call n) :
    SSs (cxOf (L2.CX P w) P w K mg base N__law_lot "_law_lot" (defScope s__law_lot) (He.fAd K d__law_lot.at_) cdv A outer s H E) (ct K) (fun c d _ H' => E c d H') (defBody s__law_lot) (m__law_lot call) := by
  have tk : Takes (cxOf (L2.CX P w) P w K mg base N__law_lot "_law_lot" (defScope s__law_lot) (He.fAd K d__law_lot.at_) cdv A outer s H E) (fun cls d _ H' => E cls d H') := takes_of rfl rfl rfl rfl
  have nd := sc__law_lot.nd
  have po : PassesOwn (model P w) (cxOf (L2.CX P w) P w K mg base N__law_lot "_law_lot" (defScope s__law_lot) (He.fAd K d__law_lot.at_) cdv A outer s H E).A (cxOf (L2.CX P w) P w K mg base N__law_lot "_law_lot" (defScope s__law_lot) (He.fAd K d__law_lot.at_) cdv A outer s H E).env (cxOf (L2.CX P w) P w K mg base N__law_lot "_law_lot" (defScope s__law_lot) (He.fAd K d__law_lot.at_) cdv A outer s H E).xe := passes_of rfl
  exact (sss_one (ss_tryO rfl rfl rfl fx.g_TooMany tk (fun C r h => exmX_ok (cn := cn) (fun _ => rfl) fx.w_em (by decide) C r h) (fun W pn xe tk po => (sss_one (ss_ret' (sc_call ⟨c.co, c.ro⟩ tk fx.i_deeds_of fx.g_deeds_of rfl rfl (sa_cons (se_var 0) sa_nil)))))
      (fun a pn => (sss_one (ss_ret' se_non)))))
theorem b__law_lot (fx : Fx K mg fd) : BodyOk P w K mg base (ct K) (fns K fd) ⟨He.fAd K d__law_lot.at_, fd 24, ["_law_watcher"]⟩ ⟨1, 1, false, m__law_lot⟩ :=
  ⟨_, "_law_lot", _, _, _, _, _, N__law_lot, fx.D__law_lot, sc__law_lot, rfl, rfl, by decide, fun call n co cdv A outer s H E hr => t__law_lot fx call n cdv A outer s H E ⟨co, hr⟩⟩
abbrev N__law_path : List Str := ["_law_moves_here", "_law_start", "_law_goals_here", "_law_found", "_law_place", "_law_text", "_law_reached"]
theorem sc__law_path : FnScope N__law_path ["_law_moves_here", "_law_start", "_law_goals_here"] (defScope s__law_path) := ⟨by kernel_rfl, by kernel_rfl, by kernel_rfl, by decide +kernel, rfl, by decide +kernel, by decide +kernel⟩
theorem t__law_path (fx : Fx K mg fd) (call : CallT) (n : Nat) (cdv : Value) (A : Around) (outer : List Env) (s : Shared) (H : Hp) (E : XK) (c : Cq (cxOf (L2.CX P w) P w K mg base N__law_path "_law_path" (defScope s__law_path) (He.fAd K d__law_path.at_) cdv A outer s H E) (ct K) (fns K fd) call n) :
    SSs (cxOf (L2.CX P w) P w K mg base N__law_path "_law_path" (defScope s__law_path) (He.fAd K d__law_path.at_) cdv A outer s H E) (ct K) (fun c d _ H' => E c d H') (defBody s__law_path) (m__law_path call) := by
  have tk : Takes (cxOf (L2.CX P w) P w K mg base N__law_path "_law_path" (defScope s__law_path) (He.fAd K d__law_path.at_) cdv A outer s H E) (fun cls d _ H' => E cls d H') := takes_of rfl rfl rfl rfl
  have nd := sc__law_path.nd
  have po : PassesOwn (model P w) (cxOf (L2.CX P w) P w K mg base N__law_path "_law_path" (defScope s__law_path) (He.fAd K d__law_path.at_) cdv A outer s H E).A (cxOf (L2.CX P w) P w K mg base N__law_path "_law_path" (defScope s__law_path) (He.fAd K d__law_path.at_) cdv A outer s H E).env (cxOf (L2.CX P w) P w K mg base N__law_path "_law_path" (defScope s__law_path) (He.fAd K d__law_path.at_) cdv A outer s H E).xe := passes_of rfl
  exact (sss_cons (ss_set nd (i := 3) rfl (by first | exact .inl rfl | exact .inr rfl) (se_lst sa_nil))
      (sss_cons (ss_for po rfl (si_rng1 rfl fx.f_range (sa_cons (se_callB len_sound rfl fx.f_len (by decide +kernel) (sa_cons (se_ix ix_sound (se_var 0) se_int) sa_nil)) sa_nil)) (sg_name nd (i := 4) rfl (by first | exact .inl rfl | exact .inr rfl))
      (sss_one (ss_for po rfl (si_seq (sc_call ⟨c.co, c.ro⟩ tk fx.i__law_walks fx.g__law_walks rfl rfl (sa_cons (se_var 0) (sa_cons (se_tup (sa_cons (se_ix ix_sound (se_ix ix_sound (se_var 0) (se_var 1)) (se_var 4)) sa_nil)) sa_nil)))) (sg_tup rfl (sgs_cons (sg_name nd (i := 5) rfl (by first | exact .inl rfl | exact .inr rfl)) (sgs_cons (sg_name nd (i := 6) rfl (by first | exact .inl rfl | exact .inr rfl)) sgs_nil)))
      (sss_one (ss_if (st_cmp inT_sound (se_ix ix_sound (se_var 6) se_int) (se_var 2))
      (sss_cons (ss_expr (se_append (se_var 3) (sa_cons (se_tup (sa_cons (se_callB len_sound rfl fx.f_len (by decide +kernel) (sa_cons (se_var 5) sa_nil)) (sa_cons (se_bin add_sound (se_ix ix_sound se_str (se_var 4)) (se_var 5)) sa_nil))) sa_nil)))
      (sss_one ss_break))
      sss_nil)))))
      (sss_one (ss_ret' (se_if (st_truth (se_var 3)) (se_ix ix_sound (se_callB (min_sound rfl c.ro) rfl fx.f_min (by decide +kernel) (sa_cons (se_var 3) sa_nil)) se_int) se_non)))))
theorem b__law_path (fx : Fx K mg fd) : BodyOk P w K mg base (ct K) (fns K fd) ⟨He.fAd K d__law_path.at_, fd 25, ["_law_moves_here", "_law_start", "_law_goals_here"]⟩ ⟨3, 7, false, m__law_path⟩ :=
  ⟨_, "_law_path", _, _, _, _, _, N__law_path, fx.D__law_path, sc__law_path, rfl, rfl, by decide, fun call n co cdv A outer s H E hr => t__law_path fx call n cdv A outer s H E ⟨co, hr⟩⟩
abbrev N__law_right : List Str := ["_law_source_here", "_law_moves_here", "_law_lot_here", "_law_table_here", "_law_states", "_law_known", "_law_deed_here", "_law_text", "_law_other", "_law_more", "_law_both", "_law_k", "_law_place", "_law_start", "_law_met", "_law_goals_here", "_law_before", "_law_due", "_law_state", "_law_move", "_law_goal"]
theorem sc__law_right : FnScope N__law_right ["_law_source_here", "_law_moves_here", "_law_lot_here"] (defScope s__law_right) := ⟨by kernel_rfl, by kernel_rfl, by kernel_rfl, by decide +kernel, rfl, by decide +kernel, by decide +kernel⟩
theorem t__law_right (fx : Fx K mg fd) (call : CallT) (n : Nat) (cdv : Value) (A : Around) (outer : List Env) (s : Shared) (H : Hp) (E : XK) (c : Cq (cxOf (L2.CX P w) P w K mg base N__law_right "_law_right" (defScope s__law_right) (He.fAd K d__law_right.at_) cdv A outer s H E) (ct K) (fns K fd) call n) :
    SSs (cxOf (L2.CX P w) P w K mg base N__law_right "_law_right" (defScope s__law_right) (He.fAd K d__law_right.at_) cdv A outer s H E) (ct K) (fun c d _ H' => E c d H') (defBody s__law_right) (m__law_right call) := by
  have tk : Takes (cxOf (L2.CX P w) P w K mg base N__law_right "_law_right" (defScope s__law_right) (He.fAd K d__law_right.at_) cdv A outer s H E) (fun cls d _ H' => E cls d H') := takes_of rfl rfl rfl rfl
  have nd := sc__law_right.nd
  have po : PassesOwn (model P w) (cxOf (L2.CX P w) P w K mg base N__law_right "_law_right" (defScope s__law_right) (He.fAd K d__law_right.at_) cdv A outer s H E).A (cxOf (L2.CX P w) P w K mg base N__law_right "_law_right" (defScope s__law_right) (He.fAd K d__law_right.at_) cdv A outer s H E).env (cxOf (L2.CX P w) P w K mg base N__law_right "_law_right" (defScope s__law_right) (He.fAd K d__law_right.at_) cdv A outer s H E).xe := passes_of rfl
  exact (sss_cons (ss_set nd (i := 3) rfl (by first | exact .inl rfl | exact .inr rfl) (se_callB (sorted_sound c.ro) rfl fx.f_sorted (by decide +kernel) (sa_cons (sc_call ⟨c.co, c.ro⟩ tk fx.i__law_table fx.g__law_table rfl rfl (sa_cons (se_var 1) sa_nil)) sa_nil)))
      (sss_cons (ss_set nd (i := 4) rfl (by first | exact .inl rfl | exact .inr rfl) (se_callB len_sound rfl fx.f_len (by decide +kernel) (sa_cons (se_var 1) sa_nil)))
      (sss_cons (ss_if (st_bool (sw_or (st_not (st_truth (se_isiB rfl fx.f_tuple (by decide +kernel) Mi.isi_tuple rfl fx.f_isinstance (se_fld (ok := ok_table) (k := 1) (se_var 2) rfl (hok_table fx))))) (sw_or1 (st_cmp neF_sound (se_callB (repr_sound c.ro) rfl fx.f_repr (by decide +kernel) (sa_cons (se_fld (ok := ok_table) (k := 1) (se_var 2) rfl (hok_table fx)) sa_nil)) (se_callB (repr_sound c.ro) rfl fx.f_repr (by decide +kernel) (sa_cons (se_callTy tuple_sound rfl fx.f_tuple (by decide +kernel) (sa_cons (se_var 3) sa_nil)) sa_nil))))))
      (sss_one (ss_ret' se_bl))
      sss_nil)
      (sss_cons (ss_if (st_bool (sw_or (st_cmp (ne_sound (unR c.ro)) (se_fld (ok := ok_states) (k := 2) (se_var 2) rfl (hok_states fx)) (se_var 4)) (sw_or1 (st_cmp (ne_sound (unR c.ro)) (se_fld (ok := ok_letters) (k := 3) (se_var 2) rfl (hok_letters fx)) (se_callTy (tupS_sound rfl) rfl fx.f_tuple (by decide +kernel) (sa_cons (se_slice se_str so_none (so_some (se_callB len_sound rfl fx.f_len (by decide +kernel) (sa_cons (se_ix ix_sound (se_var 1) se_int) sa_nil)))) sa_nil))))))
      (sss_one (ss_ret' se_bl))
      sss_nil)
      (sss_cons (ss_set nd (i := 5) rfl (by first | exact .inl rfl | exact .inr rfl) (se_callTy (dictP_sound rfl c.ro) rfl fx.f_dict (by decide +kernel) (sa_cons (se_var 3) sa_nil)))
      (sss_cons (ss_for po rfl (si_seq (se_var 3)) (sg_tup rfl (sgs_cons (sg_name nd (i := 6) rfl (by first | exact .inl rfl | exact .inr rfl)) (sgs_cons (sg_name nd (i := 7) rfl (by first | exact .inl rfl | exact .inr rfl)) sgs_nil)))
      (sss_cons (ss_if (st_bool (sw_or (st_cmp (ne_sound (unR c.ro)) (sc_meth (C := 3) ⟨c.co, c.ro⟩ tk fx.i_Deeds_text_of fx.me_Deeds_text_of fx.c_Deeds rfl (nmL_new (by decide +kernel) (by decide +kernel)) (se_var 2) (sa_cons (se_var 6) sa_nil)) (se_var 7)) (sw_or1 (st_cmp (ne_sound (unR c.ro)) (sc_meth (C := 3) ⟨c.co, c.ro⟩ tk fx.i_Deeds_text_deed fx.me_Deeds_text_deed fx.c_Deeds rfl (nmL_new (by decide +kernel) (by decide +kernel)) (se_var 2) (sa_cons (se_var 7) sa_nil)) (se_var 6)))))
      (sss_one (ss_ret' se_bl))
      sss_nil)
      (sss_one (ss_for po rfl (si_seq (se_var 3)) (sg_tup rfl (sgs_cons (sg_name nd (i := 8) rfl (by first | exact .inl rfl | exact .inr rfl)) (sgs_cons (sg_name nd (i := 9) rfl (by first | exact .inl rfl | exact .inr rfl)) sgs_nil)))
      (sss_cons (ss_set nd (i := 10) rfl (by first | exact .inl rfl | exact .inr rfl) (sc_call ⟨c.co, c.ro⟩ tk fx.i_deed_after fx.g_deed_after rfl rfl (sa_cons (se_var 6) (sa_cons (se_var 8) sa_nil))))
      (sss_one (ss_if (st_bool (sw_or (st_cmp (ne_sound (unR c.ro)) (se_var 10) (sc_call ⟨c.co, c.ro⟩ tk fx.i__law_chain fx.g__law_chain rfl rfl (sa_cons (se_var 6) (sa_cons (se_var 8) sa_nil)))) (sw_or1 (st_cmp (dnotin_sound (unR5 c.ro)) (se_var 10) (se_var 5)))))
      (sss_one (ss_ret' se_bl))
      sss_nil)))))))
      (sss_cons (ss_for po rfl (si_rng1 rfl fx.f_range (sa_cons se_int sa_nil)) (sg_name nd (i := 11) rfl (by first | exact .inl rfl | exact .inr rfl))
      (sss_cons (ss_set nd (i := 6) rfl (by first | exact .inl rfl | exact .inr rfl) (se_callTy tuple_sound rfl fx.f_tuple (by decide +kernel) (sa_cons (se_lc false rfl nd (si_rng1 rfl fx.f_range (sa_cons (se_var 4) sa_nil)) (own := [("_law_state", 18)]) (blkOk_by (by first | decide +kernel | kernel_rfl)) rfl (fun _ _ _ _ _ => (sgc_name nd (i := 18) rfl (by first | exact .inl rfl | exact .inr rfl) (by decide))) (fun _ _ _ _ _ => spt_nil) (fun _ _ _ _ _ => (sc_call ⟨c.co, c.ro⟩ takesW fx.i__law_take fx.g__law_take rfl rfl (sa_cons (se_var 0) (sa_cons (se_var 4) sa_nil))))) sa_nil)))
      (sss_cons (ss_if (st_cmp (ne_sound (unR c.ro)) (sc_meth (C := 3) ⟨c.co, c.ro⟩ tk fx.i_Deeds_text_of fx.me_Deeds_text_of fx.c_Deeds rfl (nmL_new (by decide +kernel) (by decide +kernel)) (se_var 2) (sa_cons (se_var 6) sa_nil)) (se_dg2 (unR5 c.ro) (se_var 5) (se_var 6) se_non (by exact ⟨rfl, rfl, rfl, rfl⟩)))
      (sss_one (ss_ret' se_bl))
      sss_nil)
      (sss_cons (ss_set nd (i := 7) rfl (by first | exact .inl rfl | exact .inr rfl) (sc_call ⟨c.co, c.ro⟩ tk fx.i__law_drawn_text fx.g__law_drawn_text rfl rfl (sa_cons (se_var 0) (sa_cons (se_slice se_str so_none (so_some (se_callB len_sound rfl fx.f_len (by decide +kernel) (sa_cons (se_ix ix_sound (se_var 1) se_int) sa_nil)))) (sa_cons se_int sa_nil)))))
      (sss_one (ss_if (st_bool (sw_or (st_cmp (ne_sound (unR c.ro)) (sc_meth (C := 3) ⟨c.co, c.ro⟩ tk fx.i_Deeds_text_deed fx.me_Deeds_text_deed fx.c_Deeds rfl (nmL_new (by decide +kernel) (by decide +kernel)) (se_var 2) (sa_cons (se_var 7) sa_nil)) (sc_call ⟨c.co, c.ro⟩ tk fx.i__law_deed fx.g__law_deed rfl rfl (sa_cons (se_var 1) (sa_cons (se_var 7) sa_nil)))) (sw_or1 (st_bool (sw_and (st_cmp neF_sound (se_var 7) se_str) (sw_and1 (st_cmp (dnotin_sound (unR5 c.ro)) (sc_meth (C := 3) ⟨c.co, c.ro⟩ tk fx.i_Deeds_text_deed fx.me_Deeds_text_deed fx.c_Deeds rfl (nmL_new (by decide +kernel) (by decide +kernel)) (se_var 2) (sa_cons (se_var 7) sa_nil)) (se_var 5))))))))
      (sss_one (ss_ret' se_bl))
      sss_nil))))))
      (sss_cons (ss_for po rfl (si_rng1 rfl fx.f_range (sa_cons (se_callB len_sound rfl fx.f_len (by decide +kernel) (sa_cons (se_ix ix_sound (se_var 1) se_int) sa_nil)) sa_nil)) (sg_name nd (i := 12) rfl (by first | exact .inl rfl | exact .inr rfl))
      (sss_one (ss_if (st_cmp (ne_sound (unR c.ro)) (sc_meth (C := 3) ⟨c.co, c.ro⟩ tk fx.i_Deeds_letter_deed fx.me_Deeds_letter_deed fx.c_Deeds rfl (nmL_new (by decide +kernel) (by decide +kernel)) (se_var 2) (sa_cons (se_ix ix_sound se_str (se_var 12)) sa_nil)) (se_callTy tuple_sound rfl fx.f_tuple (by decide +kernel) (sa_cons (se_lc false rfl nd (si_seq (se_var 1)) (own := [("_law_move", 19)]) (blkOk_by (by first | decide +kernel | kernel_rfl)) rfl (fun _ _ _ _ _ => (sgc_name nd (i := 19) rfl (by first | exact .inl rfl | exact .inr rfl) (by decide))) (fun _ _ _ _ _ => spt_nil) (fun _ _ _ _ _ => (se_ix ix_sound (se_var 19) (se_var 12)))) sa_nil)))
      (sss_one (ss_ret' se_bl))
      sss_nil)))
      (sss_cons (ss_for po rfl (si_rng1 rfl fx.f_range (sa_cons (se_var 4) sa_nil)) (sg_name nd (i := 13) rfl (by first | exact .inl rfl | exact .inr rfl))
      (sss_cons (ss_set nd (i := 14) rfl (by first | exact .inl rfl | exact .inr rfl) (se_lc false rfl nd (si_rng1 rfl fx.f_range (sa_cons (se_var 4) sa_nil)) (own := [("_law_goal", 20)]) (blkOk_by (by first | decide +kernel | kernel_rfl)) rfl (fun _ _ _ _ _ => (sgc_name nd (i := 20) rfl (by first | exact .inl rfl | exact .inr rfl) (by decide))) (fun _ _ _ _ _ => (spt_one (st_cmp notN_sound (sc_call ⟨c.co, c.ro⟩ takesW fx.i__law_path fx.g__law_path rfl rfl (sa_cons (se_var 1) (sa_cons (se_var 13) (sa_cons (se_lv (sa_cons (se_var 20) sa_nil)) sa_nil)))) se_non))) (fun _ _ _ _ _ => (se_var 20))))
      (sss_cons (ss_if (st_cmp (ne_sound (unR c.ro)) (sc_meth (C := 3) ⟨c.co, c.ro⟩ tk fx.i_Deeds_reached_from fx.me_Deeds_reached_from fx.c_Deeds rfl (nmL_new (by decide +kernel) (by decide +kernel)) (se_var 2) (sa_cons (se_var 13) sa_nil)) (se_callTy tuple_sound rfl fx.f_tuple (by decide +kernel) (sa_cons (se_var 14) sa_nil)))
      (sss_one (ss_ret' se_bl))
      sss_nil)
      (sss_cons (ss_setLc false rfl nd (i := 15) rfl rfl (sw_true rfl rfl rfl (by decide +kernel)) (si_rng1 rfl fx.f_range (sa_cons (sc_call ⟨c.co, c.ro⟩ tk fx.i__law_take fx.g__law_take rfl rfl (sa_cons (se_var 0) (sa_cons se_int sa_nil))) sa_nil)) (own := [("_law_k", 11)]) (blkOk_by (by first | decide +kernel | kernel_rfl)) rfl (fun _ _ _ _ _ => (sgc_name nd (i := 11) rfl (by first | exact .inl rfl | exact .inr rfl) (by decide))) (fun _ _ _ _ _ => spt_nil) (fun _ _ _ _ _ => (sc_call ⟨c.co, c.ro⟩ takesW fx.i__law_take fx.g__law_take rfl rfl (sa_cons (se_var 0) (sa_cons (se_var 4) sa_nil)))))
      (sss_cons (ss_par2 (i := 16) (j := 17) rfl nd (sa_cons (se_callTy listV_sound rfl fx.f_list (by decide +kernel) (sa_cons (se_var 15) sa_nil)) (sa_cons (sc_call ⟨c.co, c.ro⟩ tk fx.i__law_path fx.g__law_path rfl rfl (sa_cons (se_var 1) (sa_cons (se_var 13) (sa_cons (se_var 15) sa_nil)))) sa_nil)))
      (sss_cons (ss_if (st_bool (sw_or (st_cmp (ne_sound (unR c.ro)) (sc_meth (C := 3) ⟨c.co, c.ro⟩ tk fx.i_Deeds_path_text fx.me_Deeds_path_text fx.c_Deeds rfl (nmL_new (by decide +kernel) (by decide +kernel)) (se_var 2) (sa_cons (se_var 13) (sa_cons (se_var 15) sa_nil))) (se_var 17)) (sw_or (st_cmp (ne_sound (unR c.ro)) (sc_meth (C := 3) ⟨c.co, c.ro⟩ tk fx.i_Deeds_path_text fx.me_Deeds_path_text fx.c_Deeds rfl (nmL_new (by decide +kernel) (by decide +kernel)) (se_var 2) (sa_cons (se_var 13) (sa_cons (se_callTy tuple_sound rfl fx.f_tuple (by decide +kernel) (sa_cons (se_var 15) sa_nil)) sa_nil))) (se_var 17)) (sw_or1 (st_cmp (ne_sound (unR c.ro)) (se_var 15) (se_var 16))))))
      (sss_one (ss_ret' se_bl))
      sss_nil)
      (sss_one (ss_if (st_cmp (ne_sound (unR c.ro)) (se_cmp isN_sound (se_var 17) se_non) (se_cmp (eq_sound (unR c.ro)) (se_lc false rfl nd (si_seq (se_var 15)) (own := [("_law_goal", 20)]) (blkOk_by (by first | decide +kernel | kernel_rfl)) rfl (fun _ _ _ _ _ => (sgc_name nd (i := 20) rfl (by first | exact .inl rfl | exact .inr rfl) (by decide))) (fun _ _ _ _ _ => (spt_one (st_cmp inT_sound (se_var 20) (se_var 14)))) (fun _ _ _ _ _ => (se_var 20))) (se_lv sa_nil)))
      (sss_one (ss_ret' se_bl))
      sss_nil))))))))
      (sss_one (ss_ret' (se_cmp (eq_sound (unR c.ro)) (sc_meth (C := 3) ⟨c.co, c.ro⟩ tk fx.i_Deeds_text_deed fx.me_Deeds_text_deed fx.c_Deeds rfl (nmL_new (by decide +kernel) (by decide +kernel)) (se_var 2) (sa_cons se_str sa_nil)) (se_tupR rfl rfl fx.f_tuple rfl fx.f_range (se_var 4))))))))))))))
theorem b__law_right (fx : Fx K mg fd) : BodyOk P w K mg base (ct K) (fns K fd) ⟨He.fAd K d__law_right.at_, fd 26, ["_law_source_here", "_law_moves_here", "_law_lot_here"]⟩ ⟨3, 21, false, m__law_right⟩ :=
  ⟨_, "_law_right", _, _, _, _, _, N__law_right, fx.D__law_right, sc__law_right, rfl, rfl, by decide, fun call n co cdv A outer s H E hr => t__law_right fx call n cdv A outer s H E ⟨co, hr⟩⟩
abbrev N_law : List Str := ["_law_script", "_law_source_here", "_law_held", "_law_turn", "_law_states", "_law_letters", "_law_moves_here", "_law_ends", "_law_watcher", "_law_lot_here", "_law_number"]
theorem sc_law : FnScope N_law ["_law_script"] (defScope s_law) := ⟨by kernel_rfl, by kernel_rfl, by kernel_rfl, by decide +kernel, rfl, by decide +kernel, by decide +kernel⟩
theorem t_law (fx : Fx K mg fd) (call : CallT) (n : Nat) (cdv : Value) (A : Around) (outer : List Env) (s : Shared) (H : Hp) (E : XK) (c : Cq (cxOf (L2.CX P w) P w K mg base N_law "law" (defScope s_law) (He.fAd K d_law.at_) cdv A outer s H E) (ct K) (fns K fd) call n) :
    SSs (cxOf (L2.CX P w) P w K mg base N_law "law" (defScope s_law) (He.fAd K d_law.at_) cdv A outer s H E) (ct K) (fun c d _ H' => E c d H') (defBody s_law) (m_law call) := by
  have tk : Takes (cxOf (L2.CX P w) P w K mg base N_law "law" (defScope s_law) (He.fAd K d_law.at_) cdv A outer s H E) (fun cls d _ H' => E cls d H') := takes_of rfl rfl rfl rfl
  have nd := sc_law.nd
  have po : PassesOwn (model P w) (cxOf (L2.CX P w) P w K mg base N_law "law" (defScope s_law) (He.fAd K d_law.at_) cdv A outer s H E).A (cxOf (L2.CX P w) P w K mg base N_law "law" (defScope s_law) (He.fAd K d_law.at_) cdv A outer s H E).env (cxOf (L2.CX P w) P w K mg base N_law "law" (defScope s_law) (He.fAd K d_law.at_) cdv A outer s H E).xe := passes_of rfl
  exact (sss_cons (ss_set nd (i := 1) rfl (by first | exact .inl rfl | exact .inr rfl) (sc_call ⟨c.co, c.ro⟩ tk fx.i__law_source fx.g__law_source rfl rfl (sa_cons (se_var 0) sa_nil)))
      (sss_cons (ss_set nd (i := 2) rfl (by first | exact .inl rfl | exact .inr rfl) (se_lst sa_nil))
      (sss_cons (ss_for po rfl (si_rng1 rfl fx.f_range (sa_cons se_int sa_nil)) (sg_name nd (i := 3) rfl (by first | exact .inl rfl | exact .inr rfl))
      (sss_cons (ss_asg (se_tup (sa_cons (se_bin add_sound se_int (sc_call ⟨c.co, c.ro⟩ tk fx.i__law_take fx.g__law_take rfl rfl (sa_cons (se_var 1) (sa_cons se_int sa_nil)))) (sa_cons (se_bin add_sound se_int (sc_call ⟨c.co, c.ro⟩ tk fx.i__law_take fx.g__law_take rfl rfl (sa_cons (se_var 1) (sa_cons se_int sa_nil)))) sa_nil))) (sg_tup rfl (sgs_cons (sg_name nd (i := 4) rfl (by first | exact .inl rfl | exact .inr rfl)) (sgs_cons (sg_name nd (i := 5) rfl (by first | exact .inl rfl | exact .inr rfl)) sgs_nil))))
      (sss_cons (ss_set nd (i := 6) rfl (by first | exact .inl rfl | exact .inr rfl) (sc_call ⟨c.co, c.ro⟩ tk fx.i__law_moves fx.g__law_moves rfl rfl (sa_cons (se_var 1) (sa_cons (se_var 4) (sa_cons (se_var 5) sa_nil)))))
      (sss_cons (ss_set nd (i := 7) rfl (by first | exact .inl rfl | exact .inr rfl) (se_callTy tuple_sound rfl fx.f_tuple (by decide +kernel) (sa_cons (se_lc false rfl nd (si_rng1 rfl fx.f_range (sa_cons (sc_call ⟨c.co, c.ro⟩ tk fx.i__law_take fx.g__law_take rfl rfl (sa_cons (se_var 1) (sa_cons se_int sa_nil))) sa_nil)) (own := [("_law_number", 10)]) (blkOk_by (by first | decide +kernel | kernel_rfl)) rfl (fun _ _ _ _ _ => (sgc_name nd (i := 10) rfl (by first | exact .inl rfl | exact .inr rfl) (by decide))) (fun _ _ _ _ _ => spt_nil) (fun _ _ _ _ _ => (sc_call ⟨c.co, c.ro⟩ takesW fx.i__law_goals fx.g__law_goals rfl rfl (sa_cons (se_var 1) (sa_cons (se_var 4) sa_nil))))) sa_nil)))
      (sss_cons (ss_set nd (i := 8) rfl (by first | exact .inl rfl | exact .inr rfl) (sc_make ⟨c.co, c.ro⟩ tk fx.i_Watcher__init_ fx.m_Watcher fx.g_Watcher rfl rfl (sa_cons (se_var 5) (sa_cons (se_var 6) (sa_cons (se_var 7) sa_nil)))))
      (sss_cons (ss_set nd (i := 9) rfl (by first | exact .inl rfl | exact .inr rfl) (sc_call ⟨c.co, c.ro⟩ tk fx.i__law_lot fx.g__law_lot rfl rfl (sa_cons (se_var 8) sa_nil)))
      (sss_cons (ss_if (st_cmp (ne_sound (unR c.ro)) (se_cmp isN_sound (se_var 9) se_non) (se_cmp gt_sound (se_callB len_sound rfl fx.f_len (by decide +kernel) (sa_cons (sc_call ⟨c.co, c.ro⟩ tk fx.i__law_table fx.g__law_table rfl rfl (sa_cons (se_var 6) sa_nil)) sa_nil)) se_int))
      (sss_one (ss_ret' se_bl))
      sss_nil)
      (sss_one (ss_if (st_cmp notN_sound (se_var 9) se_non)
      (sss_cons (ss_expr (se_append (se_var 2) (sa_cons (se_tup (sa_cons (se_var 6) (sa_cons (se_var 9) sa_nil))) sa_nil)))
      (sss_cons (ss_if (st_not (st_bool (sw_and (st_cmp (eqoE_sound c.co (eqt fx) c.ro) (se_fld (ok := ok_watcher) (k := 0) (se_var 9) rfl (hok_watcher fx)) (se_var 8)) (sw_and1 (st_cmp (eqoE_sound c.co (eqt fx) c.ro) (se_var 9) (sc_call ⟨c.co, c.ro⟩ tk fx.i_deeds_of fx.g_deeds_of rfl rfl (sa_cons (sc_make ⟨c.co, c.ro⟩ tk fx.i_Watcher__init_ fx.m_Watcher fx.g_Watcher rfl rfl (sa_cons (se_var 5) (sa_cons (se_var 6) (sa_cons (se_var 7) sa_nil)))) sa_nil)))))))
      (sss_one (ss_ret' se_bl))
      sss_nil)
      (sss_one (ss_if (st_bool (sw_or (st_not (st_cmp (eqoE_sound c.co (eqt fx) c.ro) (se_var 9) (sc_make ⟨c.co, c.ro⟩ tk fx.i_Deeds__init_ fx.m_Deeds fx.g_Deeds rfl rfl (sa_cons (se_var 8) (sa_cons (se_callTy tuple_sound rfl fx.f_tuple (by decide +kernel) (sa_cons (se_callB (sorted_sound c.ro) rfl fx.f_sorted (by decide +kernel) (sa_cons (sc_call ⟨c.co, c.ro⟩ tk fx.i__law_table fx.g__law_table rfl rfl (sa_cons (se_var 6) sa_nil)) sa_nil)) sa_nil)) sa_nil))))) (sw_or1 (st_cmp (eqoE_sound c.co (eqt fx) c.ro) (se_var 9) (sc_make ⟨c.co, c.ro⟩ tk fx.i_Deeds__init_ fx.m_Deeds fx.g_Deeds rfl rfl (sa_cons (se_var 8) (sa_cons (se_slice (se_fld (ok := ok_table) (k := 1) (se_var 9) rfl (hok_table fx)) (so_some se_int) so_none) sa_nil)))))))
      (sss_one (ss_ret' se_bl))
      sss_nil))))
      sss_nil)))))))))
      (sss_frz (i := 2) (sss_cons (ss_for po rfl (si_seq (se_var 2)) (sg_tup rfl (sgs_cons (sg_name nd (i := 6) rfl (by first | exact .inl rfl | exact .inr rfl)) (sgs_cons (sg_name nd (i := 9) rfl (by first | exact .inl rfl | exact .inr rfl)) sgs_nil)))
      (sss_one (ss_if (st_not (st_truth (sc_call ⟨c.co, c.ro⟩ tk fx.i__law_right fx.g__law_right rfl rfl (sa_cons (se_var 1) (sa_cons (se_var 6) (sa_cons (se_var 9) sa_nil))))))
      (sss_one (ss_ret' se_bl))
      sss_nil)))
      (sss_one (ss_ret' se_bl)))))))
theorem b_law (fx : Fx K mg fd) : BodyOk P w K mg base (ct K) (fns K fd) ⟨He.fAd K d_law.at_, fd 27, ["_law_script"]⟩ ⟨1, 11, false, m_law⟩ :=
  ⟨_, "law", _, _, _, _, _, N_law, fx.D_law, sc_law, rfl, rfl, by decide, fun call n co cdv A outer s H E hr => t_law fx call n cdv A outer s H E ⟨co, hr⟩⟩
theorem bodies (fx : Fx K mg fd) (i : Nat) (F : Fn) (md : MDef) (hF : (fns K fd)[i]? = some F) (hd : defs[i]? = some md) : BodyOk P w K mg base (ct K) (fns K fd) F md := by
  match i, hF, hd with
  | 0, hF, hd => cases hF; cases hd; exact b_alphabet_of fx
  | 1, hF, hd => cases hF; cases hd; exact b_Deeds__init_ fx
  | 2, hF, hd => cases hF; cases hd; exact b_Deeds__eq_ fx
  | 3, hF, hd => cases hF; cases hd; exact b_Deeds_letter_deed fx
  | 4, hF, hd => cases hF; cases hd; exact b_Deeds_text_deed fx
  | 5, hF, hd => cases hF; cases hd; exact b_Deeds_text_of fx
  | 6, hF, hd => cases hF; cases hd; exact b_Deeds_reached_from fx
  | 7, hF, hd => cases hF; cases hd; exact b_Deeds_path_text fx
  | 8, hF, hd => cases hF; cases hd; exact b_deed_after fx
  | 9, hF, hd => cases hF; cases hd; exact b_deeds_of fx
  | 10, hF, hd => cases hF; cases hd; exact b_Watcher__init_ fx
  | 11, hF, hd => cases hF; cases hd; exact b_Watcher__eq_ fx
  | 12, hF, hd => cases hF; cases hd; exact b_Watcher_state_after fx
  | 13, hF, hd => cases hF; cases hd; exact b__law_source fx
  | 14, hF, hd => cases hF; cases hd; exact b__law_take fx
  | 15, hF, hd => cases hF; cases hd; exact b__law_pick fx
  | 16, hF, hd => cases hF; cases hd; exact b__law_drawn_text fx
  | 17, hF, hd => cases hF; cases hd; exact b__law_after fx
  | 18, hF, hd => cases hF; cases hd; exact b__law_walks fx
  | 19, hF, hd => cases hF; cases hd; exact b__law_deed fx
  | 20, hF, hd => cases hF; cases hd; exact b__law_chain fx
  | 21, hF, hd => cases hF; cases hd; exact b__law_table fx
  | 22, hF, hd => cases hF; cases hd; exact b__law_moves fx
  | 23, hF, hd => cases hF; cases hd; exact b__law_goals fx
  | 24, hF, hd => cases hF; cases hd; exact b__law_lot fx
  | 25, hF, hd => cases hF; cases hd; exact b__law_path fx
  | 26, hF, hd => cases hF; cases hd; exact b__law_right fx
  | 27, hF, hd => cases hF; cases hd; exact b_law fx
  | _ + 28, hF, _ => simp at hF
theorem all (fx : Fx K mg fd) (n : Nat) : CallOk P w K mg base (ct K) (fns K fd) (callF defs n) n := all_ok rfl (bodies fx) n
end
end K12

namespace K12
open PySem PySem.Spec L2 Mi
/-! printed by head.py: the head -/
def fuel : Nat := 20
theorem close (hlaw : ∀ ns : List Int, ns.length ≤ 63 → ∃ h, callF defs fuel 27 [.d (.scr (ns.map D.int))] [] = .ok (.d (.bl true)) h) : PySem.Challenge.rw_pressedwords_k12_whole_deeds_closed_with.Holds := by
  open PySem.W PySem.Calls PyProof.Rows in
  w_on; o_law
  refine HandSHeadRun.head_any (r := R) (q := PySem.W.view R.prog [29]) (H := hk) (ob := ob) (M := 15000) (loose := ((["_wall", "PressError", "BadLetters", "TooMany", "alphabet_of", "MOST_DEEDS", "Deeds", "deed_after", "deeds_of", "Watcher", "_law_source", "_law_take", "_law_pick", "_law_drawn_text", "_law_after", "_law_walks", "_law_deed", "_law_chain", "_law_table", "_law_moves"] : List Str) ++ (["_law_goals", "_law_lot", "_law_path", "_law_right"] : List Str))) (d := HandSHeadRun.topDef R.prog 29) (kwd := []) ob_eq
    (by kernel_rfl) (fun s => by kernel_rfl) run (by kernel_rfl) (by kernel_rfl) (by kernel_rfl) (by rfl) (by first | assumption | decide +kernel) (by decide +kernel) ⟨rfl, rfl, rfl, rfl, rfl, by decide +kernel⟩ ?hw ?hc
  case hw => w_witness2
  case hc =>
    refine walk_law (l := PySem.Challenge.rw_pressedwords_k12_whole_deeds_closed_with) (n := 63) (k := 2 * fuel + 1) (x := "_law_script") (CX := L2.CX0) rfl (by decide) (by kernel_rfl) ⟨⟨rfl, by decide, by decide⟩, rfl⟩ ?F (fun _ _ _ _ z => z)
    intro w mg fa h Y G hmg0
    obtain ⟨K, KX, c⟩ := Y
    have hmg : mg ("law" : PySem.Str) = some (.ref fa) := by
      have e : (HandSHeadRun.topDef R.prog 29).name = ("law" : PySem.Str) := by kernel_rfl
      rw [← e]
      exact hmg0
    have ex : ∀ i : Nat, ∃ f : FuncData, ∀ d : He.DefD, fn[i]? = some d → FunD K d.name d.qual d.params d.body d.scope (d.dvs K) (d.kws K) (He.fAd K d.at_) f := fun i => by
      cases q : fn[i]? with
      | none => exact ⟨⟨"", "", ⟨[], [], none, [], [], none, []⟩, .stmts [], ⟨.function, [], false, false, []⟩, 0, [], .none, .none, .none, .none, none, .none, .none, 0⟩, fun d z => nomatch z⟩
      | some d =>
        obtain ⟨f, z⟩ := c.d.def_ i q
        exact ⟨f, fun d' z' => by cases z'; exact z⟩
    have fx := fx_of (fd := fun i => (ex i).choose) KX G c fun i => (ex i).choose_spec
    have e := hmg.symm.trans fx.g_law
    cases e
    refine ⟨K, _, fun vs H Q _ => spC K (ct K) (callF defs fuel) 27 vs H Q fun _ _ _ => False, KX, fun s u => fx.D_law.bindsA (ps := ["_law_script"]) (fun _ _ _ _ _ _ us hl => match us, hl with | [_], _ => rfl) s [u] rfl, fun H a ns hl hO hS => law_sp (ct := ct K) hlaw H a ns hl hO hS, fun base hK hG => ?_⟩
    exact FnOk.still ((Mi.CallOk.ok (all (P := (PySem.Challenge.rw_pressedwords_k12_whole_deeds_closed_with).prog) (w := w) (base := base) fx fuel)) 27 _ rfl)
end K12

namespace K12
/-! ### orders of lists -/
def lexB {α : Type} [DecidableEq α] (lt : α → α → Bool) : List α → List α → Bool
  | [], [] => false
  | [], _ :: _ => true
  | _ :: _, [] => false
  | a :: as, b :: bs => if a = b then lexB lt as bs else lt a b
structure STO {α : Type} (lt : α → α → Bool) : Prop where
  irr : ∀ a, lt a a = false
  tr : ∀ a b c, lt a b = true → lt b c = true → lt a c = true
  tot : ∀ a b, a ≠ b → lt a b = true ∨ lt b a = true
section
variable {α : Type} [DecidableEq α] {lt : α → α → Bool}
theorem lex_irr : ∀ a : List α, lexB lt a a = false
  | [] => rfl
  | a :: as => by unfold lexB; rw [if_pos rfl]; exact lex_irr as
theorem STO.asym (s : STO lt) {a b : α} (h : lt a b = true) : lt b a = false := by
  cases q : lt b a with
  | false => rfl
  | true => have := s.tr _ _ _ h q; rw [s.irr] at this; cases this
theorem lex_tr (s : STO lt) : ∀ a b c : List α, lexB lt a b = true → lexB lt b c = true → lexB lt a c = true
  | [], [], _, h, _ => by cases h
  | [], _ :: _, [], _, h => by cases h
  | [], _ :: _, _ :: _, _, _ => rfl
  | _ :: _, [], _, h, _ => by cases h
  | _ :: _, _ :: _, [], _, h => by cases h
  | a :: as, b :: bs, c :: cs, h1, h2 => by
    unfold lexB at h1 h2 ⊢
    by_cases e1 : a = b
    · subst e1
      rw [if_pos rfl] at h1
      by_cases e2 : a = c
      · subst e2
        rw [if_pos rfl] at h2 ⊢
        exact lex_tr s as bs cs h1 h2
      · rw [if_neg e2] at h2 ⊢
        exact h2
    · rw [if_neg e1] at h1
      by_cases e2 : b = c
      · subst e2
        rw [if_neg e1]
        exact h1
      · rw [if_neg e2] at h2
        have := s.tr _ _ _ h1 h2
        by_cases e3 : a = c
        · subst e3
          rw [s.irr] at this
          cases this
        · rw [if_neg e3]
          exact this
theorem lex_tot (s : STO lt) : ∀ a b : List α, a ≠ b → lexB lt a b = true ∨ lexB lt b a = true
  | [], [], h => absurd rfl h
  | [], _ :: _, _ => .inl rfl
  | _ :: _, [], _ => .inr rfl
  | a :: as, b :: bs, h => by
    unfold lexB
    by_cases e : a = b
    · subst e
      rw [if_pos rfl, if_pos rfl]
      exact lex_tot s as bs fun q => h (by rw [q])
    · rw [if_neg e, if_neg (Ne.symm e)]
      exact s.tot a b e
theorem lex_sto (s : STO lt) : STO (lexB lt) := ⟨lex_irr, lex_tr s, lex_tot s⟩
theorem lex_app : ∀ (a b x y : List α), a.length = b.length → lexB lt a b = true → lexB lt (a ++ x) (b ++ y) = true
  | [], [], _, _, _, h => by cases h
  | [], _ :: _, _, _, h, _ => by cases h
  | _ :: _, [], _, _, h, _ => by cases h
  | a :: as, b :: bs, x, y, hl, h => by
    rw [List.cons_append, List.cons_append]
    unfold lexB at h ⊢
    by_cases e : a = b
    · rw [if_pos e] at h ⊢
      exact lex_app as bs x y (by simpa using hl) h
    · rw [if_neg e] at h ⊢
      exact h
theorem lex_pre : ∀ (a x y : List α), lexB lt x y = true → lexB lt (a ++ x) (a ++ y) = true
  | [], _, _, h => h
  | a :: as, x, y, h => by
    rw [List.cons_append, List.cons_append]
    unfold lexB
    rw [if_pos rfl]
    exact lex_pre as x y h
end
def ltN (a b : Nat) : Bool := decide (a < b)
theorem sto_nat : STO ltN := ⟨fun a => by unfold ltN; exact decide_eq_false (by omega), fun a b c h1 h2 => by
  unfold ltN at *
  have := of_decide_eq_true h1
  have := of_decide_eq_true h2
  exact decide_eq_true (by omega), fun a b h => by
  unfold ltN
  rcases (by omega : a < b ∨ b < a) with q | q
  · exact .inl (decide_eq_true q)
  · exact .inr (decide_eq_true q)⟩
abbrev Wd := List Nat
abbrev ltW : Wd → Wd → Bool := lexB ltN
theorem sto_word : STO ltW := lex_sto sto_nat
/-- the shorter first, then by letters -/
def sl (w u : Wd) : Bool := decide (w.length < u.length) || (decide (w.length = u.length) && ltW w u)
theorem sl_iff {w u : Wd} : sl w u = true ↔ (w.length < u.length ∨ (w.length = u.length ∧ ltW w u = true)) := by
  unfold sl
  simp
theorem sl_irr (a : Wd) : sl a a = false := by
  cases q : sl a a with
  | false => rfl
  | true =>
    rcases sl_iff.mp q with h | ⟨_, h⟩
    · omega
    · rw [sto_word.irr] at h; cases h
theorem sl_tr (a b c : Wd) (h1 : sl a b = true) (h2 : sl b c = true) : sl a c = true := by
  rw [sl_iff] at *
  rcases h1 with h1 | ⟨e1, h1⟩ <;> rcases h2 with h2 | ⟨e2, h2⟩
  · exact .inl (by omega)
  · exact .inl (by omega)
  · exact .inl (by omega)
  · exact .inr ⟨by omega, sto_word.tr _ _ _ h1 h2⟩
theorem sl_tot (a b : Wd) (h : a ≠ b) : sl a b = true ∨ sl b a = true := by
  rw [sl_iff, sl_iff]
  rcases (by omega : a.length < b.length ∨ b.length < a.length ∨ a.length = b.length) with q | q | q
  · exact .inl (.inl q)
  · exact .inr (.inl q)
  · rcases sto_word.tot a b h with z | z
    · exact .inl (.inr ⟨q, z⟩)
    · exact .inr (.inr ⟨q.symm, z⟩)
theorem sto_sl : STO sl := ⟨sl_irr, sl_tr, sl_tot⟩
theorem sl_app {w u : Wd} (g f : Nat) (h : sl w u = true) : sl (w ++ [g]) (u ++ [f]) = true := by
  rw [sl_iff] at *
  simp only [List.length_append, List.length_singleton]
  rcases h with h | ⟨e, h⟩
  · exact .inl (by omega)
  · exact .inr ⟨by omega, lex_app _ _ _ _ e h⟩
theorem sl_snoc {w : Wd} {g f : Nat} (h : g < f) : sl (w ++ [g]) (w ++ [f]) = true := by
  rw [sl_iff]
  refine .inr ⟨by simp, lex_pre w _ _ ?_⟩
  unfold lexB
  rw [if_neg (by omega)]
  exact decide_eq_true h
theorem sl_cons {w u : Wd} (g : Nat) : sl (g :: w) (g :: u) = sl w u := by
  unfold sl
  simp only [List.length_cons]
  have e : ltW (g :: w) (g :: u) = ltW w u := by
    show lexB ltN _ _ = _
    rw [lexB, if_pos rfl]
  rw [e]
  congr 1
  · exact decide_eq_decide.mpr (by omega)
  · congr 1
    exact decide_eq_decide.mpr (by omega)
/-- at most -/
def sle (w u : Wd) : Prop := w = u ∨ sl w u = true
theorem sle.tr {a b c : Wd} (h1 : sle a b) (h2 : sle b c) : sle a c := by
  rcases h1 with rfl | h1
  · exact h2
  · rcases h2 with rfl | h2
    · exact .inr h1
    · exact .inr (sto_sl.tr _ _ _ h1 h2)
theorem sle.anti {a b : Wd} (h1 : sle a b) (h2 : sle b a) : a = b := by
  rcases h1 with h | h1
  · exact h
  · rcases h2 with h | h2
    · exact h.symm
    · rw [sto_sl.asym h1] at h2; cases h2
theorem sle.app {w u : Wd} (g : Nat) (h : sle w u) : sle (w ++ [g]) (u ++ [g]) := by
  rcases h with rfl | h
  · exact .inl rfl
  · exact .inr (sl_app g g h)
theorem sle_cons {w u : Wd} (g : Nat) (h : sle w u) : sle (g :: w) (g :: u) := by
  rcases h with rfl | h
  · exact .inl rfl
  · exact .inr (by rw [sl_cons]; exact h)
theorem sle_of_not {w u : Wd} (h : sl u w = false) : sle w u := by
  by_cases e : w = u
  · exact .inl e
  · rcases sl_tot w u e with q | q
    · exact .inr q
    · rw [q] at h; cases h
/-! ### the search in breadth -/
structure Mach (S : Type) where
  st : S
  nx : S → Nat → S
  k : Nat
section
variable {S : Type} [DecidableEq S]
def Mach.run (M : Mach S) (w : Wd) : S := w.foldl M.nx M.st
theorem run_snoc (M : Mach S) (w : Wd) (a : Nat) : M.run (w ++ [a]) = M.nx (M.run w) a := by
  unfold Mach.run
  rw [List.foldl_append]; rfl
def stepW (M : Mach S) (e : S × Wd) (T : List (S × Wd)) (a : Nat) : List (S × Wd) := if M.nx e.1 a ∈ T.map (·.1) then T else T ++ [(M.nx e.1 a, e.2 ++ [a])]
def nextW (M : Mach S) (e : S × Wd) (T : List (S × Wd)) : List (S × Wd) := (List.range M.k).foldl (stepW M e) T
def W (M : Mach S) : Nat → List (S × Wd)
  | 0 => [(M.st, [])]
  | j + 1 => match (W M j)[j]? with
    | some e => nextW M e (W M j)
    | none => W M j
structure Good (M : Mach S) (T : List (S × Wd)) : Prop where
  rn : ∀ e ∈ T, M.run e.2 = e.1
  srt : T.Pairwise fun a b => sl a.2 b.2 = true
  nd : (T.map (·.1)).Nodup
  fg : ∀ e ∈ T, ∀ g ∈ e.2, g < M.k
theorem fold_good {M : Mach S} {e : S × Wd} (he : M.run e.2 = e.1) (hf : ∀ g ∈ e.2, g < M.k) : ∀ (ps : List Nat) (A : List (S × Wd)), Good M A →
    (∀ p ∈ ps, p < M.k) → ps.Pairwise (· < ·) → (∀ a ∈ A, ∀ p ∈ ps, sl a.2 (e.2 ++ [p]) = true) →
    ∃ X, ps.foldl (stepW M e) A = A ++ X ∧ (∀ x ∈ X, ∃ g, x.2 = e.2 ++ [g]) ∧ Good M (A ++ X) ∧ ∀ p ∈ ps, ∃ b ∈ A ++ X, b.1 = M.nx e.1 p ∧ sle b.2 (e.2 ++ [p])
  | [], A, G, _, _, _ => ⟨[], by simp, (fun x hx => by cases hx), by simpa using G, fun p hp => by cases hp⟩
  | p :: ps, A, G, ht, hp, lo => by
    obtain ⟨hp1, hp2⟩ := List.pairwise_cons.mp hp
    rw [List.foldl_cons]
    by_cases m : M.nx e.1 p ∈ A.map (·.1)
    · have es : stepW M e A p = A := if_pos m
      rw [es]
      obtain ⟨X, x1, x2, x3, x4⟩ := fold_good he hf ps A G (fun q hq => ht q (List.mem_cons_of_mem _ hq)) hp2 fun a ha q hq => lo a ha q (List.mem_cons_of_mem _ hq)
      refine ⟨X, x1, x2, x3, fun q hq => ?_⟩
      rcases List.mem_cons.mp hq with rfl | hq
      · obtain ⟨a, ha, e1⟩ := List.mem_map.mp m
        exact ⟨a, List.mem_append_left _ ha, e1, .inr (lo a ha q List.mem_cons_self)⟩
      · exact x4 q hq
    · have es : stepW M e A p = A ++ [(M.nx e.1 p, e.2 ++ [p])] := if_neg m
      rw [es]
      have G' : Good M (A ++ [(M.nx e.1 p, e.2 ++ [p])]) := by
        refine ⟨fun a ha => ?_, ?_, ?_, fun a ha => ?_⟩
        · rcases List.mem_append.mp ha with ha | ha
          · exact G.rn a ha
          · have := List.mem_singleton.mp ha
            subst this
            dsimp only
            rw [run_snoc, he]
        · refine List.pairwise_append.mpr ⟨G.srt, List.pairwise_singleton _ _, fun a ha b hb => ?_⟩
          have := List.mem_singleton.mp hb
          subst this
          exact lo a ha p List.mem_cons_self
        · rw [List.map_append, List.map_cons, List.map_nil]
          refine List.nodup_append.mpr ⟨G.nd, by simp, fun a ha b hb q => ?_⟩
          have := List.mem_singleton.mp hb
          subst this
          subst q
          exact m ha
        · rcases List.mem_append.mp ha with ha | ha
          · exact G.fg a ha
          · have := List.mem_singleton.mp ha
            subst this
            intro g hg
            rcases List.mem_append.mp hg with hg | hg
            · exact hf g hg
            · have := List.mem_singleton.mp hg
              subst this
              exact ht _ List.mem_cons_self
      obtain ⟨X, x1, x2, x3, x4⟩ := fold_good he hf ps _ G' (fun q hq => ht q (List.mem_cons_of_mem _ hq)) hp2 fun a ha q hq => by
        rcases List.mem_append.mp ha with ha | ha
        · exact lo a ha q (List.mem_cons_of_mem _ hq)
        · have := List.mem_singleton.mp ha
          subst this
          exact sl_snoc (hp1 q hq)
      rw [List.append_assoc] at x1 x3 x4
      refine ⟨[(M.nx e.1 p, e.2 ++ [p])] ++ X, x1, fun x hx => ?_, x3, fun q hq => ?_⟩
      · rcases List.mem_append.mp hx with hx | hx
        · have := List.mem_singleton.mp hx
          subst this
          exact ⟨_, rfl⟩
        · exact x2 x hx
      · rcases List.mem_cons.mp hq with rfl | hq
        · exact ⟨(M.nx e.1 q, e.2 ++ [q]), by simp, rfl, .inl rfl⟩
        · exact x4 q hq
structure Inv (M : Mach S) (j : Nat) (T : List (S × Wd)) : Prop where
  g : Good M T
  st : T[0]? = some (M.st, [])
  fr : ∀ e ∈ T, e.2 = [] ∨ ∃ (k : Nat) (e' : S × Wd) (f : Nat), k < j ∧ T[k]? = some e' ∧ e.2 = e'.2 ++ [f]
  cl : ∀ k, k < j → ∀ e, T[k]? = some e → ∀ p, p < M.k → ∃ e' ∈ T, e'.1 = M.nx e.1 p ∧ sle e'.2 (e.2 ++ [p])
  ln : ∀ e ∈ T, e.2.length ≤ j
theorem W_inv (M : Mach S) : ∀ j, Inv M j (W M j)
  | 0 => ⟨⟨fun e he => by
      have := List.mem_singleton.mp he
      subst this; rfl, List.pairwise_singleton _ _, by simp [W], fun e he => by
      have := List.mem_singleton.mp he
      subst this
      intro g hg; cases hg⟩, rfl, fun e he => by
      have := List.mem_singleton.mp he
      subst this; exact .inl rfl, fun k hk => absurd hk (by omega), fun e he => by
      have := List.mem_singleton.mp he
      subst this; exact Nat.le_refl _⟩
  | j + 1 => by
    have I := W_inv M j
    unfold W
    split
    · rename_i e he
      obtain ⟨hj, hje⟩ := List.getElem?_eq_some_iff.mp he
      have hm := List.mem_of_getElem? he
      generalize W M j = T at *
      obtain ⟨X, x1, x2, x3, x4⟩ := fold_good (I.g.rn e hm) (I.g.fg e hm) (List.range M.k) T I.g (fun p hp => List.mem_range.mp hp) List.pairwise_lt_range fun a ha p hp => by
        rcases I.fr a ha with h | ⟨k, e', f, hk, h1, h2⟩
        · rw [h]
          exact sl_iff.mpr (.inl (by simp))
        · rw [h2]
          refine sl_app f p ?_
          obtain ⟨hk1, hk2⟩ := List.getElem?_eq_some_iff.mp h1
          have := List.pairwise_iff_getElem.mp I.g.srt k j hk1 hj hk
          rw [hk2, hje] at this
          exact this
      unfold nextW
      rw [x1]
      have gt : ∀ k, k < j + 1 → (T ++ X)[k]? = T[k]? := fun k hk => List.getElem?_append_left (by omega)
      refine ⟨x3, by rw [gt 0 (by omega)]; exact I.st, fun a ha => ?_, fun k hk a ha p hp => ?_, fun a ha => ?_⟩
      · rcases List.mem_append.mp ha with ha | ha
        · rcases I.fr a ha with h | ⟨k, e', f, hk, h1, h2⟩
          · exact .inl h
          · exact .inr ⟨k, e', f, by omega, by rw [gt k (by omega)]; exact h1, h2⟩
        · obtain ⟨g, hg⟩ := x2 a ha
          exact .inr ⟨j, e, g, by omega, by rw [gt j (by omega)]; exact he, hg⟩
      · rw [gt k hk] at ha
        rcases (by omega : k < j ∨ k = j) with h | rfl
        · obtain ⟨e', m', q⟩ := I.cl k h a ha p hp
          exact ⟨e', List.mem_append_left _ m', q⟩
        · rw [he] at ha
          cases ha
          exact x4 p (List.mem_range.mpr hp)
      · rcases List.mem_append.mp ha with ha | ha
        · have := I.ln a ha; omega
        · obtain ⟨g, hg⟩ := x2 a ha
          have := I.ln e hm
          rw [hg, List.length_append, List.length_singleton]
          omega
    · rename_i hn
      have hl : (W M j).length ≤ j := by simpa using hn
      refine ⟨I.g, I.st, fun a ha => ?_, fun k hk a ha p hp => ?_, fun a ha => ?_⟩
      · rcases I.fr a ha with h | ⟨k, e', f, hk, h1, h2⟩
        · exact .inl h
        · exact .inr ⟨k, e', f, by omega, h1, h2⟩
      · have := (List.getElem?_eq_some_iff.mp ha).1
        exact I.cl k (by omega) a ha p hp
      · have := I.ln a ha; omega
/-- every state that a word leads to is found, by a word that comes no later -/
theorem reach_all {M : Mach S} {j : Nat} {T : List (S × Wd)} (I : Inv M j T) (hj : T.length ≤ j) : ∀ (n : Nat) (u : Wd), u.length = n → (∀ g ∈ u, g < M.k) → ∃ e ∈ T, e.1 = M.run u ∧ sle e.2 u
  | 0, u, hn, _ => by
    have : u = [] := List.length_eq_zero_iff.mp hn
    subst this
    exact ⟨_, List.mem_of_getElem? I.st, rfl, .inl rfl⟩
  | n + 1, u, hn, hg => by
    rcases List.eq_nil_or_concat u with rfl | ⟨u', g, rfl⟩
    · cases hn
    · rw [List.concat_eq_append] at hn hg ⊢
      obtain ⟨e, he, h1, hs⟩ := reach_all I hj n u' (by simpa using hn) (fun x hx => hg x (List.mem_append_left _ hx))
      obtain ⟨k, hk, rfl⟩ := List.mem_iff_getElem.mp he
      obtain ⟨e', m', q1, q2⟩ := I.cl k (by omega) _ (List.getElem?_eq_getElem hk) g (hg g (by simp))
      exact ⟨e', m', by rw [q1, h1, run_snoc], q2.tr (hs.app g)⟩
theorem stepW_len (M : Mach S) (e : S × Wd) (T : List (S × Wd)) (a : Nat) : T.length ≤ (stepW M e T a).length ∧ (stepW M e T a).length ≤ T.length + 1 := by
  unfold stepW
  split
  · omega
  · rw [List.length_append, List.length_singleton]; omega
theorem fold_len (M : Mach S) (e : S × Wd) : ∀ (ps : List Nat) (T : List (S × Wd)), T.length ≤ (ps.foldl (stepW M e) T).length ∧ (ps.foldl (stepW M e) T).length ≤ T.length + ps.length
  | [], T => ⟨Nat.le_refl _, Nat.le_refl _⟩
  | a :: ps, T => by
    have h1 := stepW_len M e T a
    have h2 := fold_len M e ps (stepW M e T a)
    rw [List.foldl_cons, List.length_cons]
    omega
theorem W_succ {M : Mach S} {j : Nat} {e : S × Wd} (h : (W M j)[j]? = some e) : W M (j + 1) = nextW M e (W M j) := by
  rw [W, h]
theorem W_len (M : Mach S) (j : Nat) : (W M j).length ≤ (W M (j + 1)).length ∧ (W M (j + 1)).length ≤ (W M j).length + M.k := by
  cases q : (W M j)[j]? with
  | none => rw [W, q]; exact ⟨Nat.le_refl _, Nat.le_add_right _ _⟩
  | some e =>
    rw [W_succ q]
    have := fold_len M e (List.range M.k) (W M j)
    rw [List.length_range] at this
    exact this
/-- where the search stops: all is closed, or there are more than B -/
theorem stops (M : Mach S) (B : Nat) : ∃ j, j ≤ B ∧ (∀ i, i < j → i < (W M i).length ∧ (W M i).length ≤ B) ∧ (((W M j).length = j ∧ j ≤ B) ∨ B < (W M j).length) := by
  have key : ∀ m, (∃ j, j ≤ m ∧ (∀ i, i < j → i < (W M i).length ∧ (W M i).length ≤ B) ∧ (((W M j).length = j ∧ j ≤ B) ∨ B < (W M j).length)) ∨ ∀ i, i ≤ m → i < (W M i).length ∧ (W M i).length ≤ B := by
    intro m
    induction m with
    | zero =>
      by_cases c : B < (W M 0).length
      · exact .inl ⟨0, Nat.le_refl _, fun i hi => absurd hi (Nat.not_lt_zero i), .inr c⟩
      · refine .inr fun i hi => ?_
        have : i = 0 := by omega
        subst this
        exact ⟨by simp [W], by omega⟩
    | succ m ih =>
      rcases ih with ⟨j, a, b, c⟩ | ih
      · exact .inl ⟨j, by omega, b, c⟩
      · by_cases c : B < (W M (m + 1)).length
        · exact .inl ⟨m + 1, Nat.le_refl _, fun i hi => ih i (by omega), .inr c⟩
        · have h0 := ih m (Nat.le_refl _)
          have h1 := (W_len M m).1
          by_cases d : (W M (m + 1)).length = m + 1
          · exact .inl ⟨m + 1, Nat.le_refl _, fun i hi => ih i (by omega), .inl ⟨d, by omega⟩⟩
          · refine .inr fun i hi => ?_
            rcases (by omega : i ≤ m ∨ i = m + 1) with q | rfl
            · exact ih i q
            · omega
  rcases key B with ⟨j, a, b, c⟩ | h
  · exact ⟨j, a, b, c⟩
  · have := h B (Nat.le_refl _)
    omega
end
end K12

namespace K12
open PySem PySem.Spec Mi
/-! ### tools -/
theorem cmpL_on {α : Type} {vs : List Nat} {g : SemG} {t : SemT} {f : SemE} {σ : Lo} {h : Hs} (m : α → D) (keep : α → Bool) (k : α → D) : ∀ (L : List α) (acc : List D), acc.length + L.length < sizeLine →
    (∀ x ∈ L, ∀ h', ∃ σ1, g (.d (m x)) (wipeL σ vs) h' = some (σ1, h') ∧ t σ1 h' = .ok (keep x) h' ∧ (keep x = true → f σ1 h' = .ok (.d (k x)) h')) →
    cmpL vs g t f h.length (L.map m) σ (h ++ [.lst acc]) = some (h ++ [.lst (acc ++ (L.filter keep).map k)])
  | [], acc, _, _ => by simp [cmpL]
  | x :: L, acc, hz, step => by
    rw [List.length_cons] at hz
    obtain ⟨σ1, e1, e2, e3⟩ := step x List.mem_cons_self (h ++ [.lst acc])
    rw [List.map_cons, cmpL, e1]
    dsimp only
    rw [e2]
    dsimp only
    cases q : keep x with
    | true =>
      rw [if_pos rfl, e3 q]
      dsimp only
      rw [cmpAdd_d (by omega)]
      dsimp only
      rw [cmpL_on m keep k L (acc ++ [k x]) (by rw [List.length_append, List.length_singleton]; omega) fun y hy => step y (List.mem_cons_of_mem _ hy)]
      simp [List.filter_cons, q]
    | false =>
      rw [if_neg Bool.false_ne_true, List.take_of_length_le (by simp), cmpL_on m keep k L acc (by omega) fun y hy => step y (List.mem_cons_of_mem _ hy)]
      simp [List.filter_cons, q]
theorem cmpL_all {α : Type} {vs : List Nat} {g : SemG} {f : SemE} {σ : Lo} {h : Hs} (m k : α → D) (L : List α) (hz : L.length < sizeLine)
    (step : ∀ x ∈ L, ∀ h', ∃ σ1, g (.d (m x)) (wipeL σ vs) h' = some (σ1, h') ∧ f σ1 h' = .ok (.d (k x)) h') : cmpL vs g tYs f h.length (L.map m) σ (h ++ [.lst []]) = some (h ++ [.lst (L.map k)]) := by
  have := cmpL_on (vs := vs) (g := g) (t := tYs) (f := f) (σ := σ) (h := h) m (fun _ => true) k L [] (by simpa using hz) fun x hx h' => let ⟨s, a, b⟩ := step x hx h'; ⟨s, a, rfl, fun _ => b⟩
  rw [this, List.filter_eq_self.mpr (fun _ _ => rfl), List.nil_append]
@[simp] theorem lc_end (h : Hs) (l : List D) : lcEnd false h.length (h ++ [.lst l]) = .ok (.d (.lv l)) h := by
  unfold lcEnd
  simp
theorem lts {a : Nat} (h : a ≤ 1000000) : a < sizeLine := Nat.lt_of_le_of_lt h (by decide)
section
variable {κ : Type} [DecidableEq κ]
theorem val_app {kvs : List (κ × D)} {k k' : κ} {v : D} : valD (kvs ++ [(k, v)]) k' = match valD kvs k' with
    | some d => some d
    | none => if k = k' then some v else none := by
  unfold valD
  rw [List.find?_append]
  cases e : kvs.find? (fun kv => decide (kv.1 = k')) with
  | some x => rfl
  | none =>
    by_cases q : k = k'
    · simp [q]
    · simp [q]
theorem val_upd {k k' : κ} {v : D} : ∀ {kvs : List (κ × D)}, valD (kvs.map fun kv => if kv.1 = k then (kv.1, v) else kv) k' = if k = k' then (valD kvs k').map (fun _ => v) else valD kvs k'
  | [] => by simp [valD]
  | (j, d) :: kvs => by
    have ih := val_upd (k := k) (k' := k') (v := v) (kvs := kvs)
    unfold valD at ih ⊢
    rw [List.map_cons, List.find?_cons, List.find?_cons]
    by_cases q : j = k
    · subst q
      by_cases q2 : j = k'
      · subst q2; simp
      · simp only [if_true, eq_self, decide_eq_false q2, if_neg q2] at ih ⊢; exact ih
    · rw [if_neg q]
      by_cases q2 : j = k'
      · subst q2
        simp [Ne.symm q]
      · simp only [decide_eq_false q2]; exact ih
theorem any_val {k : κ} : ∀ {kvs : List (κ × D)}, (kvs.any fun kv => decide (kv.1 = k)) = (valD kvs k).isSome
  | [] => rfl
  | (j, d) :: kvs => by
    have ih := any_val (k := k) (kvs := kvs)
    unfold valD at ih ⊢
    rw [List.any_cons, List.find?_cons]
    by_cases q : j = k
    · simp [q]
    · simp only [decide_eq_false q, Bool.false_or]; exact ih
theorem val_put {kvs : List (κ × D)} {k k' : κ} {v : D} : (valD (putD kvs k v) k').isSome = (decide (k = k') || (valD kvs k').isSome) := by
  unfold putD
  rw [any_val]
  by_cases h : (valD kvs k).isSome = true
  · rw [if_pos h, val_upd]
    by_cases q : k = k'
    · subst q; rw [if_pos rfl, Option.isSome_map, h]; simp
    · rw [if_neg q, decide_eq_false q]; rfl
  · rw [if_neg h, val_app]
    by_cases q : k = k'
    · subst q
      cases e : valD kvs k with
      | none => simp
      | some d => simp
    · rw [decide_eq_false q]
      cases e : valD kvs k' with
      | none => simp [q]
      | some d => simp
theorem put_len (kvs : List (κ × D)) (k : κ) (v : D) : (putD kvs k v).length ≤ kvs.length + 1 := by
  unfold putD
  split
  · rw [List.length_map]; omega
  · rw [List.length_append]; exact Nat.le_refl _
end
@[simp] theorem ap_sdp {σ : Lo} {h : Hs} (f g v : SemE) : sDp f g v σ h = sb (v σ h) σ fun y h1 => match toD y h1 with
  | none => .bad
  | some (d, h2) => sb (f σ h2) σ fun x h3 => sb (g σ h3) σ fun k h4 => match dPut x k d h4 with
    | some h5 => .ok .nx σ h5
    | none => .bad := rfl
@[simp] theorem ap_dt0 {σ : Lo} {h : Hs} : eDt0 σ h = .ok (.r h.length) (h ++ [.dt []]) := rfl
@[simp] theorem tru_lv (l : List D) (h : Hs) : truO (.d (.lv l)) h = some (!l.isEmpty) := rfl
theorem sq_go {p q : SemS} {σ σ1 : Lo} {h h1 : Hs} {r : RS} (e : p σ h = .ok .nx σ1 h1) (k : q σ1 h1 = r) : sSq p q σ h = r := by
  rw [ap_sq, e, ss_nx]
  exact k
theorem as_nx {f : SemE} {g : SemG} {σ σ' : Lo} {h h1 h2 : Hs} {x : Vl} (e : f σ h = .ok x h1) (q : g x σ h1 = some (σ', h2)) : sAs f g σ h = .ok .nx σ' h2 := by
  rw [ap_as, e]
  show (match g x σ h1 with | some (σ', h2) => RS.ok .nx σ' h2 | none => .bad) = _
  rw [q]
theorem call_ret {n i : Nat} {md : MDef} {xs : List Vl} {h h' : Hs} {d : D} {σ : Lo} (e : defs[i]? = some md) (hl : xs.length = md.np) (hk : md.keep = false) (b : md.body (callF defs n) (startL md.ns xs) h = .ok (.ret (.d d)) σ h') : callF defs (n + 1) i xs h = .ok (.d d) (h'.take h.length) := by
  rw [callF_at e hl, b, hk, fin_ret]
theorem n_lenR {k : Nat} {xs : List D} {h : Hs} (e : h[k]? = some (.lst xs)) : nLen [.r k] h = some (.d (.int xs.length), h) := by
  show (match seqOf (.r k) h with
    | some ys => some (Vl.d (.int ys.length), h)
    | none => none) = _
  simp only [seqOf, e]
/-! ### numbers, tuples of them, texts -/
def dn (s : Nat) : D := .int (s : Int)
def dT (f : List Nat) : D := .tup (f.map dn)
def dM (M : List (List Nat)) : D := .tup (M.map dT)
def tx (w : Wd) : Str := ⟨(w.map (· + 97)).toArray⟩
theorem tx_inj {w u : Wd} (h : tx w = tx u) : w = u := by
  have h' : (w.map (· + 97)).toArray = (u.map (· + 97)).toArray := congrArg Str.cps h
  have h2 : w.map (· + 97) = u.map (· + 97) := by simpa using h'
  exact (List.map_inj_right fun a b e => by omega).mp h2
theorem tx_len (w : Wd) : (tx w).length = w.length := by
  show (w.map (· + 97)).toArray.size = _
  simp
theorem tx_app (w u : Wd) : tx w ++ tx u = tx (w ++ u) := by
  show (⟨_⟩ : Str) = ⟨_⟩
  congr 1
  simp [tx]
theorem tx_nil : tx [] = ("" : Str) := by decide +kernel
theorem tx_abc : ("abc" : Str) = tx [0, 1, 2] := by decide +kernel
theorem strD_tx (w : Wd) : strD (tx w) = w.map fun a => D.str (tx [a]) := by
  unfold strD tx
  simp
theorem ad_tx (w u : Wd) (hw : w.length + u.length ≤ 1000000) (h : Hs) : oAdd (.d (.str (tx w))) (.d (.str (tx u))) h = some (.d (.str (tx (w ++ u))), h) := by
  show (if (tx w).length + (tx u).length ≤ sizeLine then some (Vl.d (.str (tx w ++ tx u)), h) else none) = _
  rw [if_pos (by rw [tx_len, tx_len]; exact Nat.le_of_lt (lts hw)), tx_app]
theorem ix_abc {a : Nat} (ha : a < 3) (h : Hs) : oIx (.d (.str "abc")) (.d (dn a)) h = some (.d (.str (tx [a])), h) := by
  show (if ("abc" : Str).length ≤ sizeLine then (L2.atI ("abc" : Str).cps.toList (a : Int)).map fun c => (Vl.d (.str ⟨#[c]⟩), h) else none) = _
  rw [tx_abc, tx_len, if_pos (by decide), atI_nat]
  rcases (by omega : a = 0 ∨ a = 1 ∨ a = 2) with rfl | rfl | rfl <;> rfl
theorem sl_abc {k : Nat} (hk : k ≤ 3) (h : Hs) : slO (.d (.str "abc")) none (some (k : Int)) h = some (.d (.str (tx (List.range k))), h) := by
  show (if ("abc" : Str).length ≤ sizeLine then some (Vl.d (.str (Txt.slice "abc" none (some (k : Int)))), h) else none) = _
  have e : Txt.slice "abc" none (some (k : Int)) = tx (List.range k) := by
    rcases (by omega : k = 0 ∨ k = 1 ∨ k = 2 ∨ k = 3) with rfl | rfl | rfl | rfl <;> decide +kernel
  rw [tx_abc, tx_len, if_pos (by decide), ← tx_abc, e]
theorem occ_abc {a : Nat} (ha : a < 3) : Builtin.Str.occurrences "abc" (tx [a]) 0 ("abc" : Str).length 1 = [a] := by
  rcases (by omega : a = 0 ∨ a = 1 ∨ a = 2) with rfl | rfl | rfl <;> decide +kernel
theorem dn_at {g : List Nat} {s : Nat} (h : s < g.length) : L2.atI (g.map dn) (s : Int) = some (dn (g.getD s 0)) := by
  rw [atI_nat, List.getElem?_map, List.getElem?_eq_getElem h, List.getD_eq_getElem?_getD, List.getElem?_eq_getElem h]
  rfl
theorem ix_dT {g : List Nat} {s : Nat} (h : s < g.length) (hh : Hs) : oIx (.d (dT g)) (.d (dn s)) hh = some (.d (dn (g.getD s 0)), hh) := by
  have a := dn_at h
  unfold dT
  show oIx (.d (.tup (g.map dn))) (.d (.int (s : Int))) hh = _
  rw [o_ixT, a]; rfl
theorem ix_dM {M : List (List Nat)} {s : Nat} (h : s < M.length) (hh : Hs) : oIx (.d (dM M)) (.d (dn s)) hh = some (.d (dT (M.getD s [])), hh) := by
  unfold dM
  show oIx (.d (.tup (M.map dT))) (.d (.int (s : Int))) hh = _
  rw [o_ixT, atI_nat, List.getElem?_map, List.getElem?_eq_getElem h, List.getD_eq_getElem?_getD, List.getElem?_eq_getElem h]
  rfl
theorem smI_nat {k : Nat} (h : k ≤ 1000000) : smI (k : Int) = true := by
  unfold smI
  exact Nat.ble_eq_true_of_le (by omega)
theorem rng_d (b : Nat) : rngD 0 b = (List.range b).map dn := by
  unfold rngD
  refine List.map_congr_left fun i _ => ?_
  unfold dn
  congr 1
  omega
theorem ia1 {f : SemE} {σ : Lo} {h : Hs} {b : Nat} (hf : f σ h = .ok (.d (dn b)) h) (hb : b ≤ 1000000) :
    iA1 (aCons f aNil) σ h = .ok ((List.range b).map dn) h := by
  unfold dn at hf
  simp [hf]
  rw [rngR_nat (by omega), rng_d]
/-! ### the moves -/
structure Mv (M : List (List Nat)) (n k : Nat) : Prop where
  n0 : 0 < n
  n4 : n ≤ 4
  k0 : 0 < k
  k3 : k ≤ 3
  len : M.length = n
  row : ∀ r ∈ M, r.length = k ∧ ∀ x ∈ r, x < n
def mv (M : List (List Nat)) (s a : Nat) : Nat := (M.getD s []).getD a 0
theorem Mv.row_at {M : List (List Nat)} {n k : Nat} (m : Mv M n k) {s : Nat} (hs : s < n) : (M.getD s []).length = k ∧ ∀ x ∈ M.getD s [], x < n := by
  have : s < M.length := by rw [m.len]; exact hs
  rw [List.getD_eq_getElem?_getD, List.getElem?_eq_getElem this]
  exact m.row _ (List.getElem_mem this)
theorem Mv.lt {M : List (List Nat)} {n k : Nat} (m : Mv M n k) {s a : Nat} (hs : s < n) (ha : a < k) : mv M s a < n := by
  obtain ⟨h1, h2⟩ := m.row_at hs
  have : a < (M.getD s []).length := by rw [h1]; exact ha
  unfold mv
  rw [List.getD_eq_getElem?_getD (l := M.getD s []), List.getElem?_eq_getElem this]
  exact h2 _ (List.getElem_mem this)
/-- where a word leads -/
def go (M : List (List Nat)) (s : Nat) (w : Wd) : Nat := w.foldl (mv M) s
theorem Mv.go_lt {M : List (List Nat)} {n k : Nat} (m : Mv M n k) : ∀ (w : Wd) {s : Nat}, s < n → (∀ a ∈ w, a < k) → go M s w < n
  | [], s, hs, _ => hs
  | a :: w, s, hs, hw => m.go_lt w (m.lt hs (hw a List.mem_cons_self)) fun b hb => hw b (List.mem_cons_of_mem _ hb)
/-- the deed of a word -/
def deed (M : List (List Nat)) (n : Nat) (w : Wd) : List Nat := (List.range n).map fun s => go M s w
def aft (f g : List Nat) : List Nat := f.map fun s => g.getD s 0
theorem deed_len (M : List (List Nat)) (n : Nat) (w : Wd) : (deed M n w).length = n := by simp [deed]
theorem deed_at {M : List (List Nat)} {n : Nat} {w : Wd} {s : Nat} (hs : s < n) : (deed M n w).getD s 0 = go M s w := by
  unfold deed
  rw [List.getD_eq_getElem?_getD, List.getElem?_map, List.getElem?_range hs]
  rfl
theorem deed_app {M : List (List Nat)} {n k : Nat} (m : Mv M n k) {w u : Wd} (hw : ∀ a ∈ w, a < k) : aft (deed M n w) (deed M n u) = deed M n (w ++ u) := by
  show ((List.range n).map fun s => go M s w).map (fun s => (deed M n u).getD s 0) = _
  rw [List.map_map]
  refine List.map_congr_left fun s hs => ?_
  show (deed M n u).getD (go M s w) 0 = _
  rw [deed_at (m.go_lt w (List.mem_range.mp hs) hw)]
  unfold go
  rw [List.foldl_append]
theorem Mv.deed_lt {M : List (List Nat)} {n k : Nat} (m : Mv M n k) {w : Wd} (hw : ∀ a ∈ w, a < k) : ∀ x ∈ deed M n w, x < n := fun x hx => by
  obtain ⟨s, hs, rfl⟩ := List.mem_map.mp hx
  exact m.go_lt w (List.mem_range.mp hs) hw
/-! ### a watcher, a lot -/
def wat (M : List (List Nat)) (k : Nat) (E : D) : D := .ins 4 [(3, dn k), (4, dM M), (5, E), (2, dn M.length)]
theorem e_alpha (j : Nat) {k : Nat} (k0 : 0 < k) (k3 : k ≤ 3) (h : Hs) : callF defs (j + 1) 0 [.d (dn k)] h = .ok (.d (.str (tx (List.range k)))) h := by
  rw [callF_at (md := ⟨1, 1, false, m_alphabet_of⟩) rfl rfl]
  have s := sl_abc k3 h
  have c1 : (1 : Int) ≤ (k : Int) := by omega
  have c2 : (k : Int) ≤ 3 := by omega
  unfold dn
  simp [startL, lookT, s, c1, c2]
end K12

namespace K12
open PySem PySem.Spec Mi
@[simp] theorem wat_moves (M : List (List Nat)) (k : Nat) (E : D) (h : Hs) : insOf (.d (wat M k E)) h = some (4, [(3, dn k), (4, dM M), (5, E), (2, dn M.length)]) := rfl
theorem e_state_after (j : Nat) {M : List (List Nat)} {n k : Nat} (m : Mv M n k) (E : D) (h : Hs) {w : Wd} {s : Nat} (hs : s < n) (hw : ∀ a ∈ w, a < k) :
    callF defs (j + 1) 12 [.d (wat M k E), .d (.str (tx w)), .d (dn s)] h = .ok (.d (dn (go M s w))) h := by
  rw [callF_at (md := ⟨3, 4, false, m_Watcher_state_after⟩) rfl rfl]
  have lp : ∀ (u : Wd) (s : Nat) (X : Option Vl), s < n → (∀ a ∈ u, a < k) → ∃ Y, forL (gNm 3) (b_Watcher_state_after_1 (callF defs j)) (u.map fun a => D.str (tx [a])) [some (.d (wat M k E)), some (.d (.str (tx w))), some (.d (dn s)), X] h = .ok .nx [some (.d (wat M k E)), some (.d (.str (tx w))), some (.d (dn (go M s u))), Y] h := by
    intro u
    induction u with
    | nil => intro s X _ _; exact ⟨X, by simp [forL]; rfl⟩
    | cons a u ih =>
      intro s X hs hu
      have ha := hu a List.mem_cons_self
      obtain ⟨Y, q⟩ := ih (mv M s a) (some (.d (.str (tx [a])))) (m.lt hs ha) fun b hb => hu b (List.mem_cons_of_mem _ hb)
      refine ⟨Y, ?_⟩
      have i1 := ix_dM (M := M) (s := s) (by rw [m.len]; exact hs) h
      have i2 := ix_dT (g := M.getD s []) (s := a) (by rw [(m.row_at hs).1]; exact ha) h
      have oc := occ_abc (a := a) (by have := m.k3; omega)
      have i2' : oIx (.d (dT (M.getD s []))) (.d (.int (a : Int))) h = some (.d (dn (mv M s a)), h) := i2
      show _ = RS.ok .nx [some (.d (wat M k E)), some (.d (.str (tx w))), some (.d (dn (go M (mv M s a) u))), Y] h
      rw [← q]
      generalize M.getD s [] = r at i1 i2'
      simp [forL, i1, oc, i2', ok_moves, List.lookup]
  obtain ⟨Y, q⟩ := lp w s none hs hw
  have st : iSt (eVar 1) [some (.d (wat M k E)), some (.d (.str (tx w))), some (.d (dn s)), none] h = .ok (w.map fun a => D.str (tx [a])) h := by
    show (Res.ok (strD (tx w)) h) = _
    rw [strD_tx]
  simp [startL, st, q, -ab_Watcher_state_after_1]
theorem e_law_after (j : Nat) {M : List (List Nat)} {n k : Nat} (m : Mv M n k) (h : Hs) {w : Wd} {s : Nat} (hs : s < n) (hw : ∀ a ∈ w, a < k) :
    callF defs (j + 1) 17 [.d (dM M), .d (dn s), .d (.str (tx w))] h = .ok (.d (dn (go M s w))) h := by
  rw [callF_at (md := ⟨3, 4, false, m__law_after⟩) rfl rfl]
  have lp : ∀ (u : Wd) (s : Nat) (X : Option Vl), s < n → (∀ a ∈ u, a < k) → ∃ Y, forL (gNm 3) (b__law_after_1 (callF defs j)) (u.map fun a => D.str (tx [a])) [some (.d (dM M)), some (.d (dn s)), some (.d (.str (tx w))), X] h = .ok .nx [some (.d (dM M)), some (.d (dn (go M s u))), some (.d (.str (tx w))), Y] h := by
    intro u
    induction u with
    | nil => intro s X _ _; exact ⟨X, by simp [forL]; rfl⟩
    | cons a u ih =>
      intro s X hs hu
      have ha := hu a List.mem_cons_self
      obtain ⟨Y, q⟩ := ih (mv M s a) (some (.d (.str (tx [a])))) (m.lt hs ha) fun b hb => hu b (List.mem_cons_of_mem _ hb)
      refine ⟨Y, ?_⟩
      have i1 := ix_dM (M := M) (s := s) (by rw [m.len]; exact hs) h
      have i2 := ix_dT (g := M.getD s []) (s := a) (by rw [(m.row_at hs).1]; exact ha) h
      have oc := occ_abc (a := a) (by have := m.k3; omega)
      have i2' : oIx (.d (dT (M.getD s []))) (.d (.int (a : Int))) h = some (.d (dn (mv M s a)), h) := i2
      show _ = RS.ok .nx [some (.d (dM M)), some (.d (dn (go M (mv M s a) u))), some (.d (.str (tx w))), Y] h
      rw [← q]
      generalize M.getD s [] = r at i1 i2'
      simp [forL, i1, oc, i2']
  obtain ⟨Y, q⟩ := lp w s none hs hw
  have st : iSt (eVar 2) [some (.d (dM M)), some (.d (dn s)), some (.d (.str (tx w))), none] h = .ok (w.map fun a => D.str (tx [a])) h := by
    show (Res.ok (strD (tx w)) h) = _
    rw [strD_tx]
  simp [startL, st, q, -ab__law_after_1]
theorem e_after (j : Nat) (f g : List Nat) (h : Hs) (hf : ∀ s ∈ f, s < g.length) (hz : f.length ≤ 1000) : callF defs (j + 1) 8 [.d (dT f), .d (dT g)] h = .ok (.d (dT (aft f g))) h := by
  rw [callF_at (md := ⟨2, 3, false, m_deed_after⟩) rfl rfl]
  have c := cmpL_all (vs := [2]) (g := gNm 2) (f := eBin oIx (eVar 1) (eVar 2)) (σ := [some (.d (dT f)), some (.d (dT g)), none]) (h := h) dn (fun s => dn (g.getD s 0)) f (lts (by omega)) fun s hs h' =>
    ⟨_, rfl, by simp [wipeL, ix_dT (hf s hs)]⟩
  have e : (dT (aft f g)) = .tup (f.map fun s => dn (g.getD s 0)) := by
    unfold dT aft
    rw [List.map_map]; rfl
  have ps : pureSeq (.d (dT f)) = some (f.map dn) := rfl
  rw [e]
  simp [startL, c, ps]
theorem e_chain (j : Nat) (f g : List Nat) (h : Hs) (hf : ∀ s ∈ f, s < g.length) (hz : f.length ≤ 1000) : callF defs (j + 1) 20 [.d (dT f), .d (dT g)] h = .ok (.d (dT (aft f g))) h := by
  have e := e_after j f g h hf hz
  rw [callF_at (md := ⟨2, 3, false, m_deed_after⟩) rfl rfl] at e
  rw [callF_at (md := ⟨2, 3, false, m__law_chain⟩) rfl rfl]
  exact e
theorem dT_deed (M : List (List Nat)) (n : Nat) (w : Wd) : dT (deed M n w) = .tup ((List.range n).map fun s => dn (go M s w)) := by
  unfold dT deed
  rw [List.map_map]; rfl
theorem e_law_deed (j : Nat) {M : List (List Nat)} {n k : Nat} (m : Mv M n k) (h : Hs) {w : Wd} (hw : ∀ a ∈ w, a < k) :
    callF defs (j + 2) 19 [.d (dM M), .d (.str (tx w))] h = .ok (.d (dT (deed M n w))) h := by
  rw [callF_at (md := ⟨2, 3, false, m__law_deed⟩) rfl rfl]
  have c := cmpL_all (vs := [2]) (g := gNm 2) (f := eCl (callF defs (j + 1)) 17 [] (aCons (eVar 0) (aCons (eVar 2) (aCons (eVar 1) aNil)))) (σ := [some (.d (dM M)), some (.d (.str (tx w))), none]) (h := h) dn (fun s => dn (go M s w)) (List.range n) (lts (by rw [List.length_range]; have := m.n4; omega)) fun s hs h' =>
    ⟨_, rfl, by simp [wipeL, e_law_after j m h' (List.mem_range.mp hs) hw]⟩
  have r : iA1 (aCons (eN nLen (aCons (eVar 0) aNil)) aNil) [some (.d (dM M)), some (.d (.str (tx w))), none] h = .ok ((List.range n).map dn) h := ia1 (by simp [dM, m.len, dn]) (by have := m.n4; omega)
  rw [dT_deed]
  simp [startL, r, c, -ap_ia1]
/-- a lot: its table may be anything -/
def lot (M : List (List Nat)) (n k : Nat) (E T : D) : D := .ins 3 [(0, wat M k E), (1, T), (2, dn n), (3, .tup ((List.range k).map fun a => D.str (tx [a])))]
@[simp] theorem lot_ins (M : List (List Nat)) (n k : Nat) (E T : D) (h : Hs) : insOf (.d (lot M n k E T)) h = some (3, [(0, wat M k E), (1, T), (2, dn n), (3, .tup ((List.range k).map fun a => D.str (tx [a])))]) := rfl
theorem e_text_deed (j : Nat) {M : List (List Nat)} {n k : Nat} (m : Mv M n k) (E T : D) (h : Hs) {w : Wd} (hw : ∀ a ∈ w, a < k) :
    callF defs (j + 2) 4 [.d (lot M n k E T), .d (.str (tx w))] h = .ok (.d (dT (deed M n w))) h := by
  rw [callF_at (md := ⟨2, 3, false, m_Deeds_text_deed⟩) rfl rfl]
  have c := cmpL_all (vs := [2]) (g := gNm 2) (f := eMe (callF defs (j + 1)) 12 4 [] (eFd (ok_watcher) 0 (eVar 0)) (aCons (eVar 1) (aCons (eVar 2) aNil))) (σ := [some (.d (lot M n k E T)), some (.d (.str (tx w))), none]) (h := h) dn (fun s => dn (go M s w)) (List.range n) (lts (by rw [List.length_range]; have := m.n4; omega)) fun s hs h' =>
    ⟨_, rfl, by simp [wipeL, ok_watcher, List.lookup, e_state_after j m E h' (List.mem_range.mp hs) hw]⟩
  have r : iA1 (aCons (eFd (ok_states) 2 (eVar 0)) aNil) [some (.d (lot M n k E T)), some (.d (.str (tx w))), none] h = .ok ((List.range n).map dn) h := ia1 (by simp [ok_states, List.lookup]) (by have := m.n4; omega)
  rw [dT_deed]
  simp [startL, r, c, -ap_ia1]
theorem e_letter_deed (j : Nat) {M : List (List Nat)} {n k : Nat} (m : Mv M n k) (E T : D) (h : Hs) {a : Nat} (ha : a < k) :
    callF defs (j + 3) 3 [.d (lot M n k E T), .d (.str (tx [a]))] h = .ok (.d (dT (deed M n [a]))) h := by
  rw [callF_at (md := ⟨2, 2, false, m_Deeds_letter_deed⟩) rfl rfl]
  have e := e_text_deed j m E T h (w := [a]) (fun b hb => by have := List.mem_singleton.mp hb; subst this; exact ha)
  simp [startL, e]
end K12

namespace K12
open PySem PySem.Spec Mi
/-- a while whose body may raise -/
theorem whL_indX {t : SemT} {body : SemS} {R : RS → Prop} (P : Nat → Lo → Hs → Prop)
    (step : ∀ n σ h, P n σ h → match t σ h with
      | .ok false h1 => R (.ok .nx σ h1)
      | .ok true h1 => ∃ m, n = m + 1 ∧ match body σ h1 with
        | .ok .nx σ2 h2 => P m (clr h.length σ2) (h2.take h.length)
        | .exc e σ2 h2 => R (.exc e σ2 h2)
        | _ => False
      | _ => False) : ∀ (n : Nat) (σ : Lo) (h : Hs), P n σ h → ∃ r, whL t body (n + 1) σ h = r ∧ r ≠ .bad ∧ R r
  | n, σ, h, p => by
    have q := step n σ h p
    unfold whL
    cases e : t σ h with
    | bad => rw [e] at q; exact q.elim
    | exc x h1 => rw [e] at q; exact q.elim
    | ok b h1 =>
      rw [e] at q
      cases b with
      | false => exact ⟨_, rfl, by simp, q⟩
      | true =>
        obtain ⟨m, rfl, q⟩ := q
        simp only [sb_ok, if_true]
        cases e2 : body σ h1 with
        | bad => rw [e2] at q; exact q.elim
        | exc x σ2 h2 => rw [e2] at q; exact ⟨_, rfl, by simp, q⟩
        | ok f σ2 h2 =>
          rw [e2] at q
          cases f with
          | nx => exact whL_indX P step m _ _ q
          | cnt => exact q.elim
          | brk => exact q.elim
          | ret v => exact q.elim
theorem wh_indX {t : SemT} {body : SemS} {R : RS → Prop} (P : Nat → Lo → Hs → Prop) {n : Nat} {σ : Lo} {h : Hs} (p : P n σ h) (hn : n < 1000000000)
    (step : ∀ n σ h, P n σ h → match t σ h with
      | .ok false h1 => R (.ok .nx σ h1)
      | .ok true h1 => ∃ m, n = m + 1 ∧ match body σ h1 with
        | .ok .nx σ2 h2 => P m (clr h.length σ2) (h2.take h.length)
        | .exc e σ2 h2 => R (.exc e σ2 h2)
        | _ => False
      | _ => False) : R (sWh t body σ h) := by
  obtain ⟨r, e, hb, q⟩ := whL_indX P step n σ h p
  have hm : n + 1 ≤ most := Nat.le_trans (by omega : n + 1 ≤ 1000000000) (by unfold most; decide)
  rw [sWh_of e hb hm]
  exact q
/-! ### data or nothing -/
def od (X : Option D) : Option Vl := X.map Vl.d
@[simp] theorem clr1_od (n : Nat) (X : Option D) : clr1 n (od X) = od X := by cases X <;> rfl
theorem od_none : (none : Option Vl) = od none := rfl
theorem od_some (d : D) : some (Vl.d d) = od (some d) := rfl
/-! ### keys -/
def kN (d : List Nat) : List L2.Key := d.map fun (s : Nat) => (Sum.inl (s : Int) : L2.Key)
theorem kN_inj {a b : List Nat} (h : kN a = kN b) : a = b := (List.map_inj_right fun (x y : Nat) (e : (Sum.inl (x : Int) : L2.Key) = Sum.inl (y : Int)) => Int.ofNat.inj (Sum.inl.inj e)).mp h
theorem keys_dn : ∀ r : List Nat, keysK (r.map dn) = some (kN r)
  | [] => rfl
  | i :: r => by
    have ih := keys_dn r
    rw [List.map_cons, keysK, ih]; rfl
@[simp] theorem key_dT (r : List Nat) : keyT (dT r) = some (kN r) := keys_dn r
/-- the dict holds just these rows -/
structure Lst (P : List (List Nat)) (kvs : List (List L2.Key × D)) : Prop where
  mem : ∀ r, (valD kvs (kN r)).isSome = decide (r ∈ P)
  len : kvs.length ≤ P.length
theorem Lst.nil : Lst [] [] := ⟨fun r => by simp [valD], Nat.le_refl _⟩
theorem Lst.put {P : List (List Nat)} {kvs : List (List L2.Key × D)} (l : Lst P kvs) (r : List Nat) (v : D) : Lst (P ++ [r]) (putD kvs (kN r) v) := ⟨fun q => by
    rw [val_put, l.mem]
    by_cases e : r = q
    · subst e; simp
    · have : ¬ kN r = kN q := fun z => e (kN_inj z)
      simp [this, Ne.symm e, e], by
    rw [List.length_append, List.length_singleton]
    exact Nat.le_trans (put_len _ _ _) (Nat.succ_le_succ l.len)⟩
theorem d_in {P : List (List Nat)} {kvs : List (List L2.Key × D)} (l : Lst P kvs) (r : List Nat) {h : Hs} {k : Nat} (e : h[k]? = some (.dt kvs)) : oDIn true (.d (dT r)) (.r k) h = some (.d (.bl (!decide (r ∈ P))), h) := by
  unfold oDIn dGet
  simp only [e, key_dT, Option.map_some, l.mem, if_true]
theorem d_put {P : List (List Nat)} {kvs : List (List L2.Key × D)} (l : Lst P kvs) (hP : P.length ≤ 1000000) (r : List Nat) (v : D) {h : Hs} {k : Nat} (e : h[k]? = some (.dt kvs)) : dPut (.r k) (.d (dT r)) v h = some (h.set k (.dt (putD kvs (kN r) v))) := by
  unfold dPut
  have z : kvs.length < sizeLine := lts (Nat.le_trans l.len hP)
  simp only [e, key_dT, Option.bind_some, if_pos z]
/-! ### the search of deeds -/
abbrev S1 := Option (List Nat)
def dmv (M : List (List Nat)) (d : List Nat) (a : Nat) : List Nat := d.map fun s => mv M s a
def M1 (M : List (List Nat)) (n k : Nat) : Mach S1 := ⟨none, fun s a => some (dmv M (s.getD (List.range n)) a), k⟩
def en1 (n : Nat) (e : S1 × Wd) : D := .tup [dT (e.1.getD (List.range n)), .str (tx e.2)]
def rows1 (T : List (S1 × Wd)) : List (List Nat) := T.filterMap (·.1)
theorem mem_rows1 {T : List (S1 × Wd)} {d : List Nat} : some d ∈ T.map (·.1) ↔ d ∈ rows1 T := by
  unfold rows1
  rw [List.mem_filterMap, List.mem_map]
theorem rows1_len (T : List (S1 × Wd)) : (rows1 T).length ≤ T.length := List.length_filterMap_le _ _
theorem stepW1 (M : List (List Nat)) (n k : Nat) (e : S1 × Wd) (T : List (S1 × Wd)) (a : Nat) :
    stepW (M1 M n k) e T a = if dmv M (e.1.getD (List.range n)) a ∈ rows1 T then T else T ++ [(some (dmv M (e.1.getD (List.range n)) a), e.2 ++ [a])] := by
  unfold stepW
  by_cases c : dmv M (e.1.getD (List.range n)) a ∈ rows1 T
  · have c' : (M1 M n k).nx e.1 a ∈ T.map (·.1) := mem_rows1.mpr c
    rw [if_pos c, if_pos c']
  · have c' : ¬ (M1 M n k).nx e.1 a ∈ T.map (·.1) := fun z => c (mem_rows1.mp z)
    rw [if_neg c, if_neg c']
    rfl
abbrev hp1 (h : Hs) (n : Nat) (T : List (S1 × Wd)) (kvs : List (List L2.Key × D)) : Hs := h ++ [.lst (T.map (en1 n)), .dt kvs]
/-- [moves[state][place] for state in deed] -/
theorem cm_dmv {M : List (List Nat)} {n k : Nat} (m : Mv M n k) {d : List Nat} (hd : ∀ s ∈ d, s < n) (hl : d.length ≤ 1000) {a : Nat} (ha : a < k) {h : Hs} {σ : Lo} {vs : List Nat} {c : Nat} (f : SemE) (hf : ∀ s, s < n → ∀ h', f ((wipeL σ vs).set c (some (.d (dn s)))) h' = .ok (.d (dn (mv M s a))) h') :
    cmpL vs (gNm c) tYs f h.length (d.map dn) σ (h ++ [.lst []]) = some (h ++ [.lst ((dmv M d a).map dn)]) := by
  have c1 := cmpL_all (vs := vs) (g := gNm c) (f := f) (σ := σ) (h := h) dn (fun s => dn (mv M s a)) d (lts (by omega)) fun s hs h' => ⟨_, rfl, hf s (hd s hs) h'⟩
  rw [c1]
  unfold dmv
  rw [List.map_map]; rfl
theorem ix_mv {M : List (List Nat)} {n k : Nat} (m : Mv M n k) {s a : Nat} (hs : s < n) (ha : a < k) (h : Hs) : ∃ r, oIx (.d (dM M)) (.d (dn s)) h = some (.d (dT r), h) ∧ oIx (.d (dT r)) (.d (dn a)) h = some (.d (dn (mv M s a)), h) :=
  ⟨M.getD s [], ix_dM (by rw [m.len]; exact hs) h, ix_dT (by rw [(m.row_at hs).1]; exact ha) h⟩
theorem b_tab (call : CallT) {M : List (List Nat)} {n k : Nat} (m : Mv M n k) {h : Hs} {e : S1 × Wd} (he : ∀ s ∈ e.1.getD (List.range n), s < n) (hel : (e.1.getD (List.range n)).length ≤ 1000) (hw : e.2.length ≤ 1000) {A B : D} {a : Nat} (ha : a < k) {T : List (S1 × Wd)} {kvs : List (List L2.Key × D)} (l : Lst (rows1 T) kvs) (hz : T.length ≤ 1000) (X : Option D) :
    ∃ kvs', Lst (rows1 (stepW (M1 M n k) e T a)) kvs' ∧ b__law_table_1 call [some (.d (dM M)), some (.r h.length), some (.r (h.length + 1)), some (.d A), some (.d B), some (.d (dT (e.1.getD (List.range n)))), some (.d (.str (tx e.2))), some (.d (dn a)), od X, none] (hp1 h n T kvs) =
      .ok .nx [some (.d (dM M)), some (.r h.length), some (.r (h.length + 1)), some (.d A), some (.d B), some (.d (dT (e.1.getD (List.range n)))), some (.d (.str (tx e.2))), some (.d (dn a)), some (.d (dT (dmv M (e.1.getD (List.range n)) a))), none] (hp1 h n (stepW (M1 M n k) e T a) kvs') := by
  rw [stepW1]
  generalize e.1.getD (List.range n) = d at *
  have c := cm_dmv m he hel ha (h := hp1 h n T kvs) (σ := [some (.d (dM M)), some (.r h.length), some (.r (h.length + 1)), some (.d A), some (.d B), some (.d (dT d)), some (.d (.str (tx e.2))), some (.d (dn a)), od X, none]) (vs := [9]) (c := 9)
    (eBin oIx (eBin oIx (eVar 0) (eVar 9)) (eVar 7)) fun s hs h' => by
      obtain ⟨r, i1, i2⟩ := ix_mv m hs ha h'
      simp [wipeL, i1, i2]
  have ps : pureSeq (.d (dT d)) = some (d.map dn) := rfl
  generalize hd' : dmv M d a = d' at *
  have o := d_in l d' (h := hp1 h n T kvs) (k := h.length + 1) (by simp)
  have at3 : a < 3 := by have := m.k3; omega
  by_cases q : d' ∈ rows1 T
  · rw [if_pos q]
    refine ⟨kvs, l, ?_⟩
    rw [decide_eq_true q] at o
    rw [ab__law_table_1]
    refine sq_go (σ1 := [some (.d (dM M)), some (.r h.length), some (.r (h.length + 1)), some (.d A), some (.d B), some (.d (dT d)), some (.d (.str (tx e.2))), some (.d (dn a)), some (.d (dT d')), none]) (h1 := hp1 h n T kvs) ?_ ?_
    · have : Vl.d (dT d') = Vl.d (.tup (d'.map dn)) := rfl
      rw [this]
      generalize hp1 h n T kvs = hh at *
      simp [ps, c]
    · generalize hp1 h n T kvs = hh at *
      simp [o]
  · rw [if_neg q]
    have l' := l.put d' (.bl true)
    have er : rows1 (T ++ [(some d', e.2 ++ [a])]) = rows1 T ++ [d'] := by
      unfold rows1
      rw [List.filterMap_append]; rfl
    rw [← er] at l'
    refine ⟨_, l', ?_⟩
    rw [decide_eq_false q] at o
    have dp := d_put l (by have := rows1_len T; omega) d' (.bl true) (h := hp1 h n T kvs) (k := h.length + 1) (by simp)
    rw [ab__law_table_1]
    refine sq_go (σ1 := [some (.d (dM M)), some (.r h.length), some (.r (h.length + 1)), some (.d A), some (.d B), some (.d (dT d)), some (.d (.str (tx e.2))), some (.d (dn a)), some (.d (dT d')), none]) (h1 := hp1 h n T kvs) ?_ ?_
    · have : Vl.d (dT d') = Vl.d (.tup (d'.map dn)) := rfl
      rw [this]
      generalize hp1 h n T kvs = hh at *
      simp [ps, c]
    · have lz : (T.map (en1 n)).length < sizeLine := lts (by rw [List.length_map]; omega)
      have ix : ∀ h', oIx (.d (.str "abc")) (.d (dn a)) h' = some (.d (.str (tx [a])), h') := fun h' => ix_abc at3 h'
      have ad : ∀ h', oAdd (.d (.str (tx e.2))) (.d (.str (tx [a]))) h' = some (.d (.str (tx (e.2 ++ [a]))), h') := fun h' => ad_tx _ _ (by rw [List.length_singleton]; omega) h'
      have e3 : en1 n (some d', e.2 ++ [a]) = .tup [dT d', .str (tx (e.2 ++ [a]))] := rfl
      unfold hp1 at *
      rw [List.map_append, List.map_cons, List.map_nil, e3]
      generalize T.map (en1 n) = TD at *
      generalize putD kvs (kN d') (.bl true) = kv2 at *
      simp at dp
      simp [o, dp, ix, ad, lz]
end K12

namespace K12
open PySem PySem.Spec Mi
theorem cut1 {α : Type} (xs : List α) : cutL xs (some 1) none = xs.drop 1 := by
  unfold cutL
  have e1 : HT.sIx xs.length 0 (some 1) = min 1 xs.length := HT.sIx_nat _ _ 1
  have e2 : HT.sIx xs.length xs.length none = xs.length := rfl
  rw [e1, e2]
  cases xs with
  | nil => rfl
  | cons x l =>
    have : min 1 (x :: l).length = 1 := by rw [List.length_cons]; omega
    rw [this, List.take_of_length_le (by simp)]
theorem l_tab (call : CallT) {M : List (List Nat)} {n k : Nat} (m : Mv M n k) {h : Hs} {e : S1 × Wd} (he : ∀ s ∈ e.1.getD (List.range n), s < n) (hel : (e.1.getD (List.range n)).length ≤ 1000) (hw : e.2.length ≤ 1000) {A B : D} : ∀ (ps : List Nat) (T : List (S1 × Wd)) (kvs : List (List L2.Key × D)) (Y X : Option D), (∀ a ∈ ps, a < k) → Lst (rows1 T) kvs → T.length + ps.length ≤ 1000 →
    ∃ kvs' Y' X', Lst (rows1 (ps.foldl (stepW (M1 M n k) e) T)) kvs' ∧ forL (gNm 7) (b__law_table_1 call) (ps.map dn) [some (.d (dM M)), some (.r h.length), some (.r (h.length + 1)), some (.d A), some (.d B), some (.d (dT (e.1.getD (List.range n)))), some (.d (.str (tx e.2))), od Y, od X, none] (hp1 h n T kvs) =
      .ok .nx [some (.d (dM M)), some (.r h.length), some (.r (h.length + 1)), some (.d A), some (.d B), some (.d (dT (e.1.getD (List.range n)))), some (.d (.str (tx e.2))), od Y', od X', none] (hp1 h n (ps.foldl (stepW (M1 M n k) e) T) kvs')
  | [], T, kvs, Y, X, _, l, _ => ⟨kvs, Y, X, l, by simp [forL]⟩
  | a :: ps, T, kvs, Y, X, hp, l, hz => by
    rw [List.length_cons] at hz
    obtain ⟨kv1, l1, b⟩ := b_tab call m (h := h) he hel hw (A := A) (B := B) (hp a List.mem_cons_self) l (by omega) X
    have sl := stepW_len (M1 M n k) e T a
    obtain ⟨kvs', Y', X', l', q⟩ := l_tab call m (h := h) he hel hw (A := A) (B := B) ps (stepW (M1 M n k) e T a) kv1 (some (dn a)) (some (dT (dmv M (e.1.getD (List.range n)) a))) (fun x hx => hp x (List.mem_cons_of_mem _ hx)) l1 (by omega)
    refine ⟨kvs', Y', X', l', ?_⟩
    rw [List.foldl_cons, ← q, List.map_cons, forL]
    generalize stepW (M1 M n k) e T a = T1 at *
    generalize e.1.getD (List.range n) = d at *
    simp [b, -ab__law_table_1]
    rfl
/-- an entry of the search -/
theorem ent {M : List (List Nat)} {n k j : Nat} (m : Mv M n k) {e : S1 × Wd} (he : e ∈ W (M1 M n k) j) : (∀ s ∈ e.1.getD (List.range n), s < n) ∧ (e.1.getD (List.range n)).length = n ∧ e.2.length ≤ j ∧ (∀ a ∈ e.2, a < k) ∧ e.1 = if e.2 = [] then none else some (deed M n e.2) := by
  have I := W_inv (M1 M n k) j
  have hk := I.g.fg e he
  have hr := I.g.rn e he
  have key : ∀ w : Wd, (M1 M n k).run w = if w = [] then none else some (deed M n w) := by
    intro w
    rcases List.eq_nil_or_concat w with rfl | ⟨u, a, rfl⟩
    · rfl
    · rw [List.concat_eq_append, run_snoc, if_neg (by simp)]
      have ih : (M1 M n k).run u = if u = [] then none else some (deed M n u) := by
        have : ∀ (N : Nat) (u : Wd), u.length ≤ N → (M1 M n k).run u = if u = [] then none else some (deed M n u) := by
          intro N
          induction N with
          | zero => intro u hu; have := List.length_eq_zero_iff.mp (Nat.le_zero.mp hu); subst this; rfl
          | succ N ihN =>
            intro u hu
            rcases List.eq_nil_or_concat u with rfl | ⟨v, b, rfl⟩
            · rfl
            · rw [List.concat_eq_append] at hu ⊢
              rw [run_snoc, if_neg (by simp), ihN v (by simp at hu; omega)]
              show some (dmv M _ b) = _
              congr 1
              by_cases c : v = []
              · subst c
                rw [if_pos rfl]
                rfl
              · rw [if_neg c]
                show (deed M n v).map _ = _
                unfold deed
                rw [List.map_map]
                refine List.map_congr_left fun s _ => ?_
                show mv M (go M s v) b = go M s (v ++ [b])
                unfold go
                rw [List.foldl_append]; rfl
        exact this u.length u (Nat.le_refl _)
      rw [ih]
      show some (dmv M _ a) = _
      congr 1
      by_cases c : u = []
      · subst c
        rw [if_pos rfl]
        rfl
      · rw [if_neg c]
        show (deed M n u).map _ = _
        unfold deed
        rw [List.map_map]
        refine List.map_congr_left fun s _ => ?_
        show mv M (go M s u) a = go M s (u ++ [a])
        unfold go
        rw [List.foldl_append]; rfl
  rw [key] at hr
  refine ⟨?_, ?_, I.ln e he, hk, hr.symm⟩
  · rw [← hr]
    split
    · intro s hs; exact List.mem_range.mp hs
    · exact m.deed_lt hk
  · rw [← hr]
    split
    · simp
    · exact deed_len M n e.2
theorem en1_len (n : Nat) (T : List (S1 × Wd)) : (T.map (en1 n)).length = T.length := List.length_map _
theorem e_table (q : Nat) {M : List (List Nat)} {n k J : Nat} (m : Mv M n k) (hJ : J ≤ 61) (h1 : ∀ i, i < J → i < (W (M1 M n k) i).length ∧ (W (M1 M n k) i).length ≤ 61) (h2 : ((W (M1 M n k) J).length = J ∧ J ≤ 61) ∨ 61 < (W (M1 M n k) J).length) (h : Hs) :
    callF defs (q + 1) 21 [.d (dM M)] h = .ok (.d (.lv (((W (M1 M n k) J).map (en1 n)).drop 1))) h := by
  have ec := callF_at (defs := defs) (n := q) (i := 21) (md := ⟨1, 10, false, m__law_table⟩) (xs := [.d (dM M)]) (h := h) rfl rfl
  have hl : (W (M1 M n k) J).length ≤ 64 := by
    cases J with
    | zero => simp [W]
    | succ J =>
      have a := (W_len (M1 M n k) J).2
      have b := (h1 J (by omega)).2
      have c : (M1 M n k).k = k := rfl
      have := m.k3
      omega
  have lp : ∃ r, forL (gNm 4) (b__law_table_2 (callF defs q)) (rngD 0 70) [some (.d (dM M)), some (.r h.length), some (.r (h.length + 1)), some (.d (dn 0)), none, none, none, none, none, none] (hp1 h n [((none : S1), [])] []) = r ∧
      ∃ kvs σ', r = .ok .nx σ' (hp1 h n (W (M1 M n k) J) kvs) ∧ ∃ A B C D' E F, σ' = [some (.d (dM M)), some (.r h.length), some (.r (h.length + 1)), some (.d A), od B, od C, od D', od E, od F, none] := by
    refine ⟨_, rfl, ?_⟩
    refine for_ind (R := fun r => ∃ kvs σ', r = .ok .nx σ' (hp1 h n (W (M1 M n k) J) kvs) ∧ ∃ A B C D' E F, σ' = [some (.d (dM M)), some (.r h.length), some (.r (h.length + 1)), some (.d A), od B, od C, od D', od E, od F, none])
      (fun j σ h' => ∃ (T : List (S1 × Wd)) (kvs : List (List L2.Key × D)) (B C D' E F : Option D), j ≤ J ∧ T = W (M1 M n k) j ∧ Lst (rows1 T) kvs ∧ σ = [some (.d (dM M)), some (.r h.length), some (.r (h.length + 1)), some (.d (dn j)), od B, od C, od D', od E, od F, none] ∧ h' = hp1 h n T kvs)
      ⟨_, _, none, none, none, none, none, Nat.zero_le _, rfl, Lst.nil, rfl, rfl⟩ (fun j d σ h' hj p => ?_) fun σ h' p => ?_
    · obtain ⟨T, kvs, B, C, D', E, F, hjJ, hT, l, rfl, rfl⟩ := p
      have ed : d = dn j := by
        rw [rng_d, List.getElem?_map] at hj
        obtain ⟨i, hi, rfl⟩ := Option.map_eq_some_iff.mp hj
        obtain ⟨g1, g2⟩ := List.getElem?_eq_some_iff.mp hi
        rw [List.getElem_range] at g2
        rw [g2]
      subst ed
      refine ⟨_, _, rfl, ?_⟩
      have at0 : ∀ TD : List D, (h ++ [O.lst TD, O.dt kvs])[h.length]? = some (.lst TD) := fun TD => by simp
      have nl := n_lenR (at0 (T.map (en1 n)))
      rw [en1_len] at nl
      have st : ([some (Vl.d (dM M)), some (.r h.length), some (.r (h.length + 1)), some (.d (dn j)), od B, od C, od D', od E, od F, none] : Lo).set 4 (some (.d (dn j))) = [some (.d (dM M)), some (.r h.length), some (.r (h.length + 1)), some (.d (dn j)), some (.d (dn j)), od C, od D', od E, od F, none] := rfl
      by_cases c : j = J
      · subst c
        have e : b__law_table_2 (callF defs q) [some (.d (dM M)), some (.r h.length), some (.r (h.length + 1)), some (.d (dn j)), some (.d (dn j)), od C, od D', od E, od F, none] (hp1 h n T kvs) =
            .ok .brk [some (.d (dM M)), some (.r h.length), some (.r (h.length + 1)), some (.d (dn j)), some (.d (dn j)), od C, od D', od E, od F, none] (hp1 h n T kvs) := by
          have cond : (decide ((j : Int) = (T.length : Int)) || decide ((61 : Int) < (T.length : Int))) = true := by
            rw [hT]
            rcases h2 with ⟨h2, _⟩ | h2
            · simp [h2]
            · simp; omega
          unfold hp1 dn at *
          generalize T.map (en1 n) = TD at *
          rcases Bool.or_eq_true_iff.mp cond with c1 | c1
          · have c1' := of_decide_eq_true c1
            simp [nl, c1']
          · have c1' := of_decide_eq_true c1
            by_cases c0 : (j : Int) = (T.length : Int)
            · simp [nl, c0]
            · simp [nl, c0, c1']
        rw [st, e]
        refine ⟨kvs, [some (.d (dM M)), some (.r h.length), some (.r (h.length + 1)), some (.d (dn j)), od (some (dn j)), od C, od D', od E, od F, none], ?_, dn j, some (dn j), C, D', E, F, rfl⟩
        rw [← hT, List.take_length]
        have hlen : (hp1 h n T kvs).length = h.length + 2 := by simp [hp1]
        rw [hlen]
        simp
        rfl
      · have hlt : j < J := by omega
        obtain ⟨g1, g2⟩ := h1 j hlt
        rw [← hT] at g1 g2
        have he := List.getElem?_eq_getElem g1
        have hm : T[j] ∈ W (M1 M n k) j := by rw [← hT]; exact List.getElem_mem g1
        obtain ⟨e1, e2, e3, e4, e5⟩ := ent m hm
        have tn : W (M1 M n k) (j + 1) = nextW (M1 M n k) T[j] T := by
          rw [W_succ (by rw [← hT]; exact he), ← hT]
        have ix : oIx (.r h.length) (.d (dn j)) (hp1 h n T kvs) = some (.d (en1 n T[j]), hp1 h n T kvs) := by
          have := o_ixR (k := h.length) (xs := T.map (en1 n)) (h := hp1 h n T kvs) (by simp) (j : Int)
          rw [atI_nat, List.getElem?_map, he] at this
          exact this
        have c1 : ¬ (j : Int) = (T.length : Int) := by omega
        have c2 : ¬ (61 : Int) < (T.length : Int) := by omega
        obtain ⟨kvs', Y', X', l', fl⟩ := l_tab (callF defs q) m (h := h) e1 (by have := m.n4; omega) (by omega) (A := dn (j + 1)) (B := dn j) (List.range k) T kvs E F (fun a ha => List.mem_range.mp ha) l (by rw [List.length_range]; have := m.k3; omega)
        have r : ∀ σ : Lo, σ[0]? = some (some (.d (dM M))) → iA1 (aCons (eN nLen (aCons (eBin oIx (eVar 0) (eK (.int 0))) aNil)) aNil) σ (hp1 h n T kvs) = .ok ((List.range k).map dn) (hp1 h n T kvs) := fun σ hσ => by
          refine ia1 ?_ (by have := m.k3; omega)
          have i0 := ix_dM (M := M) (s := 0) (by rw [m.len]; exact m.n0) (hp1 h n T kvs)
          have i0' : oIx (.d (dM M)) (.d (.int 0)) (hp1 h n T kvs) = some (.d (dT (M.getD 0 [])), hp1 h n T kvs) := i0
          have rl := (m.row_at m.n0).1
          generalize M.getD 0 [] = r0 at *
          generalize hp1 h n T kvs = hh at *
          simp [hσ, i0', dT, rl, dn]
        have e : ∃ C' D2, b__law_table_2 (callF defs q) [some (.d (dM M)), some (.r h.length), some (.r (h.length + 1)), some (.d (dn j)), some (.d (dn j)), od C, od D', od E, od F, none] (hp1 h n T kvs) =
            .ok .nx [some (.d (dM M)), some (.r h.length), some (.r (h.length + 1)), some (.d (dn (j + 1))), some (.d (dn j)), od C', od D2, od Y', od X', none] (hp1 h n (W (M1 M n k) (j + 1)) kvs') := by
          refine ⟨some (dT (T[j].1.getD (List.range n))), some (.str (tx T[j].2)), ?_⟩
          rw [ab__law_table_2]
          refine sq_go (σ1 := [some (.d (dM M)), some (.r h.length), some (.r (h.length + 1)), some (.d (dn j)), some (.d (dn j)), od C, od D', od E, od F, none]) (h1 := hp1 h n T kvs) ?_ ?_
          · unfold hp1 dn at *
            generalize T.map (en1 n) = TD at *
            simp [nl, c1, c2]
          refine sq_go (σ1 := [some (.d (dM M)), some (.r h.length), some (.r (h.length + 1)), some (.d (dn j)), some (.d (dn j)), some (.d (dT (T[j].1.getD (List.range n)))), some (.d (.str (tx T[j].2))), od E, od F, none]) (h1 := hp1 h n T kvs) ?_ ?_
          · have een : en1 n T[j] = .tup [dT (T[j].1.getD (List.range n)), .str (tx T[j].2)] := rfl
            rw [een] at ix
            generalize hp1 h n T kvs = hh at *
            generalize dT (T[j].1.getD (List.range n)) = z1 at *
            simp [ix]
          refine sq_go (σ1 := [some (.d (dM M)), some (.r h.length), some (.r (h.length + 1)), some (.d (dn (j + 1))), some (.d (dn j)), some (.d (dT (T[j].1.getD (List.range n)))), some (.d (.str (tx T[j].2))), od E, od F, none]) (h1 := hp1 h n T kvs) ?_ ?_
          · generalize hp1 h n T kvs = hh at *
            simp [dn]
          · have r' := r [some (.d (dM M)), some (.r h.length), some (.r (h.length + 1)), some (.d (dn (j + 1))), some (.d (dn j)), some (.d (dT (T[j].1.getD (List.range n)))), some (.d (.str (tx T[j].2))), od E, od F, none] rfl
            rw [ap_for, r', sb_ok, tn]
            exact fl
        obtain ⟨C', D2, e⟩ := e
        rw [st, e]
        refine ⟨W (M1 M n k) (j + 1), kvs', some (dn j), C', D2, Y', X', hlt, rfl, ?_, ?_, ?_⟩
        · rw [tn]; exact l'
        · simp
          rfl
        · simp [hp1]
    · obtain ⟨T, kvs, B, C, D', E, F, hjJ, _⟩ := p
      have : (rngD 0 70).length = 70 := by rw [rng_d]; simp
      omega
  obtain ⟨r, q1, kvs, σ', hr, A, B, C, D', E, F, hσ⟩ := lp
  subst hr hσ
  have rg : rngR [.d (.int 70)] (hp1 h n [((none : S1), [])] []) = .ok (rngD 0 70) (hp1 h n [((none : S1), [])] []) := rngR_nat (k := 70) (by omega)
  have tr : trR (.d (.int (n : Int))) (h ++ []) = .ok (.d (.tup (rngD 0 n))) (h ++ []) := trR_nat (by have := m.n4; omega)
  rw [List.append_nil] at tr
  have e0 : en1 n ((none : S1), []) = .tup [.tup (rngD 0 n), .str ""] := by
    show D.tup [dT (List.range n), .str (tx [])] = _
    rw [tx_nil, rng_d]; rfl
  have ln : nLen [.d (dM M)] h = some (.d (.int (n : Int)), h) := by simp [dM, m.len]
  have at1 : ∀ TD : List D, (h ++ [O.lst TD, O.dt kvs])[h.length]? = some (.lst TD) := fun TD => by simp
  have sl : ∀ TD : List D, slO (.r h.length) (some 1) none (h ++ [O.lst TD, O.dt kvs]) = some (.d (.lv (TD.drop 1)), h ++ [O.lst TD, O.dt kvs]) := fun TD => by
    show (match lstOf (.r h.length) (h ++ [O.lst TD, O.dt kvs]) with | some xs => _ | none => _) = _
    simp [lstOf, cut1]
  rw [ec]
  unfold hp1 at *
  rw [List.map_cons, List.map_nil, e0] at q1 rg
  generalize (W (M1 M n k) J).map (en1 n) = TD at *
  have q1' : forL (gNm 4) (b__law_table_2 (callF defs q)) (rngD 0 70) [some (.d (dM M)), some (.r h.length), some (.r (h.length + 1)), some (.d (.int 0)), none, none, none, none, none, none] (h ++ [O.lst [D.tup [D.tup (rngD 0 n), D.str ""]], O.dt []]) = _ := q1
  have b0 : sPar [1, 2, 3] (aCons (eLst (aCons (eTup (aCons (eTR (eN nLen (aCons (eVar 0) aNil))) (aCons (eK (.str "")) aNil))) aNil)) (aCons eDt0 (aCons (eK (.int 0)) aNil))) (startL 10 [.d (dM M)]) h = .ok .nx [some (.d (dM M)), some (.r h.length), some (.r (h.length + 1)), some (.d (.int 0)), none, none, none, none, none, none] (h ++ [O.lst [D.tup [D.tup (rngD 0 n), D.str ""]], O.dt []]) := by
    simp [startL, sPar, ln, tr]
  have b : m__law_table (callF defs q) (startL 10 [.d (dM M)]) h = .ok (.ret (.d (.lv (TD.drop 1)))) [some (.d (dM M)), some (.r h.length), some (.r (h.length + 1)), some (.d A), od B, od C, od D', od E, od F, none] (h ++ [O.lst TD, O.dt kvs]) := by
    rw [am__law_table]
    refine sq_go b0 ?_
    refine sq_go (σ1 := [some (.d (dM M)), some (.r h.length), some (.r (h.length + 1)), some (.d A), od B, od C, od D', od E, od F, none]) (h1 := h ++ [O.lst TD, O.dt kvs]) ?_ ?_
    · simp [rg, q1', -ab__law_table_2]
    · simp [sl]
  show fin false h.length (m__law_table (callF defs q) (startL 10 [.d (dM M)]) h) = _
  rw [b]
  simp
end K12

namespace K12
open PySem PySem.Spec Mi
def M2 (M : List (List Nat)) (s0 k : Nat) : Mach (List Nat) := ⟨[s0], fun d a => dmv M d a, k⟩
def en2 (e : List Nat × Wd) : D := .tup [.str (tx e.2), dT e.1]
abbrev hp2 (h : Hs) (T : List (List Nat × Wd)) (kvs : List (List L2.Key × D)) : Hs := h ++ [.lst (T.map en2), .dt kvs]
abbrev rows2 (T : List (List Nat × Wd)) : List (List Nat) := T.map (·.1)
theorem run2 (M : List (List Nat)) (s0 k : Nat) : ∀ w : Wd, (M2 M s0 k).run w = [go M s0 w] := by
  have key : ∀ (w : Wd) (s : Nat), w.foldl (dmv M) [s] = [w.foldl (mv M) s] := by
    intro w
    induction w with
    | nil => intro s; rfl
    | cons a w ih => intro s; exact ih (mv M s a)
  intro w
  exact key w s0
theorem b_walk (call : CallT) {M : List (List Nat)} {n k s0 : Nat} (m : Mv M n k) {h : Hs} {e : List Nat × Wd} (he : ∀ s ∈ e.1, s < n) (hel : e.1.length ≤ 1000) (hw : e.2.length ≤ 1000) {G A B : D} {a : Nat} (ha : a < k) {T : List (List Nat × Wd)} {kvs : List (List L2.Key × D)} (l : Lst (rows2 T) kvs) (hz : T.length ≤ 1000) (X : Option D) :
    ∃ kvs', Lst (rows2 (stepW (M2 M s0 k) e T a)) kvs' ∧ b__law_walks_1 call [some (.d (dM M)), some (.d G), some (.r h.length), some (.r (h.length + 1)), some (.d A), some (.d B), some (.d (.str (tx e.2))), some (.d (dT e.1)), some (.d (dn a)), od X, none] (hp2 h T kvs) =
      .ok .nx [some (.d (dM M)), some (.d G), some (.r h.length), some (.r (h.length + 1)), some (.d A), some (.d B), some (.d (.str (tx e.2))), some (.d (dT e.1)), some (.d (dn a)), some (.d (dT (dmv M e.1 a))), none] (hp2 h (stepW (M2 M s0 k) e T a) kvs') := by
  have es : stepW (M2 M s0 k) e T a = if dmv M e.1 a ∈ rows2 T then T else T ++ [(dmv M e.1 a, e.2 ++ [a])] := by
    unfold stepW
    by_cases c : dmv M e.1 a ∈ rows2 T
    · have c' : (M2 M s0 k).nx e.1 a ∈ T.map (·.1) := c
      rw [if_pos c, if_pos c']
    · have c' : ¬ (M2 M s0 k).nx e.1 a ∈ T.map (·.1) := c
      rw [if_neg c, if_neg c']
      rfl
  rw [es]
  obtain ⟨d, w⟩ := e
  dsimp only at *
  have c := cm_dmv m he hel ha (h := hp2 h T kvs) (σ := [some (.d (dM M)), some (.d G), some (.r h.length), some (.r (h.length + 1)), some (.d A), some (.d B), some (.d (.str (tx w))), some (.d (dT d)), some (.d (dn a)), od X, none]) (vs := [10]) (c := 10)
    (eBin oIx (eBin oIx (eVar 0) (eVar 10)) (eVar 8)) fun s hs h' => by
      obtain ⟨r, i1, i2⟩ := ix_mv m hs ha h'
      simp [wipeL, i1, i2]
  have ps : pureSeq (.d (dT d)) = some (d.map dn) := rfl
  generalize hd' : dmv M d a = d' at *
  have o := d_in l d' (h := hp2 h T kvs) (k := h.length + 1) (by simp)
  have at3 : a < 3 := by have := m.k3; omega
  by_cases q : d' ∈ rows2 T
  · rw [if_pos q]
    refine ⟨kvs, l, ?_⟩
    rw [decide_eq_true q] at o
    rw [ab__law_walks_1]
    refine sq_go (σ1 := [some (.d (dM M)), some (.d G), some (.r h.length), some (.r (h.length + 1)), some (.d A), some (.d B), some (.d (.str (tx w))), some (.d (dT d)), some (.d (dn a)), some (.d (dT d')), none]) (h1 := hp2 h T kvs) ?_ ?_
    · have : Vl.d (dT d') = Vl.d (.tup (d'.map dn)) := rfl
      rw [this]
      generalize hp2 h T kvs = hh at *
      simp [ps, c]
    · generalize hp2 h T kvs = hh at *
      simp [o]
  · rw [if_neg q]
    have l' := l.put d' (.bl true)
    have er : rows2 (T ++ [(d', w ++ [a])]) = rows2 T ++ [d'] := by
      unfold rows2
      rw [List.map_append]; rfl
    rw [← er] at l'
    refine ⟨_, l', ?_⟩
    rw [decide_eq_false q] at o
    have dp := d_put l (by rw [List.length_map]; omega) d' (.bl true) (h := hp2 h T kvs) (k := h.length + 1) (by simp)
    rw [ab__law_walks_1]
    refine sq_go (σ1 := [some (.d (dM M)), some (.d G), some (.r h.length), some (.r (h.length + 1)), some (.d A), some (.d B), some (.d (.str (tx w))), some (.d (dT d)), some (.d (dn a)), some (.d (dT d')), none]) (h1 := hp2 h T kvs) ?_ ?_
    · have : Vl.d (dT d') = Vl.d (.tup (d'.map dn)) := rfl
      rw [this]
      generalize hp2 h T kvs = hh at *
      simp [ps, c]
    · have lz : (T.map en2).length < sizeLine := lts (by rw [List.length_map]; omega)
      have ix : ∀ h', oIx (.d (.str "abc")) (.d (dn a)) h' = some (.d (.str (tx [a])), h') := fun h' => ix_abc at3 h'
      have ad : ∀ h', oAdd (.d (.str (tx w))) (.d (.str (tx [a]))) h' = some (.d (.str (tx (w ++ [a]))), h') := fun h' => ad_tx _ _ (by rw [List.length_singleton]; omega) h'
      have e3 : en2 (d', w ++ [a]) = .tup [.str (tx (w ++ [a])), dT d'] := rfl
      unfold hp2 at *
      rw [List.map_append, List.map_cons, List.map_nil, e3]
      generalize T.map en2 = TD at *
      generalize putD kvs (kN d') (.bl true) = kv2 at *
      simp at dp
      simp [o, dp, ix, ad, lz]
theorem l_walk (call : CallT) {M : List (List Nat)} {n k s0 : Nat} (m : Mv M n k) {h : Hs} {e : List Nat × Wd} (he : ∀ s ∈ e.1, s < n) (hel : e.1.length ≤ 1000) (hw : e.2.length ≤ 1000) {G A B : D} : ∀ (ps : List Nat) (T : List (List Nat × Wd)) (kvs : List (List L2.Key × D)) (Y X : Option D), (∀ a ∈ ps, a < k) → Lst (rows2 T) kvs → T.length + ps.length ≤ 1000 →
    ∃ kvs' Y' X', Lst (rows2 (ps.foldl (stepW (M2 M s0 k) e) T)) kvs' ∧ forL (gNm 8) (b__law_walks_1 call) (ps.map dn) [some (.d (dM M)), some (.d G), some (.r h.length), some (.r (h.length + 1)), some (.d A), some (.d B), some (.d (.str (tx e.2))), some (.d (dT e.1)), od Y, od X, none] (hp2 h T kvs) =
      .ok .nx [some (.d (dM M)), some (.d G), some (.r h.length), some (.r (h.length + 1)), some (.d A), some (.d B), some (.d (.str (tx e.2))), some (.d (dT e.1)), od Y', od X', none] (hp2 h (ps.foldl (stepW (M2 M s0 k) e) T) kvs')
  | [], T, kvs, Y, X, _, l, _ => ⟨kvs, Y, X, l, by simp [forL]⟩
  | a :: ps, T, kvs, Y, X, hp, l, hz => by
    rw [List.length_cons] at hz
    obtain ⟨kv1, l1, b⟩ := b_walk call m (s0 := s0) (h := h) he hel hw (G := G) (A := A) (B := B) (hp a List.mem_cons_self) l (by omega) X
    have sl := stepW_len (M2 M s0 k) e T a
    obtain ⟨kvs', Y', X', l', q⟩ := l_walk call m (s0 := s0) (h := h) he hel hw (G := G) (A := A) (B := B) ps (stepW (M2 M s0 k) e T a) kv1 (some (dn a)) (some (dT (dmv M e.1 a))) (fun x hx => hp x (List.mem_cons_of_mem _ hx)) l1 (by omega)
    refine ⟨kvs', Y', X', l', ?_⟩
    rw [List.foldl_cons, ← q, List.map_cons, forL]
    generalize stepW (M2 M s0 k) e T a = T1 at *
    simp [b, -ab__law_walks_1]
    rfl
theorem nodup_le {α : Type} [DecidableEq α] : ∀ (l m : List α), l.Nodup → (∀ x ∈ l, x ∈ m) → l.length ≤ m.length
  | [], m, _, _ => Nat.zero_le _
  | x :: l, m, h, hm => by
    obtain ⟨h1, h2⟩ := List.nodup_cons.mp h
    have hx := hm x List.mem_cons_self
    have ih := nodup_le l (m.erase x) h2 fun y hy => by
      have : y ≠ x := fun q => h1 (by rw [← q]; exact hy)
      exact (List.mem_erase_of_ne this).mpr (hm y (List.mem_cons_of_mem _ hy))
    have := List.length_erase_of_mem hx
    have := List.length_pos_iff.mpr (List.ne_nil_of_mem hx)
    rw [List.length_cons]
    omega
theorem ent2 {M : List (List Nat)} {n k j s0 : Nat} (m : Mv M n k) (hs : s0 < n) {e : List Nat × Wd} (he : e ∈ W (M2 M s0 k) j) : e.1 = [go M s0 e.2] ∧ (∀ a ∈ e.2, a < k) ∧ e.2.length ≤ j ∧ go M s0 e.2 < n := by
  have I := W_inv (M2 M s0 k) j
  have hk := I.g.fg e he
  have hr := I.g.rn e he
  rw [run2] at hr
  exact ⟨hr.symm, hk, I.ln e he, m.go_lt _ hs hk⟩
theorem few2 {M : List (List Nat)} {n k s0 : Nat} (m : Mv M n k) (hs : s0 < n) (j : Nat) : (W (M2 M s0 k) j).length ≤ 4 := by
  have I := W_inv (M2 M s0 k) j
  have := nodup_le ((W (M2 M s0 k) j).map (·.1)) ((List.range n).map fun s => [s]) I.g.nd fun x hx => by
    obtain ⟨e, he, rfl⟩ := List.mem_map.mp hx
    obtain ⟨a, _, _, b⟩ := ent2 m hs he
    rw [a]
    exact List.mem_map.mpr ⟨_, List.mem_range.mpr b, rfl⟩
  rw [List.length_map, List.length_map, List.length_range] at this
  have := m.n4
  omega
theorem e_walks (q : Nat) {M : List (List Nat)} {n k s0 : Nat} (m : Mv M n k) (hs : s0 < n) (h : Hs) :
    ∃ J, (W (M2 M s0 k) J).length = J ∧ callF defs (q + 1) 18 [.d (dM M), .d (dT [s0])] h = .ok (.d (.lv ((W (M2 M s0 k) J).map en2))) h := by
  have ec := callF_at (defs := defs) (n := q) (i := 18) (md := ⟨2, 11, false, m__law_walks⟩) (xs := [.d (dM M), .d (dT [s0])]) (h := h) rfl rfl
  obtain ⟨J, hJ, h1, h2⟩ := stops (M2 M s0 k) 10
  have h2 : (W (M2 M s0 k) J).length = J ∧ J ≤ 10 := by
    rcases h2 with h2 | h2
    · exact h2
    · have := few2 m hs J; omega
  refine ⟨J, h2.1, ?_⟩
  have lp : ∃ r, forL (gNm 5) (b__law_walks_2 (callF defs q)) (rngD 0 20000) [some (.d (dM M)), some (.d (dT [s0])), some (.r h.length), some (.r (h.length + 1)), some (.d (dn 0)), none, none, none, none, none, none] (hp2 h [([s0], [])] [(kN [s0], .bl true)]) = r ∧
      ∃ kvs σ', r = .ok .nx σ' (hp2 h (W (M2 M s0 k) J) kvs) ∧ ∃ A B C D' E F, σ' = [some (.d (dM M)), some (.d (dT [s0])), some (.r h.length), some (.r (h.length + 1)), some (.d A), od B, od C, od D', od E, od F, none] := by
    refine ⟨_, rfl, ?_⟩
    refine for_ind (R := fun r => ∃ kvs σ', r = .ok .nx σ' (hp2 h (W (M2 M s0 k) J) kvs) ∧ ∃ A B C D' E F, σ' = [some (.d (dM M)), some (.d (dT [s0])), some (.r h.length), some (.r (h.length + 1)), some (.d A), od B, od C, od D', od E, od F, none])
      (fun j σ h' => ∃ (T : List (List Nat × Wd)) (kvs : List (List L2.Key × D)) (B C D' E F : Option D), j ≤ J ∧ T = W (M2 M s0 k) j ∧ Lst (rows2 T) kvs ∧ σ = [some (.d (dM M)), some (.d (dT [s0])), some (.r h.length), some (.r (h.length + 1)), some (.d (dn j)), od B, od C, od D', od E, od F, none] ∧ h' = hp2 h T kvs)
      ⟨_, _, none, none, none, none, none, Nat.zero_le _, rfl, Lst.put Lst.nil [s0] (.bl true), rfl, rfl⟩ (fun j d σ h' hj p => ?_) fun σ h' p => ?_
    · obtain ⟨T, kvs, B, C, D', E, F, hjJ, hT, l, rfl, rfl⟩ := p
      have ed : d = dn j := by
        rw [rng_d, List.getElem?_map] at hj
        obtain ⟨i, hi, rfl⟩ := Option.map_eq_some_iff.mp hj
        obtain ⟨g1, g2⟩ := List.getElem?_eq_some_iff.mp hi
        rw [List.getElem_range] at g2
        rw [g2]
      subst ed
      refine ⟨_, _, rfl, ?_⟩
      have at0 : ∀ TD : List D, (h ++ [O.lst TD, O.dt kvs])[h.length]? = some (.lst TD) := fun TD => by simp
      have nl := n_lenR (at0 (T.map en2))
      rw [List.length_map] at nl
      have st : ([some (Vl.d (dM M)), some (.d (dT [s0])), some (.r h.length), some (.r (h.length + 1)), some (.d (dn j)), od B, od C, od D', od E, od F, none] : Lo).set 5 (some (.d (dn j))) = [some (.d (dM M)), some (.d (dT [s0])), some (.r h.length), some (.r (h.length + 1)), some (.d (dn j)), some (.d (dn j)), od C, od D', od E, od F, none] := rfl
      generalize dT [s0] = BG at *
      by_cases c : j = J
      · subst c
        have e : b__law_walks_2 (callF defs q) [some (.d (dM M)), some (.d BG), some (.r h.length), some (.r (h.length + 1)), some (.d (dn j)), some (.d (dn j)), od C, od D', od E, od F, none] (hp2 h T kvs) =
            .ok .brk [some (.d (dM M)), some (.d BG), some (.r h.length), some (.r (h.length + 1)), some (.d (dn j)), some (.d (dn j)), od C, od D', od E, od F, none] (hp2 h T kvs) := by
          have c0 : (j : Int) = (T.length : Int) := by rw [hT, h2.1]
          unfold hp2 dn at *
          generalize T.map en2 = TD at *
          simp [nl, c0]
        rw [st, e]
        refine ⟨kvs, [some (.d (dM M)), some (.d BG), some (.r h.length), some (.r (h.length + 1)), some (.d (dn j)), od (some (dn j)), od C, od D', od E, od F, none], ?_, dn j, some (dn j), C, D', E, F, rfl⟩
        rw [← hT, List.take_length]
        have hlen : (hp2 h T kvs).length = h.length + 2 := by simp [hp2]
        rw [hlen]
        simp
        rfl
      · have hlt : j < J := by omega
        obtain ⟨g1, g2⟩ := h1 j hlt
        rw [← hT] at g1 g2
        have he := List.getElem?_eq_getElem g1
        have hm : T[j] ∈ W (M2 M s0 k) j := by rw [← hT]; exact List.getElem_mem g1
        obtain ⟨e1, e2, e3, e4⟩ := ent2 m hs hm
        have tn : W (M2 M s0 k) (j + 1) = nextW (M2 M s0 k) T[j] T := by
          rw [W_succ (by rw [← hT]; exact he), ← hT]
        have ix : oIx (.r h.length) (.d (dn j)) (hp2 h T kvs) = some (.d (en2 T[j]), hp2 h T kvs) := by
          have := o_ixR (k := h.length) (xs := T.map en2) (h := hp2 h T kvs) (by simp) (j : Int)
          rw [atI_nat, List.getElem?_map, he] at this
          exact this
        have c1 : ¬ (j : Int) = (T.length : Int) := by omega
        obtain ⟨kvs', Y', X', l', fl⟩ := l_walk (callF defs q) m (s0 := s0) (h := h) (e := T[j]) (by rw [e1]; intro s hs'; have := List.mem_singleton.mp hs'; rw [this]; exact e4) (by rw [e1]; simp) (by omega) (G := BG) (A := dn (j + 1)) (B := dn j) (List.range k) T kvs E F (fun a ha => List.mem_range.mp ha) l (by rw [List.length_range]; have := m.k3; omega)
        have r : ∀ σ : Lo, σ[0]? = some (some (.d (dM M))) → iA1 (aCons (eN nLen (aCons (eBin oIx (eVar 0) (eK (.int 0))) aNil)) aNil) σ (hp2 h T kvs) = .ok ((List.range k).map dn) (hp2 h T kvs) := fun σ hσ => by
          refine ia1 ?_ (by have := m.k3; omega)
          have i0 := ix_dM (M := M) (s := 0) (by rw [m.len]; exact m.n0) (hp2 h T kvs)
          have i0' : oIx (.d (dM M)) (.d (.int 0)) (hp2 h T kvs) = some (.d (dT (M.getD 0 [])), hp2 h T kvs) := i0
          have rl := (m.row_at m.n0).1
          generalize M.getD 0 [] = r0 at *
          generalize hp2 h T kvs = hh at *
          simp [hσ, i0', dT, rl, dn]
        have e : ∃ C' D2, b__law_walks_2 (callF defs q) [some (.d (dM M)), some (.d BG), some (.r h.length), some (.r (h.length + 1)), some (.d (dn j)), some (.d (dn j)), od C, od D', od E, od F, none] (hp2 h T kvs) =
            .ok .nx [some (.d (dM M)), some (.d BG), some (.r h.length), some (.r (h.length + 1)), some (.d (dn (j + 1))), some (.d (dn j)), od C', od D2, od Y', od X', none] (hp2 h (W (M2 M s0 k) (j + 1)) kvs') := by
          refine ⟨some (.str (tx T[j].2)), some (dT T[j].1), ?_⟩
          rw [ab__law_walks_2]
          refine sq_go (σ1 := [some (.d (dM M)), some (.d BG), some (.r h.length), some (.r (h.length + 1)), some (.d (dn j)), some (.d (dn j)), od C, od D', od E, od F, none]) (h1 := hp2 h T kvs) ?_ ?_
          · unfold hp2 dn at *
            generalize T.map en2 = TD at *
            simp [nl, c1]
          refine sq_go (σ1 := [some (.d (dM M)), some (.d BG), some (.r h.length), some (.r (h.length + 1)), some (.d (dn j)), some (.d (dn j)), some (.d (.str (tx T[j].2))), some (.d (dT T[j].1)), od E, od F, none]) (h1 := hp2 h T kvs) ?_ ?_
          · have een : en2 T[j] = .tup [.str (tx T[j].2), dT T[j].1] := rfl
            rw [een] at ix
            generalize hp2 h T kvs = hh at *
            generalize dT T[j].1 = z1 at *
            simp [ix]
          refine sq_go (σ1 := [some (.d (dM M)), some (.d BG), some (.r h.length), some (.r (h.length + 1)), some (.d (dn (j + 1))), some (.d (dn j)), some (.d (.str (tx T[j].2))), some (.d (dT T[j].1)), od E, od F, none]) (h1 := hp2 h T kvs) ?_ ?_
          · generalize hp2 h T kvs = hh at *
            simp [dn]
          · have r' := r [some (.d (dM M)), some (.d BG), some (.r h.length), some (.r (h.length + 1)), some (.d (dn (j + 1))), some (.d (dn j)), some (.d (.str (tx T[j].2))), some (.d (dT T[j].1)), od E, od F, none] rfl
            rw [ap_for, r', sb_ok, tn]
            exact fl
        obtain ⟨C', D2, e⟩ := e
        rw [st, e]
        refine ⟨W (M2 M s0 k) (j + 1), kvs', some (dn j), C', D2, Y', X', hlt, rfl, ?_, ?_, ?_⟩
        · rw [tn]; exact l'
        · simp
          rfl
        · simp [hp2]
    · obtain ⟨T, kvs, B, C, D', E, F, hjJ, _⟩ := p
      have : (rngD 0 20000).length = 20000 := by rw [rng_d, List.length_map, List.length_range]
      omega
  obtain ⟨r, q1, kvs, σ', hr, A, B, C, D', E, F, hσ⟩ := lp
  subst hr hσ
  have rg : rngR [.d (.int 20000)] (hp2 h [([s0], [])] [(kN [s0], .bl true)]) = .ok (rngD 0 20000) (hp2 h [([s0], [])] [(kN [s0], .bl true)]) := rngR_nat (k := 20000) (by omega)
  have e0 : en2 ([s0], []) = .tup [.str "", dT [s0]] := by
    show D.tup [.str (tx []), dT [s0]] = _
    rw [tx_nil]
  have kk := key_dT [s0]
  rw [ec]
  unfold hp2 at *
  rw [List.map_cons, List.map_nil, e0] at q1 rg
  generalize (W (M2 M s0 k) J).map en2 = TD at *
  generalize dT [s0] = BG at *
  generalize kN [s0] = kb at *
  generalize rngD 0 20000 = RG at *
  have q1' : forL (gNm 5) (b__law_walks_2 (callF defs q)) RG [some (.d (dM M)), some (.d BG), some (.r h.length), some (.r (h.length + 1)), some (.d (.int 0)), none, none, none, none, none, none] (h ++ [O.lst [D.tup [D.str "", BG]], O.dt [(kb, .bl true)]]) = _ := q1
  have b0 : sPar [2, 3, 4] (aCons (eLst (aCons (eTup (aCons (eK (.str "")) (aCons (eVar 1) aNil))) aNil)) (aCons (eDt1 (eVar 1) (eK (.bl true))) (aCons (eK (.int 0)) aNil))) (startL 11 [.d (dM M), .d BG]) h = .ok .nx [some (.d (dM M)), some (.d BG), some (.r h.length), some (.r (h.length + 1)), some (.d (.int 0)), none, none, none, none, none, none] (h ++ [O.lst [D.tup [D.str "", BG]], O.dt [(kb, .bl true)]]) := by
    simp [startL, sPar, kk]
  have b : m__law_walks (callF defs q) (startL 11 [.d (dM M), .d BG]) h = .ok (.ret (.r h.length)) [some (.d (dM M)), some (.d BG), some (.r h.length), some (.r (h.length + 1)), some (.d A), od B, od C, od D', od E, od F, none] (h ++ [O.lst TD, O.dt kvs]) := by
    rw [am__law_walks]
    refine sq_go b0 ?_
    refine sq_go (σ1 := [some (.d (dM M)), some (.d BG), some (.r h.length), some (.r (h.length + 1)), some (.d A), od B, od C, od D', od E, od F, none]) (h1 := h ++ [O.lst TD, O.dt kvs]) ?_ ?_
    · simp [rg, q1', -ab__law_walks_2]
    · simp
  show fin false h.length (m__law_walks (callF defs q) (startL 11 [.d (dM M), .d BG]) h) = _
  rw [b, fin_retR (xs := TD) (by simp)]
  simp
end K12

namespace K12
open PySem PySem.Spec Mi
/-! ### entries can be sorted -/
theorem sm_dT (d : List Nat) : Sm 1 (dT d) := fun x hx => by
  obtain ⟨i, _, rfl⟩ := List.mem_map.mp hx
  exact trivial
theorem str_tx {w : Wd} (hw : ∀ a ∈ w, a < 3) : PyData.strOk (tx w) = true := by
  show (w.map (· + 97)).toArray.all (· < 0x110000) = true
  rw [Array.all_eq_true_iff_forall_mem]
  intro x hx
  have hx' : x ∈ w.map (· + 97) := by simpa using hx
  obtain ⟨a, ha, rfl⟩ := List.mem_map.mp hx'
  have := hw a ha
  exact decide_eq_true (by omega)
theorem sm_tx {w : Wd} (hw : ∀ a ∈ w, a < 3) : Sm 0 (.str (tx w)) := str_tx hw
theorem sm_en (n : Nat) (e : S1 × Wd) (hw : ∀ a ∈ e.2, a < 3) : Sm 2 (en1 n e) := fun x hx => by
  rcases List.mem_cons.mp hx with rfl | hx
  · exact sm_dT _
  · have := List.mem_singleton.mp hx
    subst this
    exact str_tx hw
theorem alike_ints : ∀ f g : List Nat, PySem.W.alikeAll (D.pds (f.map dn)) (D.pds (g.map dn)) = true
  | [], _ => by simp [D.pds, PySem.W.alikeAll]
  | _ :: _, [] => by simp [D.pds, PySem.W.alikeAll]
  | a :: f, b :: g => by
    have ih := alike_ints f g
    simp only [List.map_cons, D.pds, PySem.W.alikeAll, Bool.and_eq_true]
    exact ⟨rfl, ih⟩
theorem alike_en (n : Nat) (e e' : S1 × Wd) : PySem.W.alike (en1 n e).pd (en1 n e').pd = true := by
  have := alike_ints (e.1.getD (List.range n)) (e'.1.getD (List.range n))
  show PySem.W.alike (.tuple [(.tuple (D.pds ((e.1.getD (List.range n)).map dn)) : PyData), .str (tx e.2)]) (.tuple [(.tuple (D.pds ((e'.1.getD (List.range n)).map dn)) : PyData), .str (tx e'.2)]) = true
  simp only [PySem.W.alike, PySem.W.alikeAll, this, Bool.and_true]
theorem sort_en (n : Nat) (L : List (S1 × Wd)) (hL : L.length ≤ 1000) (hw : ∀ e ∈ L, ∀ a ∈ e.2, a < 3) : sortOk (L.map (en1 n)) = true := by
  unfold sortOk
  simp only [Bool.and_eq_true, Bool.or_eq_true, List.all_eq_true]
  refine ⟨⟨fun x hx => ?_, fun x hx y hy => ?_⟩, .inl fun x hx => ?_, Nat.ble_eq_true_of_le (Nat.le_of_lt (lts (by rw [List.length_map]; omega)))⟩
  · obtain ⟨e, he, rfl⟩ := List.mem_map.mp hx
    exact (sm_en n e (hw e he)).shp (by omega)
  · obtain ⟨e, _, rfl⟩ := List.mem_map.mp hx
    obtain ⟨e', _, rfl⟩ := List.mem_map.mp hy
    exact alike_en n e e'
  · obtain ⟨e, _, rfl⟩ := List.mem_map.mp hx
    rfl
/-! ### Deeds(..), Watcher(..) -/
theorem mk_deeds (q : Nat) {M : List (List Nat)} {n k : Nat} (m : Mv M n k) (E T : D) (h : Hs) :
    mkI (callF defs (q + 2)) 1 3 [.d (wat M k E), .d T] h = .ok (.d (lot M n k E T)) h := by
  unfold mkI
  have ec := callF_at (defs := defs) (n := q + 1) (i := 1) (md := ⟨3, 3, false, m_Deeds__init_⟩) (xs := [.r h.length, .d (wat M k E), .d T]) (h := h ++ [.ins 3 []]) rfl rfl
  have ea : ∀ h', callF defs (q + 1) 0 [.d (dn k)] h' = .ok (.d (.str (tx (List.range k)))) h' := fun h' => e_alpha q m.k0 m.k3 h'
  have tz : Nat.ble (tx (List.range k)).cps.size sizeLine = true := by
    have e : (tx (List.range k)).cps.size = k := by simp [tx]
    rw [e]
    exact Nat.ble_eq_true_of_le (Nat.le_of_lt (lts (by have := m.k3; omega)))
  have sd := strD_tx (List.range k)
  have b : m_Deeds__init_ (callF defs (q + 1)) (startL 3 [.r h.length, .d (wat M k E), .d T]) (h ++ [.ins 3 []]) = .ok .nx [some (.r h.length), some (.d (wat M k E)), some (.d T)] (h ++ [.ins 3 [(0, wat M k E), (1, T), (2, dn n), (3, .tup ((List.range k).map fun a => D.str (tx [a])))]]) := by
    rw [am_Deeds__init_]
    refine sq_go (σ1 := [some (.r h.length), some (.d (wat M k E)), some (.d T)]) (h1 := h ++ [.ins 3 [(0, wat M k E)]]) ?_ ?_
    · generalize wat M k E = w at *
      simp [startL, ok_watcher, putN]
    refine sq_go (σ1 := [some (.r h.length), some (.d (wat M k E)), some (.d T)]) (h1 := h ++ [.ins 3 [(0, wat M k E), (1, T)]]) ?_ ?_
    · generalize wat M k E = w at *
      simp [ok_table, putN]
    refine sq_go (σ1 := [some (.r h.length), some (.d (wat M k E)), some (.d T)]) (h1 := h ++ [.ins 3 [(0, wat M k E), (1, T), (2, dn n)]]) ?_ ?_
    · have ei : ∀ h', eFd ok_states 2 (eVar 1) [some (.r h.length), some (.d (wat M k E)), some (.d T)] h' = .ok (.d (dn n)) h' := fun h' => by simp [ok_states, List.lookup, m.len]
      simp [ei, ok_states, putN, -ap_fd]
    · have ei : ∀ h', eFd ok_letters 3 (eVar 1) [some (.r h.length), some (.d (wat M k E)), some (.d T)] h' = .ok (.d (dn k)) h' := fun h' => by simp [ok_letters, List.lookup]
      simp [ei, ok_letters, putN, ea, tz, sd, -ap_fd]
  have e2 : callF defs (q + 2) 1 [.r h.length, .d (wat M k E), .d T] (h ++ [.ins 3 []]) = .ok (.d .non) (h ++ [.ins 3 [(0, wat M k E), (1, T), (2, dn n), (3, .tup ((List.range k).map fun a => D.str (tx [a])))]]) := by
    rw [ec]
    show fin false (h ++ [O.ins 3 []]).length (m_Deeds__init_ (callF defs (q + 1)) (startL 3 [.r h.length, .d (wat M k E), .d T]) (h ++ [.ins 3 []])) = _
    rw [b]
    simp [fin]
  rw [e2]
  simp [lot]
theorem mk_watcher (q : Nat) {M : List (List Nat)} {n k : Nat} (m : Mv M n k) (E : D) (h : Hs) :
    mkI (callF defs (q + 1)) 10 4 [.d (dn k), .d (dM M), .d E] h = .ok (.d (wat M k E)) h := by
  unfold mkI
  have ec := callF_at (defs := defs) (n := q) (i := 10) (md := ⟨4, 4, false, m_Watcher__init_⟩) (xs := [.r h.length, .d (dn k), .d (dM M), .d E]) (h := h ++ [.ins 4 []]) rfl rfl
  have ln : ∀ h', nLen [.d (dM M)] h' = some (.d (dn M.length), h') := fun h' => by simp [dM, dn]
  have b : m_Watcher__init_ (callF defs q) (startL 4 [.r h.length, .d (dn k), .d (dM M), .d E]) (h ++ [.ins 4 []]) = .ok .nx [some (.r h.length), some (.d (dn k)), some (.d (dM M)), some (.d E)] (h ++ [.ins 4 [(3, dn k), (4, dM M), (5, E), (2, dn M.length)]]) := by
    rw [am_Watcher__init_]
    generalize dM M = mm at *
    simp [startL, ok_letters, ok_moves, ok_ends, ok_states, putN, ln]
  have e2 : callF defs (q + 1) 10 [.r h.length, .d (dn k), .d (dM M), .d E] (h ++ [.ins 4 []]) = .ok (.d .non) (h ++ [.ins 4 [(3, dn k), (4, dM M), (5, E), (2, dn M.length)]]) := by
    rw [ec]
    show fin false (h ++ [O.ins 4 []]).length (m_Watcher__init_ (callF defs q) (startL 4 [.r h.length, .d (dn k), .d (dM M), .d E]) (h ++ [.ins 4 []])) = _
    rw [b]
    simp [fin]
  rw [e2]
  simp [wat]
end K12

namespace K12
open PySem PySem.Spec Mi
/-! ### deeds_of -/
def col (M : List (List Nat)) (a : Nat) : List Nat := M.map fun r => r.getD a 0
def stp (M : List (List Nat)) (a : Nat) : D := .tup [.str (tx [a]), dT (col M a)]
theorem aft_col {M : List (List Nat)} {n k : Nat} (m : Mv M n k) {d : List Nat} (hd : ∀ s ∈ d, s < n) (a : Nat) : aft d (col M a) = dmv M d a := by
  unfold aft dmv
  refine List.map_congr_left fun s hs => ?_
  have : s < M.length := by rw [m.len]; exact hd s hs
  unfold col mv
  rw [List.getD_eq_getElem?_getD, List.getElem?_map, List.getElem?_eq_getElem this]
  rw [List.getD_eq_getElem?_getD (l := M), List.getElem?_eq_getElem this]
  rfl
theorem enum_tx (w : Wd) : enumD (strD (tx w)) = (List.range w.length).map fun i => D.tup [dn i, .str (tx [w.getD i 0])] := by
  refine List.ext_getElem? fun i => ?_
  rw [enumD_get, strD_tx, List.getElem?_map, List.getElem?_map]
  by_cases h : i < w.length
  · rw [List.getElem?_range h, List.getElem?_eq_getElem h]
    simp [List.getD_eq_getElem?_getD, List.getElem?_eq_getElem h]
    rfl
  · rw [List.getElem?_eq_none (by omega), List.getElem?_eq_none (by simp; omega)]; rfl
theorem e_steps (call : CallT) {M : List (List Nat)} {n k : Nat} (m : Mv M n k) (E : D) (h : Hs) (X : D) :
    eLc false [12, 9] (iEnS (aCons (eVar 1) aNil)) (gTp 2 (gCo (gNm 12) (gCo (gNm 9) gNi))) tYs (eTup (aCons (eVar 9) (aCons (eN nTuple (aCons (eLc false [13] (iSeq (eFd (ok_moves) 4 (eVar 0))) (gNm 13) tYs (eBin oIx (eVar 13) (eVar 12))) aNil)) aNil)))
      [some (.d (wat M k E)), some (.d (.str (tx (List.range k)))), some (.d X), none, none, none, none, none, none, none, none, none, none, none] h = .ok (.d (.lv ((List.range k).map (stp M)))) h := by
  have en : enumD (strD (tx (List.range k))) = (List.range k).map fun i => D.tup [dn i, .str (tx [i])] := by
    rw [enum_tx, List.length_range]
    refine List.map_congr_left fun i hi => ?_
    have h1 := List.mem_range.mp hi
    rw [List.getD_eq_getElem?_getD, List.getElem?_range h1]
    rfl
  have c := cmpL_all (vs := [12, 9]) (g := gTp 2 (gCo (gNm 12) (gCo (gNm 9) gNi))) (f := eTup (aCons (eVar 9) (aCons (eN nTuple (aCons (eLc false [13] (iSeq (eFd (ok_moves) 4 (eVar 0))) (gNm 13) tYs (eBin oIx (eVar 13) (eVar 12))) aNil)) aNil)))
    (σ := [some (.d (wat M k E)), some (.d (.str (tx (List.range k)))), some (.d X), none, none, none, none, none, none, none, none, none, none, none]) (h := h) (fun i => D.tup [dn i, .str (tx [i])]) (stp M) (List.range k) (lts (by rw [List.length_range]; have := m.k3; omega)) fun i hi h' => by
      have hi := List.mem_range.mp hi
      have c2 := cmpL_all (vs := [13]) (g := gNm 13) (f := eBin oIx (eVar 13) (eVar 12)) (σ := [some (.d (wat M k E)), some (.d (.str (tx (List.range k)))), some (.d X), none, none, none, none, none, none, some (.d (.str (tx [i]))), none, none, some (.d (dn i)), none]) (h := h') dT (fun r => dn (r.getD i 0)) M (lts (by rw [m.len]; have := m.n4; omega)) fun r hr h'' =>
        ⟨_, rfl, by
          have i2 := ix_dT (g := r) (s := i) (by rw [(m.row r hr).1]; exact hi) h''
          generalize r.getD i 0 = z at *
          simp [wipeL, i2]⟩
      refine ⟨_, rfl, ?_⟩
      have fe : ∀ h'', eFd ok_moves 4 (eVar 0) [some (.d (wat M k E)), some (.d (.str (tx (List.range k)))), some (.d X), none, none, none, none, none, none, some (.d (.str (tx [i]))), none, none, some (.d (dn i)), none] h'' = .ok (.d (dM M)) h'' := fun h'' => by simp [ok_moves, List.lookup]
      have ps : pureSeq (.d (dM M)) = some (M.map dT) := rfl
      have ec : stp M i = .tup [.str (tx [i]), .tup (M.map fun r => dn (r.getD i 0))] := by
        unfold stp dT col
        rw [List.map_map]; rfl
      rw [ec]
      generalize (M.map fun r => dn (r.getD i 0)) = z at *
      simp [wipeL, fe, ps, c2, -ap_fd]
  simp [en, c]
theorem b_deeds (q : Nat) {M : List (List Nat)} {n k : Nat} (m : Mv M n k) {h : Hs} {e : S1 × Wd} (he : ∀ s ∈ e.1.getD (List.range n), s < n) (hel : (e.1.getD (List.range n)).length ≤ 1000) (hw : e.2.length ≤ 1000) {E A B C F : D} {a : Nat} (ha : a < k) {T : List (S1 × Wd)} {kvs : List (List L2.Key × D)} (l : Lst (rows1 T) kvs) (hz : T.length ≤ 61) (X : Option D) :
    (((stepW (M1 M n k) e T a).length ≤ 61 ∧ ∃ kvs', Lst (rows1 (stepW (M1 M n k) e T a)) kvs' ∧ b_deeds_of_1 (callF defs (q + 1)) [some (.d (wat M k E)), some (.d A), some (.d B), some (.d C), some (.r h.length), some (.r (h.length + 1)), some (.d F), some (.d (dT (e.1.getD (List.range n)))), some (.d (.str (tx e.2))), some (.d (.str (tx [a]))), some (.d (dT (col M a))), od X, none, none] (hp1 h n T kvs) =
      .ok .nx [some (.d (wat M k E)), some (.d A), some (.d B), some (.d C), some (.r h.length), some (.r (h.length + 1)), some (.d F), some (.d (dT (e.1.getD (List.range n)))), some (.d (.str (tx e.2))), some (.d (.str (tx [a]))), some (.d (dT (col M a))), some (.d (dT (dmv M (e.1.getD (List.range n)) a))), none, none] (hp1 h n (stepW (M1 M n k) e T a) kvs'))) ∨
    (61 < (stepW (M1 M n k) e T a).length ∧ ∃ σ' h', b_deeds_of_1 (callF defs (q + 1)) [some (.d (wat M k E)), some (.d A), some (.d B), some (.d C), some (.r h.length), some (.r (h.length + 1)), some (.d F), some (.d (dT (e.1.getD (List.range n)))), some (.d (.str (tx e.2))), some (.d (.str (tx [a]))), some (.d (dT (col M a))), od X, none, none] (hp1 h n T kvs) = .exc ⟨2, []⟩ σ' h' ∧ h'.take h.length = h) := by
  rw [stepW1]
  generalize hdd : e.1.getD (List.range n) = d at *
  have ea := e_after q d (col M a) (hp1 h n T kvs) (by unfold col; rw [List.length_map, m.len]; exact he) hel
  rw [aft_col m he] at ea
  generalize hd' : dmv M d a = d' at *
  have o := d_in l d' (h := hp1 h n T kvs) (k := h.length + 1) (by simp)
  by_cases c : d' ∈ rows1 T
  · rw [if_pos c]
    refine .inl ⟨hz, kvs, l, ?_⟩
    rw [decide_eq_true c] at o
    rw [ab_deeds_of_1]
    generalize hp1 h n T kvs = hh at *
    generalize wat M k E = ww at *
    simp [ea, o]
  · rw [if_neg c]
    have l' := l.put d' (.bl true)
    have er : rows1 (T ++ [(some d', e.2 ++ [a])]) = rows1 T ++ [d'] := by
      unfold rows1
      rw [List.filterMap_append]; rfl
    rw [← er] at l'
    rw [decide_eq_false c] at o
    have dp := d_put l (by have := rows1_len T; omega) d' (.bl true) (h := hp1 h n T kvs) (k := h.length + 1) (by simp)
    have lz : (T.map (en1 n)).length < sizeLine := lts (by rw [List.length_map]; omega)
    have ad : ∀ h', oAdd (.d (.str (tx e.2))) (.d (.str (tx [a]))) h' = some (.d (.str (tx (e.2 ++ [a]))), h') := fun h' => ad_tx _ _ (by rw [List.length_singleton]; omega) h'
    have e3 : en1 n (some d', e.2 ++ [a]) = .tup [dT d', .str (tx (e.2 ++ [a]))] := rfl
    have nl : ∀ kv : List (List L2.Key × D), nLen [.r h.length] (h ++ [O.lst ((T ++ [((some d' : S1), e.2 ++ [a])]).map (en1 n)), O.dt kv]) = some (.d (.int (T.length + 1 : Nat)), h ++ [O.lst ((T ++ [((some d' : S1), e.2 ++ [a])]).map (en1 n)), O.dt kv]) := fun kv => by
      have := n_lenR (k := h.length) (xs := (T ++ [((some d' : S1), e.2 ++ [a])]).map (en1 n)) (h := h ++ [O.lst ((T ++ [((some d' : S1), e.2 ++ [a])]).map (en1 n)), O.dt kv]) (by simp)
      rw [List.length_map, List.length_append, List.length_singleton] at this
      exact this
    have ll : (T ++ [((some d' : S1), e.2 ++ [a])]).length = T.length + 1 := by simp
    have st : ∀ (P : RS → Prop), P (ss (RS.ok .nx [some (.d (wat M k E)), some (.d A), some (.d B), some (.d C), some (.r h.length), some (.r (h.length + 1)), some (.d F), some (.d (dT d)), some (.d (.str (tx e.2))), some (.d (.str (tx [a]))), some (.d (dT (col M a))), some (.d (dT d')), none, none] (hp1 h n (T ++ [((some d' : S1), e.2 ++ [a])]) (putD kvs (kN d') (.bl true)))) (sIf (tBl (eBin oGt (eN nLen (aCons (eVar 4) aNil)) (eBin oAdd (eK (.int 60)) (eK (.int 1)))))
      (sRzB 2)
      sNil)) → P (b_deeds_of_1 (callF defs (q + 1)) [some (.d (wat M k E)), some (.d A), some (.d B), some (.d C), some (.r h.length), some (.r (h.length + 1)), some (.d F), some (.d (dT d)), some (.d (.str (tx e.2))), some (.d (.str (tx [a]))), some (.d (dT (col M a))), od X, none, none] (hp1 h n T kvs)) := by
      intro P hP
      have e1 : b_deeds_of_1 (callF defs (q + 1)) [some (.d (wat M k E)), some (.d A), some (.d B), some (.d C), some (.r h.length), some (.r (h.length + 1)), some (.d F), some (.d (dT d)), some (.d (.str (tx e.2))), some (.d (.str (tx [a]))), some (.d (dT (col M a))), od X, none, none] (hp1 h n T kvs) = ss (RS.ok .nx [some (.d (wat M k E)), some (.d A), some (.d B), some (.d C), some (.r h.length), some (.r (h.length + 1)), some (.d F), some (.d (dT d)), some (.d (.str (tx e.2))), some (.d (.str (tx [a]))), some (.d (dT (col M a))), some (.d (dT d')), none, none] (hp1 h n (T ++ [((some d' : S1), e.2 ++ [a])]) (putD kvs (kN d') (.bl true)))) (sIf (tBl (eBin oGt (eN nLen (aCons (eVar 4) aNil)) (eBin oAdd (eK (.int 60)) (eK (.int 1)))))
      (sRzB 2)
      sNil) := by
        rw [ab_deeds_of_1]
        unfold hp1 at *
        rw [List.map_append, List.map_cons, List.map_nil, e3]
        generalize T.map (en1 n) = TD at *
        generalize putD kvs (kN d') (.bl true) = kv2 at *
        generalize wat M k E = ww at *
        simp at dp
        simp [ea, o, dp, ad, lz]
      rw [e1]
      exact hP
    by_cases c2 : T.length + 1 ≤ 61
    · refine .inl ⟨by rw [ll]; exact c2, _, l', ?_⟩
      refine st (fun r => r = _) ?_
      have nl' := nl (putD kvs (kN d') (.bl true))
      have c3 : ¬ (61 : Int) < ((T.length : Int) + 1) := by omega
      generalize wat M k E = ww at *
      unfold hp1
      generalize (T ++ [((some d' : S1), e.2 ++ [a])]).map (en1 n) = TD at *
      generalize putD kvs (kN d') (.bl true) = kv2 at *
      simp [nl', c3]
    · refine .inr ⟨by rw [ll]; omega, _, _, st (fun r => r = RS.exc ⟨2, []⟩ [some (.d (wat M k E)), some (.d A), some (.d B), some (.d C), some (.r h.length), some (.r (h.length + 1)), some (.d F), some (.d (dT d)), some (.d (.str (tx e.2))), some (.d (.str (tx [a]))), some (.d (dT (col M a))), some (.d (dT d')), none, none] (hp1 h n (T ++ [((some d' : S1), e.2 ++ [a])]) (putD kvs (kN d') (.bl true)))) ?_, by simp [hp1]⟩
      have nl' := nl (putD kvs (kN d') (.bl true))
      have c3 : (61 : Int) < ((T.length : Int) + 1) := by omega
      generalize wat M k E = ww at *
      unfold hp1
      generalize (T ++ [((some d' : S1), e.2 ++ [a])]).map (en1 n) = TD at *
      generalize putD kvs (kN d') (.bl true) = kv2 at *
      simp [nl', c3]
end K12

namespace K12
open PySem PySem.Spec Mi
theorem l_deeds (q : Nat) {M : List (List Nat)} {n k : Nat} (m : Mv M n k) {h : Hs} {e : S1 × Wd} (he : ∀ s ∈ e.1.getD (List.range n), s < n) (hel : (e.1.getD (List.range n)).length ≤ 1000) (hw : e.2.length ≤ 1000) {E A B C F : D} : ∀ (ps : List Nat) (T : List (S1 × Wd)) (kvs : List (List L2.Key × D)) (Y Z X : Option D), (∀ a ∈ ps, a < k) → Lst (rows1 T) kvs → T.length ≤ 61 →
    ((ps.foldl (stepW (M1 M n k) e) T).length ≤ 61 ∧ ∃ kvs' Y' Z' X', Lst (rows1 (ps.foldl (stepW (M1 M n k) e) T)) kvs' ∧ forL (gTp 2 (gCo (gNm 9) (gCo (gNm 10) gNi))) (b_deeds_of_1 (callF defs (q + 1))) (ps.map (stp M)) [some (.d (wat M k E)), some (.d A), some (.d B), some (.d C), some (.r h.length), some (.r (h.length + 1)), some (.d F), some (.d (dT (e.1.getD (List.range n)))), some (.d (.str (tx e.2))), od Y, od Z, od X, none, none] (hp1 h n T kvs) =
      .ok .nx [some (.d (wat M k E)), some (.d A), some (.d B), some (.d C), some (.r h.length), some (.r (h.length + 1)), some (.d F), some (.d (dT (e.1.getD (List.range n)))), some (.d (.str (tx e.2))), od Y', od Z', od X', none, none] (hp1 h n (ps.foldl (stepW (M1 M n k) e) T) kvs')) ∨
    (61 < (ps.foldl (stepW (M1 M n k) e) T).length ∧ ∃ σ' h', forL (gTp 2 (gCo (gNm 9) (gCo (gNm 10) gNi))) (b_deeds_of_1 (callF defs (q + 1))) (ps.map (stp M)) [some (.d (wat M k E)), some (.d A), some (.d B), some (.d C), some (.r h.length), some (.r (h.length + 1)), some (.d F), some (.d (dT (e.1.getD (List.range n)))), some (.d (.str (tx e.2))), od Y, od Z, od X, none, none] (hp1 h n T kvs) = .exc ⟨2, []⟩ σ' h' ∧ h'.take h.length = h)
  | [], T, kvs, Y, Z, X, _, l, hz => .inl ⟨hz, kvs, Y, Z, X, l, by simp [forL]⟩
  | a :: ps, T, kvs, Y, Z, X, hp, l, hz => by
    have gt : ∀ (Y Z : Option D) (h' : Hs), gTp 2 (gCo (gNm 9) (gCo (gNm 10) gNi)) (.d (stp M a)) [some (.d (wat M k E)), some (.d A), some (.d B), some (.d C), some (.r h.length), some (.r (h.length + 1)), some (.d F), some (.d (dT (e.1.getD (List.range n)))), some (.d (.str (tx e.2))), od Y, od Z, od X, none, none] h' = some ([some (.d (wat M k E)), some (.d A), some (.d B), some (.d C), some (.r h.length), some (.r (h.length + 1)), some (.d F), some (.d (dT (e.1.getD (List.range n)))), some (.d (.str (tx e.2))), some (.d (.str (tx [a]))), some (.d (dT (col M a))), od X, none, none], h') := fun Y Z h' => by
      show gTp 2 _ (.d (.tup [.str (tx [a]), dT (col M a)])) _ _ = _
      generalize dT (col M a) = z at *
      generalize wat M k E = ww at *
      generalize e.1.getD (List.range n) = d at *
      simp
    rw [List.foldl_cons, List.map_cons, forL, gt Y Z]
    dsimp only
    rcases b_deeds q m (h := h) he hel hw (E := E) (A := A) (B := B) (C := C) (F := F) (hp a List.mem_cons_self) l hz X with ⟨c, kv1, l1, b⟩ | ⟨c, σ', h', b, ht⟩
    · rw [b]
      dsimp only
      rcases l_deeds q m (h := h) he hel hw (E := E) (A := A) (B := B) (C := C) (F := F) ps (stepW (M1 M n k) e T a) kv1 (some (.str (tx [a]))) (some (dT (col M a))) (some (dT (dmv M (e.1.getD (List.range n)) a))) (fun x hx => hp x (List.mem_cons_of_mem _ hx)) l1 c with ⟨c', kvs', Y', Z', X', l', r⟩ | ⟨c', σ', h', r, ht⟩
      · refine .inl ⟨c', kvs', Y', Z', X', l', ?_⟩
        rw [← r]
        generalize stepW (M1 M n k) e T a = T1 at *
        generalize wat M k E = ww at *
        generalize e.1.getD (List.range n) = d at *
        generalize stp M = stp at *
        have hlen : (hp1 h n T kvs).length = h.length + 2 := by simp [hp1]
        rw [hlen]
        have tk : (hp1 h n T1 kv1).take (h.length + 2) = hp1 h n T1 kv1 := List.take_of_length_le (by simp [hp1])
        rw [tk]
        simp [-ab_deeds_of_1]
        rfl
      · refine .inr ⟨c', σ', h', ?_, ht⟩
        rw [← r]
        generalize stepW (M1 M n k) e T a = T1 at *
        generalize wat M k E = ww at *
        generalize e.1.getD (List.range n) = d at *
        generalize stp M = stp at *
        have hlen : (hp1 h n T kvs).length = h.length + 2 := by simp [hp1]
        rw [hlen]
        have tk : (hp1 h n T1 kv1).take (h.length + 2) = hp1 h n T1 kv1 := List.take_of_length_le (by simp [hp1])
        rw [tk]
        simp [-ab_deeds_of_1]
        rfl
    · rw [b]
      exact .inr ⟨Nat.lt_of_lt_of_le c (fold_len _ _ _ _).1, σ', h', rfl, ht⟩
theorem n_sortL {ds : List D} {h : Hs} (ok : sortOk ds = true) : nSorted [.d (.lv ds)] h = some (.d (.lv (sortD ds)), h) := by
  unfold nSorted lstOf
  dsimp only
  rw [if_pos ok]
theorem e_deeds (q : Nat) {M : List (List Nat)} {n k J : Nat} (m : Mv M n k) (E : D) (hJ : J ≤ 61) (h1 : ∀ i, i < J → i < (W (M1 M n k) i).length ∧ (W (M1 M n k) i).length ≤ 61) (h2 : ((W (M1 M n k) J).length = J ∧ J ≤ 61) ∨ 61 < (W (M1 M n k) J).length) (h : Hs) :
    ((W (M1 M n k) J).length = J ∧ callF defs (q + 3) 9 [.d (wat M k E)] h = .ok (.d (lot M n k E (.tup (sortD (((W (M1 M n k) J).map (en1 n)).drop 1))))) h) ∨
    (61 < (W (M1 M n k) J).length ∧ callF defs (q + 3) 9 [.d (wat M k E)] h = .exc ⟨2, []⟩ h) := by
  have ec := callF_at (defs := defs) (n := q + 2) (i := 9) (md := ⟨1, 14, false, m_deeds_of⟩) (xs := [.d (wat M k E)]) (h := h) rfl rfl
  have J0 : 0 < J := by
    by_cases c : J = 0
    · subst c
      rcases h2 with ⟨h2, _⟩ | h2
      · simp [W] at h2
      · simp [W] at h2
    · omega
  have lp : ((W (M1 M n k) J).length = J ∧ ∃ kvs σ', sWh (w_deeds_of_2 (callF defs (q + 2))) (b_deeds_of_3 (callF defs (q + 2))) [some (.d (wat M k E)), some (.d (.str (tx (List.range k)))), some (.d (dT (List.range n))), some (.d (.lv ((List.range k).map (stp M)))), some (.r h.length), some (.r (h.length + 1)), some (.d (dn 0)), none, none, none, none, none, none, none] (hp1 h n [((none : S1), [])] []) = .ok .nx σ' (hp1 h n (W (M1 M n k) J) kvs) ∧ ∃ A B C D' E' F, σ' = [some (.d (wat M k E)), some (.d (.str (tx (List.range k)))), some (.d (dT (List.range n))), some (.d (.lv ((List.range k).map (stp M)))), some (.r h.length), some (.r (h.length + 1)), some (.d A), od B, od C, od D', od E', od F, none, none]) ∨
      (61 < (W (M1 M n k) J).length ∧ ∃ σ' h', sWh (w_deeds_of_2 (callF defs (q + 2))) (b_deeds_of_3 (callF defs (q + 2))) [some (.d (wat M k E)), some (.d (.str (tx (List.range k)))), some (.d (dT (List.range n))), some (.d (.lv ((List.range k).map (stp M)))), some (.r h.length), some (.r (h.length + 1)), some (.d (dn 0)), none, none, none, none, none, none, none] (hp1 h n [((none : S1), [])] []) = .exc ⟨2, []⟩ σ' h' ∧ h'.take h.length = h) := by
    generalize hAL : D.str (tx (List.range k)) = AL
    generalize hSM : dT (List.range n) = SM
    refine wh_indX (R := fun r => ((W (M1 M n k) J).length = J ∧ ∃ kvs σ', r = .ok .nx σ' (hp1 h n (W (M1 M n k) J) kvs) ∧ ∃ A B C D' E' F, σ' = [some (.d (wat M k E)), some (.d AL), some (.d SM), some (.d (.lv ((List.range k).map (stp M)))), some (.r h.length), some (.r (h.length + 1)), some (.d A), od B, od C, od D', od E', od F, none, none]) ∨
      (61 < (W (M1 M n k) J).length ∧ ∃ σ' h', r = .exc ⟨2, []⟩ σ' h' ∧ h'.take h.length = h))
      (fun z σ h' => ∃ (j : Nat) (T : List (S1 × Wd)) (kvs : List (List L2.Key × D)) (B C D' E' F : Option D), j + z = J ∧ T = W (M1 M n k) j ∧ T.length ≤ 61 ∧ Lst (rows1 T) kvs ∧ σ = [some (.d (wat M k E)), some (.d AL), some (.d SM), some (.d (.lv ((List.range k).map (stp M)))), some (.r h.length), some (.r (h.length + 1)), some (.d (dn j)), od B, od C, od D', od E', od F, none, none] ∧ h' = hp1 h n T kvs)
      (n := J) ⟨0, _, _, none, none, none, none, none, Nat.zero_add _, rfl, by simp [W], Lst.nil, rfl, rfl⟩ (by omega) ?_
    rintro z σ h' ⟨j, T, kvs, B, C, D', E', F, hj, hT, hT61, l, rfl, rfl⟩
    have at0 : ∀ TD : List D, (h ++ [O.lst TD, O.dt kvs])[h.length]? = some (.lst TD) := fun TD => by simp
    have nl := n_lenR (at0 (T.map (en1 n)))
    rw [en1_len] at nl
    have tst : w_deeds_of_2 (callF defs (q + 2)) [some (.d (wat M k E)), some (.d AL), some (.d SM), some (.d (.lv ((List.range k).map (stp M)))), some (.r h.length), some (.r (h.length + 1)), some (.d (dn j)), od B, od C, od D', od E', od F, none, none] (hp1 h n T kvs) = .ok (decide (j < T.length)) (hp1 h n T kvs) := by
      have dd : decide ((j : Int) < (T.length : Int)) = decide (j < T.length) := decide_eq_decide.mpr (by omega)
      generalize wat M k E = ww at *
      unfold hp1 dn at *
      generalize T.map (en1 n) = TD at *
      generalize (List.range k).map (stp M) = SL at *
      simp [nl, dd]
    rw [tst]
    by_cases c : j = J
    · have hcl : (W (M1 M n k) J).length = J := by
        rcases h2 with ⟨h2, _⟩ | h2
        · exact h2
        · rw [← c, ← hT] at h2; omega
      rw [decide_eq_false (by rw [hT, c, hcl]; omega)]
      refine .inl ⟨hcl, kvs, _, by rw [hT, c], dn j, B, C, D', E', F, rfl⟩
    · have hlt : j < J := by omega
      obtain ⟨g1, g2⟩ := h1 j hlt
      rw [← hT] at g1 g2
      rw [decide_eq_true g1]
      refine ⟨z - 1, by omega, ?_⟩
      have he := List.getElem?_eq_getElem g1
      have hm : T[j] ∈ W (M1 M n k) j := by rw [← hT]; exact List.getElem_mem g1
      obtain ⟨e1, e2, e3, e4, e5⟩ := ent m hm
      have tn : W (M1 M n k) (j + 1) = nextW (M1 M n k) T[j] T := by
        rw [W_succ (by rw [← hT]; exact he), ← hT]
      have ix : oIx (.r h.length) (.d (dn j)) (hp1 h n T kvs) = some (.d (en1 n T[j]), hp1 h n T kvs) := by
        have := o_ixR (k := h.length) (xs := T.map (en1 n)) (h := hp1 h n T kvs) (by simp) (j : Int)
        rw [atI_nat, List.getElem?_map, he] at this
        exact this
      have fl := l_deeds (q + 1) m (h := h) e1 (by have := m.n4; omega) (by omega) (E := E) (A := AL) (B := SM) (C := .lv ((List.range k).map (stp M))) (F := dn (j + 1)) (List.range k) T kvs D' E' F (fun a ha => List.mem_range.mp ha) l g2
      have bb : b_deeds_of_3 (callF defs (q + 2)) [some (.d (wat M k E)), some (.d AL), some (.d SM), some (.d (.lv ((List.range k).map (stp M)))), some (.r h.length), some (.r (h.length + 1)), some (.d (dn j)), od B, od C, od D', od E', od F, none, none] (hp1 h n T kvs) =
          forL (gTp 2 (gCo (gNm 9) (gCo (gNm 10) gNi))) (b_deeds_of_1 (callF defs (q + 2))) ((List.range k).map (stp M)) [some (.d (wat M k E)), some (.d AL), some (.d SM), some (.d (.lv ((List.range k).map (stp M)))), some (.r h.length), some (.r (h.length + 1)), some (.d (dn (j + 1))), some (.d (dT (T[j].1.getD (List.range n)))), some (.d (.str (tx T[j].2))), od D', od E', od F, none, none] (hp1 h n T kvs) := by
        rw [ab_deeds_of_3]
        refine sq_go (σ1 := [some (.d (wat M k E)), some (.d AL), some (.d SM), some (.d (.lv ((List.range k).map (stp M)))), some (.r h.length), some (.r (h.length + 1)), some (.d (dn j)), some (.d (dT (T[j].1.getD (List.range n)))), some (.d (.str (tx T[j].2))), od D', od E', od F, none, none]) (h1 := hp1 h n T kvs) ?_ ?_
        · have een : en1 n T[j] = .tup [dT (T[j].1.getD (List.range n)), .str (tx T[j].2)] := rfl
          rw [een] at ix
          generalize hp1 h n T kvs = hh at *
          generalize dT (T[j].1.getD (List.range n)) = z1 at *
          generalize wat M k E = ww at *
          generalize (List.range k).map (stp M) = SL at *
          simp [ix]
        refine sq_go (σ1 := [some (.d (wat M k E)), some (.d AL), some (.d SM), some (.d (.lv ((List.range k).map (stp M)))), some (.r h.length), some (.r (h.length + 1)), some (.d (dn (j + 1))), some (.d (dT (T[j].1.getD (List.range n)))), some (.d (.str (tx T[j].2))), od D', od E', od F, none, none]) (h1 := hp1 h n T kvs) ?_ ?_
        · generalize hp1 h n T kvs = hh at *
          generalize wat M k E = ww at *
          generalize (List.range k).map (stp M) = SL at *
          simp [dn]
        · generalize hp1 h n T kvs = hh at *
          generalize wat M k E = ww at *
          generalize (List.range k).map (stp M) = SL at *
          simp [-ab_deeds_of_1]
      have fe : (List.range k).foldl (stepW (M1 M n k) T[j]) T = W (M1 M n k) (j + 1) := tn.symm
      rw [fe] at fl
      rw [bb]
      rcases fl with ⟨c1, kvs', Y', Z', X', l', r⟩ | ⟨c1, σ', h', r, ht⟩
      · rw [r]
        refine ⟨j + 1, W (M1 M n k) (j + 1), kvs', some (dT (T[j].1.getD (List.range n))), some (.str (tx T[j].2)), Y', Z', X', by omega, rfl, c1, l', ?_, ?_⟩
        · have hlen : (hp1 h n T kvs).length = h.length + 2 := by simp [hp1]
          rw [hlen]
          generalize wat M k E = ww at *
          generalize (List.range k).map (stp M) = SL at *
          simp
          exact ⟨rfl, rfl⟩
        · have hlen : (hp1 h n T kvs).length = h.length + 2 := by simp [hp1]
          rw [hlen]
          exact List.take_of_length_le (by simp [hp1])
      · rw [r]
        have jJ : j + 1 = J := by
          by_cases c2 : j + 1 = J
          · exact c2
          · have := (h1 (j + 1) (by omega)).2; omega
        exact .inr ⟨by rw [← jJ]; exact c1, σ', h', rfl, ht⟩
  have ea := e_alpha (q + 1) m.k0 m.k3 h
  have tr : trR (.d (dn n)) h = .ok (.d (dT (List.range n))) h := by
    have := trR_nat (k := n) (h := h) (by have := m.n4; omega)
    rw [rng_d] at this
    exact this
  have es := e_steps (callF defs (q + 2)) m E h (dT (List.range n))
  have e0 : en1 n ((none : S1), []) = .tup [dT (List.range n), .str ""] := by
    show D.tup [dT (List.range n), .str (tx [])] = _
    rw [tx_nil]
  -- up to the search
  have pre : ∀ r, sSq (sWh (w_deeds_of_2 (callF defs (q + 2))) (b_deeds_of_3 (callF defs (q + 2)))) (sRt (eMk (callF defs (q + 2)) 1 3 [] (aCons (eVar 0) (aCons (eN nTuple (aCons (eN nSorted (aCons (eSl (eVar 4) (oSome (eK (.int 1))) oNone) aNil)) aNil)) aNil)))) [some (.d (wat M k E)), some (.d (.str (tx (List.range k)))), some (.d (dT (List.range n))), some (.d (.lv ((List.range k).map (stp M)))), some (.r h.length), some (.r (h.length + 1)), some (.d (dn 0)), none, none, none, none, none, none, none] (hp1 h n [((none : S1), [])] []) = r →
      m_deeds_of (callF defs (q + 2)) (startL 14 [.d (wat M k E)]) h = r := by
    intro r hr
    rw [am_deeds_of]
    refine sq_go (σ1 := [some (.d (wat M k E)), some (.d (.str (tx (List.range k)))), none, none, none, none, none, none, none, none, none, none, none, none]) (h1 := h) ?_ ?_
    · have fe : eFd ok_letters 3 (eVar 0) [some (.d (wat M k E)), none, none, none, none, none, none, none, none, none, none, none, none, none] h = .ok (.d (dn k)) h := by simp [ok_letters, List.lookup]
      generalize wat M k E = ww at *
      simp [startL, fe, ea, -ap_fd]
    refine sq_go (σ1 := [some (.d (wat M k E)), some (.d (.str (tx (List.range k)))), some (.d (dT (List.range n))), none, none, none, none, none, none, none, none, none, none, none]) (h1 := h) ?_ ?_
    · have fe : eFd ok_states 2 (eVar 0) [some (.d (wat M k E)), some (.d (.str (tx (List.range k)))), none, none, none, none, none, none, none, none, none, none, none, none] h = .ok (.d (dn n)) h := by simp [ok_states, List.lookup, m.len]
      generalize wat M k E = ww at *
      generalize dT (List.range n) = z at *
      simp [fe, tr, -ap_fd]
    refine sq_go (σ1 := [some (.d (wat M k E)), some (.d (.str (tx (List.range k)))), some (.d (dT (List.range n))), some (.d (.lv ((List.range k).map (stp M)))), none, none, none, none, none, none, none, none, none, none]) (h1 := h) ?_ ?_
    · exact as_nx es rfl
    refine sq_go (σ1 := [some (.d (wat M k E)), some (.d (.str (tx (List.range k)))), some (.d (dT (List.range n))), some (.d (.lv ((List.range k).map (stp M)))), some (.r h.length), some (.r (h.length + 1)), some (.d (dn 0)), none, none, none, none, none, none, none]) (h1 := hp1 h n [((none : S1), [])] []) ?_ hr
    · unfold hp1
      rw [List.map_cons, List.map_nil, e0]
      generalize wat M k E = ww at *
      generalize dT (List.range n) = z at *
      generalize (List.range k).map (stp M) = SL at *
      simp [sPar]
      rfl
  rcases lp with ⟨hcl, kvs, σ', r, A, B, C, D', E', F, hσ⟩ | ⟨hcl, σ', h', r, ht⟩
  · refine .inl ⟨hcl, ?_⟩
    subst hσ
    have hk : ∀ e ∈ (W (M1 M n k) J).drop 1, ∀ a ∈ e.2, a < 3 := fun e he a ha => by
      have := (ent m (List.mem_of_mem_drop he)).2.2.2.1 a ha
      have := m.k3
      omega
    have so : sortOk (((W (M1 M n k) J).map (en1 n)).drop 1) = true := by
      rw [← List.map_drop]
      exact sort_en n _ (by rw [List.length_drop]; omega) hk
    have sl : ∀ TD : List D, slO (.r h.length) (some 1) none (h ++ [O.lst TD, O.dt kvs]) = some (.d (.lv (TD.drop 1)), h ++ [O.lst TD, O.dt kvs]) := fun TD => by
      show (match lstOf (.r h.length) (h ++ [O.lst TD, O.dt kvs]) with | some xs => _ | none => _) = _
      simp [lstOf, cut1]
    have b : m_deeds_of (callF defs (q + 2)) (startL 14 [.d (wat M k E)]) h = .ok (.ret (.d (lot M n k E (.tup (sortD (((W (M1 M n k) J).map (en1 n)).drop 1)))))) [some (.d (wat M k E)), some (.d (.str (tx (List.range k)))), some (.d (dT (List.range n))), some (.d (.lv ((List.range k).map (stp M)))), some (.r h.length), some (.r (h.length + 1)), some (.d A), od B, od C, od D', od E', od F, none, none] (hp1 h n (W (M1 M n k) J) kvs) := by
      refine pre _ (sq_go r ?_)
      unfold hp1
      have sl' := sl ((W (M1 M n k) J).map (en1 n))
      have so' : ∀ h', nSorted [.d (.lv (((W (M1 M n k) J).map (en1 n)).drop 1))] h' = _ := fun h' => n_sortL so
      have mk : ∀ T h', mkI (callF defs (q + 2)) 1 3 [.d (wat M k E), .d T] h' = .ok (.d (lot M n k E T)) h' := fun T h' => mk_deeds q m E T h'
      generalize (W (M1 M n k) J).map (en1 n) = TD at *
      generalize TD.drop 1 = TX at *
      generalize (List.range k).map (stp M) = SL at *
      generalize dT (List.range n) = z at *
      generalize lot M n k E = LT at *
      generalize wat M k E = ww at *
      simp [sl', so', mk]
    rw [ec]
    show fin false h.length (m_deeds_of (callF defs (q + 2)) (startL 14 [.d (wat M k E)]) h) = _
    rw [b, fin_ret]
    simp [hp1]
  · refine .inr ⟨hcl, ?_⟩
    have b : m_deeds_of (callF defs (q + 2)) (startL 14 [.d (wat M k E)]) h = .exc ⟨2, []⟩ σ' h' := by
      refine pre _ ?_
      rw [ap_sq, r]
      rfl
    rw [ec]
    show fin false h.length (m_deeds_of (callF defs (q + 2)) (startL 14 [.d (wat M k E)]) h) = _
    rw [b]
    show Res.exc _ (h'.take h.length) = _
    rw [ht]
theorem e_lot (q : Nat) {M : List (List Nat)} {n k J : Nat} (m : Mv M n k) (E : D) (hJ : J ≤ 61) (h1 : ∀ i, i < J → i < (W (M1 M n k) i).length ∧ (W (M1 M n k) i).length ≤ 61) (h2 : ((W (M1 M n k) J).length = J ∧ J ≤ 61) ∨ 61 < (W (M1 M n k) J).length) (h : Hs) :
    ((W (M1 M n k) J).length = J ∧ callF defs (q + 4) 24 [.d (wat M k E)] h = .ok (.d (lot M n k E (.tup (sortD (((W (M1 M n k) J).map (en1 n)).drop 1))))) h) ∨
    (61 < (W (M1 M n k) J).length ∧ callF defs (q + 4) 24 [.d (wat M k E)] h = .ok (.d .non) h) := by
  have ec := callF_at (defs := defs) (n := q + 3) (i := 24) (md := ⟨1, 1, false, m__law_lot⟩) (xs := [.d (wat M k E)]) (h := h) rfl rfl
  rcases e_deeds q m E hJ h1 h2 h with ⟨c, e⟩ | ⟨c, e⟩
  · refine .inl ⟨c, ?_⟩
    rw [ec]
    generalize sortD (((W (M1 M n k) J).map (en1 n)).drop 1) = TD at *
    generalize lot M n k E = LT at *
    generalize wat M k E = ww at *
    simp [startL, e]
  · refine .inr ⟨c, ?_⟩
    rw [ec]
    generalize wat M k E = ww at *
    have tb : (isxC xPar xS 2).lookup 2 = some true := by decide
    simp [startL, e, tb]
end K12

namespace K12
open PySem PySem.Spec Mi
/-! ### keys (number, text) -/
def kyD (a : Nat) (w : Wd) : D := .tup [dn a, .str (tx w)]
theorem lt_list : ∀ w u : Wd, decide (w.map (· + 97) < u.map (· + 97)) = ltW w u
  | [], [] => by simp [lexB]
  | [], b :: u => by simp [lexB]
  | a :: w, [] => by simp [lexB]
  | a :: w, b :: u => by
    have ih := lt_list w u
    rw [List.map_cons, List.map_cons]
    show _ = (if a = b then lexB ltN w u else ltN a b)
    rw [show lexB ltN w u = _ from ih.symm]
    by_cases e : a = b
    · subst e
      rw [if_pos rfl]
      refine decide_eq_decide.mpr ?_
      rw [List.cons_lt_cons_iff]
      constructor
      · rintro (h | ⟨_, h⟩)
        · omega
        · exact h
      · exact fun h => .inr ⟨rfl, h⟩
    · rw [if_neg e]
      unfold ltN
      refine decide_eq_decide.mpr ?_
      rw [List.cons_lt_cons_iff]
      constructor
      · rintro (h | ⟨h, _⟩) <;> omega
      · exact fun h => .inl (by omega)
theorem str_lt (w u : Wd) : PySem.W.dataLt (.str (tx w)) (.str (tx u)) = ltW w u := by
  rw [PySem.W.dataLt_str, ← lt_list]
  refine decide_eq_decide.mpr ?_
  show (w.map (· + 97)).toArray.toList < (u.map (· + 97)).toArray.toList ↔ _
  rw [List.toList_toArray, List.toList_toArray]
theorem ky_pd (a : Nat) (w : Wd) : (kyD a w).pd = .tuple [.int (a : Nat), .str (tx w)] := by
  unfold kyD dn
  rw [D.pd, D.pds, D.pds, D.pds]
  rfl
theorem eqv_str (w u : Wd) : PyData.eqv (.str (tx w)) (.str (tx u)) = decide (w = u) := by
  rw [PyData.eqv]
  by_cases e : w = u
  · subst e; simp
  · have : ¬ tx w = tx u := fun q => e (tx_inj q)
    simp [this, e]
theorem ltD_ky (a b : Nat) (w u : Wd) : ltD (kyD a w) (kyD b u) = (decide (a < b) || (decide (a = b) && ltW w u)) := by
  unfold ltD
  rw [ky_pd, ky_pd, PySem.W.dataLt_pair (by simp [PySem.W.alike]) (by simp [PySem.W.alike]), PySem.W.dataLt_int, str_lt, eqv_str]
  simp only [PyData.eqv, beq_iff_eq]
  by_cases e : (a : Int) = (b : Int)
  · have e' : a = b := by omega
    rw [if_pos e, decide_eq_false (by omega : ¬ a < b), decide_eq_true e', Bool.false_or, Bool.true_and]
    by_cases q : w = u
    · subst q
      rw [decide_eq_true rfl, if_pos rfl]
      exact (sto_word.irr w).symm
    · rw [decide_eq_false q, if_neg Bool.false_ne_true]
  · have e' : ¬ a = b := by omega
    rw [if_neg e, decide_eq_false e', Bool.false_and, Bool.or_false]
    exact decide_eq_decide.mpr (by omega)
theorem sm_ky (a : Nat) {w : Wd} (hw : ∀ x ∈ w, x < 3) : Sm 1 (kyD a w) := fun x hx => by
  rcases List.mem_cons.mp hx with rfl | hx
  · exact trivial
  · have := List.mem_singleton.mp hx
    subst this
    exact str_tx hw
theorem alike_ky (a b : Nat) (w u : Wd) : PySem.W.alike (kyD a w).pd (kyD b u).pd = true := by
  rw [ky_pd, ky_pd]
  simp only [PySem.W.alike, PySem.W.alikeAll, Bool.and_self]
theorem o_ltKy (a b : Nat) {w u : Wd} (hw : ∀ x ∈ w, x < 3) (hu : ∀ x ∈ u, x < 3) (h : Hs) : oLtD (.d (kyD a w)) (.d (kyD b u)) h = some (.d (.bl (decide (a < b) || (decide (a = b) && ltW w u))), h) := by
  have e : oLtD (.d (kyD a w)) (.d (kyD b u)) h = if (shp (kyD a w) && shp (kyD b u)) && (PySem.W.alike (kyD a w).pd (kyD b u).pd && !isNon (.d (kyD a w))) then some (.d (.bl (ltD (kyD a w) (kyD b u))), h) else none := rfl
  rw [e, (sm_ky a hw).shp (by omega), (sm_ky b hu).shp (by omega), alike_ky, ltD_ky]
  rfl
/-! ### == of deeds, of texts -/
def zi (f : List Nat) : List Int := f.map fun (s : Nat) => (s : Int)
theorem dT_iT (f : List Nat) : dT f = iT (zi f) := by
  unfold dT iT zi
  rw [List.map_map]
  rfl
theorem zi_inj {f g : List Nat} (h : zi f = zi g) : f = g := (List.map_inj_right fun (a b : Nat) e => Int.ofNat.inj e).mp h
theorem dec_zi (f g : List Nat) : decide (zi f = zi g) = decide (f = g) := decide_eq_decide.mpr ⟨zi_inj, fun e => by rw [e]⟩
theorem o_eqD (f g : List Nat) (h : Hs) : oEq (.d (dT f)) (.d (dT g)) h = some (.d (.bl (decide (f = g))), h) := by
  rw [dT_iT, dT_iT, o_eqT, dec_zi]
theorem o_neD (f g : List Nat) (h : Hs) : oNe (.d (dT f)) (.d (dT g)) h = some (.d (.bl (!decide (f = g))), h) := by
  rw [dT_iT, dT_iT, o_neT, dec_zi]
/-- a text or nothing -/
def ow (o : Option Wd) : D := match o with
  | some w => .str (tx w)
  | none => .non
theorem sm_ow {o : Option Wd} (hw : ∀ w, o = some w → ∀ x ∈ w, x < 3) : Sm 0 (ow o) := by
  cases o with
  | none => exact trivial
  | some w => exact str_tx (hw w rfl)
theorem o_neO {o : Option Wd} (hw : ∀ w, o = some w → ∀ x ∈ w, x < 3) (h : Hs) : oNe (.d (ow o)) (.d (ow o)) h = some (.d (.bl false), h) := o_neR (sm_ow hw) (by omega)
/-! ### the least word to a goal -/
def Best (M : List (List Nat)) (k s : Nat) (G : List Nat) : Option Wd → Prop
  | some w => w ≠ [] ∧ (∀ a ∈ w, a < k) ∧ go M s w ∈ G ∧ ∀ u, u ≠ [] → (∀ a ∈ u, a < k) → go M s u ∈ G → sle w u
  | none => ∀ u, u ≠ [] → (∀ a ∈ u, a < k) → go M s u ∉ G
theorem Best.uniq {M : List (List Nat)} {k s : Nat} {G : List Nat} {o p : Option Wd} (a : Best M k s G o) (b : Best M k s G p) : o = p := by
  cases o with
  | none =>
    cases p with
    | none => rfl
    | some w => exact absurd b.2.2.1 (a w b.1 b.2.1)
  | some w =>
    cases p with
    | none => exact absurd a.2.2.1 (b w a.1 a.2.1)
    | some u => rw [(a.2.2.2 u b.1 b.2.1 b.2.2.1).anti (b.2.2.2 w a.1 a.2.1 a.2.2.1)]
/-! ### the table -/
structure Tb (M : List (List Nat)) (n k : Nat) (P : List Wd) : Prop where
  nn : ∀ w ∈ P, w ≠ [] ∧ (∀ a ∈ w, a < k) ∧ w.length ≤ 62
  nd : (P.map (deed M n)).Nodup
  cl : ∀ u, u ≠ [] → (∀ a ∈ u, a < k) → ∃ w ∈ P, deed M n w = deed M n u ∧ sle w u
  ln : P.length ≤ 60
def enP (M : List (List Nat)) (n : Nat) (w : Wd) : D := .tup [dT (deed M n w), .str (tx w)]
theorem perm_lift {α β : Type} (f : α → β) {l l' : List β} (p : l.Perm l') : ∀ Q : List α, l' = Q.map f → ∃ P : List α, P.Perm Q ∧ P.map f = l := by
  induction p with
  | nil => intro Q e; exact ⟨Q, List.Perm.refl _, e.symm⟩
  | cons x _ ih =>
    intro Q e
    cases Q with
    | nil => cases e
    | cons q Q =>
      rw [List.map_cons] at e
      injection e with e1 e2
      obtain ⟨P, p1, p2⟩ := ih Q e2
      exact ⟨q :: P, p1.cons q, by rw [List.map_cons, p2, e1]⟩
  | swap x y l =>
    intro Q e
    match Q, e with
    | [], e => cases e
    | [_], e => cases e
    | a :: b :: Q, e =>
      rw [List.map_cons, List.map_cons] at e
      injection e with e1 e2
      injection e2 with e2 e3
      exact ⟨b :: a :: Q, List.Perm.swap a b Q, by rw [List.map_cons, List.map_cons, e1, e2, e3]⟩
  | trans _ _ ih1 ih2 =>
    intro Q e
    obtain ⟨P, p1, p2⟩ := ih2 Q e
    obtain ⟨P', p3, p4⟩ := ih1 P p2.symm
    exact ⟨P', p3.trans p1, p4⟩
theorem tb_of {M : List (List Nat)} {n k J : Nat} (m : Mv M n k) (hJ : (W (M1 M n k) J).length = J) (h61 : J ≤ 61) : ∃ P, Tb M n k P ∧ sortD (((W (M1 M n k) J).map (en1 n)).drop 1) = P.map (enP M n) ∧ P.length = J - 1 := by
  have I := W_inv (M1 M n k) J
  have hE := fun e he => ent (j := J) m (e := e) he
  have R := fun (u : Wd) => reach_all I (Nat.le_of_eq hJ) u.length u rfl
  have nd := I.g.nd
  have st := I.st
  generalize hT : W (M1 M n k) J = T at *
  cases T with
  | nil => cases st
  | cons e0 L =>
    cases st
    have ne : ∀ e ∈ L, e.2 ≠ [] := fun e he q => by
      have h5 := (hE e (List.mem_cons_of_mem _ he)).2.2.2.2
      rw [if_pos q] at h5
      rw [List.map_cons, List.nodup_cons] at nd
      exact nd.1 (List.mem_map.mpr ⟨e, he, h5⟩)
    have ed : ∀ e ∈ L, e.1 = some (deed M n e.2) := fun e he => by
      have h5 := (hE e (List.mem_cons_of_mem _ he)).2.2.2.2
      rw [if_neg (ne e he)] at h5
      exact h5
    have em : (((((M1 M n k).st, []) :: L : List (S1 × Wd))).map (en1 n)).drop 1 = (L.map (·.2)).map (enP M n) := by
      rw [List.map_cons, List.drop_one, List.tail_cons, List.map_map]
      refine List.map_congr_left fun e he => ?_
      show D.tup [dT (e.1.getD (List.range n)), .str (tx e.2)] = _
      rw [ed e he]; rfl
    rw [em]
    obtain ⟨P, p1, p2⟩ := perm_lift (enP M n) (l := sortD ((L.map (·.2)).map (enP M n))) (List.mergeSort_perm _ _) (L.map (·.2)) rfl
    have lL : L.length + 1 = J := hJ
    have pl : P.length = L.length := by rw [p1.length_eq, List.length_map]
    refine ⟨P, ⟨fun w hw => ?_, ?_, fun u hu hk => ?_, by omega⟩, p2.symm, by omega⟩
    · obtain ⟨e, he, rfl⟩ := List.mem_map.mp (p1.mem_iff.mp hw)
      obtain ⟨_, _, h3, h4, _⟩ := hE e (List.mem_cons_of_mem _ he)
      exact ⟨ne e he, h4, by omega⟩
    · have q : (P.map (deed M n)).Perm ((L.map (·.2)).map (deed M n)) := p1.map _
      rw [q.nodup_iff]
      rw [List.map_cons, List.nodup_cons] at nd
      have : L.map (·.1) = ((L.map (·.2)).map (deed M n)).map some := by
        rw [List.map_map, List.map_map]
        exact List.map_congr_left fun e he => ed e he
      have nd2 := nd.2
      rw [this] at nd2
      rw [List.nodup_iff_pairwise_ne] at nd2 ⊢
      exact (List.pairwise_map.mp nd2).imp fun h q => h (by rw [q])
    · obtain ⟨e, he, h1, h2⟩ := R u hk
      have ru : (M1 M n k).run u = some (deed M n u) := by
        rcases List.eq_nil_or_concat u with rfl | ⟨v, a, rfl⟩
        · exact absurd rfl hu
        · rw [List.concat_eq_append] at *
          have key : ∀ (w : Wd) (d : List Nat), w.foldl (M1 M n k).nx (some d) = some (w.foldl (dmv M) d) := by
            intro w
            induction w with
            | nil => intro d; rfl
            | cons b w ih => intro d; exact ih (dmv M d b)
          have k2 : ∀ (w : Wd) (f : Nat → Nat), w.foldl (dmv M) ((List.range n).map f) = (List.range n).map fun s => w.foldl (mv M) (f s) := by
            intro w
            induction w with
            | nil => intro f; rfl
            | cons b w ih =>
              intro f
              have : dmv M ((List.range n).map f) b = (List.range n).map fun s => mv M (f s) b := by
                unfold dmv
                rw [List.map_map]; rfl
              rw [List.foldl_cons, this, ih]
              rfl
          unfold Mach.run
          generalize v ++ [a] = z at *
          cases z with
          | nil => exact absurd rfl hu
          | cons b z =>
            have e1 : (M1 M n k).nx (M1 M n k).st b = some ((List.range n).map fun s => mv M s b) := rfl
            rw [List.foldl_cons, e1, key, k2]
            rfl
      rw [ru] at h1
      rcases List.mem_cons.mp he with rfl | he
      · cases h1
      · refine ⟨e.2, p1.mem_iff.mpr (List.mem_map.mpr ⟨e, he, rfl⟩), ?_, h2⟩
        have := ed e he
        rw [h1] at this
        exact (Option.some.inj this).symm
theorem Tb.find {M : List (List Nat)} {n k : Nat} {P : List Wd} (t : Tb M n k P) {w : Wd} (hw : w ∈ P) : P.find? (fun u => decide (deed M n u = deed M n w)) = some w := by
  have nd := t.nd
  clear t
  induction P with
  | nil => cases hw
  | cons x P ih =>
    rw [List.map_cons, List.nodup_cons] at nd
    rw [List.find?_cons]
    rcases List.mem_cons.mp hw with rfl | hw
    · simp
    · have : ¬ deed M n x = deed M n w := fun q => nd.1 (List.mem_map.mpr ⟨w, hw, q.symm⟩)
      rw [decide_eq_false this]
      exact ih hw nd.2
end K12

namespace K12
open PySem PySem.Spec Mi
def tbD (M : List (List Nat)) (n : Nat) (P : List Wd) : D := .tup (P.map (enP M n))
theorem n_lenS {w : Wd} (hw : w.length ≤ 1000000) (h : Hs) : nLen [.d (.str (tx w))] h = some (.d (dn w.length), h) := by
  show (if (tx w).length ≤ sizeLine then some (Vl.d (.int (tx w).length), h) else none) = _
  rw [tx_len, if_pos (Nat.le_of_lt (lts hw))]; rfl
/-- goals, in a tuple or a list -/
def gv (b : Bool) (G : List Nat) : D := if b = true then .tup (G.map dn) else .lv (G.map dn)
theorem in_any (x : Nat) : ∀ G : List Nat, (G.map dn).any (fun z => eqF z (dn x)) = decide (x ∈ G)
  | [] => by simp
  | g :: G => by
    rw [List.map_cons, List.any_cons, in_any x G]
    have e : eqF (dn g) (dn x) = decide (x = g) := by
      show ((g : Int) == (x : Int)) = _
      by_cases q : x = g
      · subst q; simp
      · have : ¬ (g : Int) = (x : Int) := by omega
        simp [q, this]
    rw [e]
    simp
theorem all_fl (G : List Nat) : (G.map dn).all flD = true := by
  rw [List.all_eq_true]
  intro z hz
  obtain ⟨g, _, rfl⟩ := List.mem_map.mp hz
  rfl
theorem in_gv (b : Bool) (x : Nat) (G : List Nat) (h : Hs) : oInF false (.d (dn x)) (.d (gv b G)) h = some (.d (.bl (decide (x ∈ G))), h) := by
  have s : seqOf (.d (gv b G)) h = some (G.map dn) := by cases b <;> rfl
  have fx : flD (dn x) = true := rfl
  unfold oInF inF
  rw [s]
  dsimp only
  rw [if_pos ⟨fx, all_fl G⟩, in_any]
  rfl
theorem e_text_of (j : Nat) (M : List (List Nat)) (n k : Nat) (E : D) (P : List Wd) (d : List Nat) (h : Hs) :
    callF defs (j + 1) 5 [.d (lot M n k E (tbD M n P)), .d (dT d)] h = .ok (.d (ow (P.find? fun w => decide (deed M n w = d)))) h := by
  have ec := callF_at (defs := defs) (n := j) (i := 5) (md := ⟨2, 4, false, m_Deeds_text_of⟩) (xs := [.d (lot M n k E (tbD M n P)), .d (dT d)]) (h := h) rfl rfl
  have fe : eFd ok_table 1 (eVar 0) (startL 4 [.d (lot M n k E (tbD M n P)), .d (dT d)]) h = .ok (.d (tbD M n P)) h := by simp [startL, ok_table, List.lookup]
  generalize hLT : lot M n k E (tbD M n P) = LT at *
  have lp : ∀ (Q : List Wd) (X Y : Option D), ∃ σ', forL (gTp 2 (gCo (gNm 2) (gCo (gNm 3) gNi))) (b_Deeds_text_of_1 (callF defs j)) (Q.map (enP M n)) [some (.d LT), some (.d (dT d)), od X, od Y] h = match Q.find? (fun w => decide (deed M n w = d)) with
      | some w => .ok (.ret (.d (.str (tx w)))) σ' h
      | none => .ok .nx σ' h := by
    intro Q
    induction Q with
    | nil => intro X Y; exact ⟨[some (.d LT), some (.d (dT d)), od X, od Y], by simp [forL]⟩
    | cons w Q ih =>
      intro X Y
      have o := o_eqD (deed M n w) d h
      by_cases q : deed M n w = d
      · refine ⟨[some (.d LT), some (.d (dT d)), some (.d (dT (deed M n w))), some (.d (.str (tx w)))], ?_⟩
        rw [List.find?_cons, decide_eq_true q]
        rw [decide_eq_true q] at o
        have en : enP M n w = .tup [dT (deed M n w), .str (tx w)] := rfl
        rw [List.map_cons, en]
        generalize dT (deed M n w) = z at *
        generalize dT d = z2 at *
        simp [forL, o]
      · obtain ⟨σ', r⟩ := ih (some (dT (deed M n w))) (some (.str (tx w)))
        refine ⟨σ', ?_⟩
        rw [List.find?_cons, decide_eq_false q]
        rw [decide_eq_false q] at o
        dsimp only
        rw [← r]
        have en : enP M n w = .tup [dT (deed M n w), .str (tx w)] := rfl
        rw [List.map_cons, en]
        generalize dT (deed M n w) = z at *
        generalize dT d = z2 at *
        simp [forL, o]
        rfl
  obtain ⟨σ', r⟩ := lp P none none
  have ps : pureSeq (.d (tbD M n P)) = some (P.map (enP M n)) := rfl
  rw [ec]
  show fin false h.length (m_Deeds_text_of (callF defs j) (startL 4 [.d LT, .d (dT d)]) h) = _
  rw [am_Deeds_text_of]
  have fo : sFor (iSeq (eFd (ok_table) 1 (eVar 0))) (gTp 2 (gCo (gNm 2) (gCo (gNm 3) gNi))) (b_Deeds_text_of_1 (callF defs j)) (startL 4 [.d LT, .d (dT d)]) h = match P.find? (fun w => decide (deed M n w = d)) with
      | some w => .ok (.ret (.d (.str (tx w)))) σ' h
      | none => .ok .nx σ' h := by
    rw [ap_for, ap_iseq, fe]
    simp only [rb_ok, ps, sb_ok]
    exact r
  rw [ap_sq, fo]
  cases P.find? (fun w => decide (deed M n w = d)) with
  | none => simp [ow]
  | some w => simp [ow]
theorem e_reached (j : Nat) (M : List (List Nat)) {n k s : Nat} (hs : s < n) (E : D) (P : List Wd) (hP : P.length ≤ 60) (h : Hs) :
    callF defs (j + 1) 6 [.d (lot M n k E (tbD M n P)), .d (dn s)] h = .ok (.d (.tup ((sIns (P.map fun w => (go M s w : Int))).map D.int))) h := by
  have ec := callF_at (defs := defs) (n := j) (i := 6) (md := ⟨2, 4, false, m_Deeds_reached_from⟩) (xs := [.d (lot M n k E (tbD M n P)), .d (dn s)]) (h := h) rfl rfl
  have fe : eFd ok_table 1 (eVar 0) [some (.d (lot M n k E (tbD M n P))), some (.d (dn s)), none, none] h = .ok (.d (tbD M n P)) h := by simp [ok_table, List.lookup]
  generalize lot M n k E (tbD M n P) = LT at *
  have ps : pureSeq (.d (tbD M n P)) = some (P.map (enP M n)) := rfl
  have c := cmpL_all (vs := [2, 3]) (g := gTp 2 (gCo (gNm 2) (gCo (gNm 3) gNi))) (f := eBin oIx (eVar 2) (eVar 1)) (σ := [some (.d LT), some (.d (dn s)), none, none]) (h := h) (enP M n) (fun w => dn (go M s w)) P (lts (by omega)) fun w _ h' => by
    have en : enP M n w = .tup [dT (deed M n w), .str (tx w)] := rfl
    have ix := ix_dT (g := deed M n w) (s := s) (by rw [deed_len]; exact hs) h'
    rw [deed_at hs] at ix
    refine ⟨[some (.d LT), some (.d (dn s)), some (.d (dT (deed M n w))), some (.d (.str (tx w)))], ?_, ?_⟩
    · rw [en]
      generalize dT (deed M n w) = z at *
      simp [wipeL]
    · generalize dT (deed M n w) = z at *
      simp [ix]
  have em : (P.map fun w => dn (go M s w)) = (P.map fun w => (go M s w : Int)).map D.int := by
    rw [List.map_map]; rfl
  rw [em] at c
  have hl : (P.map fun w => (go M s w : Int)).length < 64 := by rw [List.length_map]; omega
  rw [ec]
  show fin false h.length (m_Deeds_reached_from (callF defs j) [some (.d LT), some (.d (dn s)), none, none] h) = _
  generalize (P.map fun w => (go M s w : Int)) = IS at *
  simp [fe, ps, c, hl, -ap_fd]
/-! ### path_text -/
def bst (M : List (List Nat)) (s : Nat) (G : List Nat) (b : Option Wd) (w : Wd) : Option Wd := if go M s w ∈ G then (match b with
  | none => some w
  | some u => if sl w u = true then some w else some u) else b
theorem e_path_text (j : Nat) (M : List (List Nat)) {n k s : Nat} (hs : s < n) (E : D) (P : List Wd) (hP : ∀ w ∈ P, w.length ≤ 1000 ∧ ∀ a ∈ w, a < 3) (b : Bool) (G : List Nat) (h : Hs) :
    callF defs (j + 1) 7 [.d (lot M n k E (tbD M n P)), .d (dn s), .d (gv b G)] h = .ok (.d (ow (P.foldl (bst M s G) none))) h := by
  have ec := callF_at (defs := defs) (n := j) (i := 7) (md := ⟨3, 6, false, m_Deeds_path_text⟩) (xs := [.d (lot M n k E (tbD M n P)), .d (dn s), .d (gv b G)]) (h := h) rfl rfl
  have fe : ∀ Z, eFd ok_table 1 (eVar 0) [some (.d (lot M n k E (tbD M n P))), some (.d (dn s)), some (.d (gv b G)), Z, none, none] h = .ok (.d (tbD M n P)) h := fun Z => by simp [ok_table, List.lookup]
  generalize lot M n k E (tbD M n P) = LT at *
  have ps : pureSeq (.d (tbD M n P)) = some (P.map (enP M n)) := rfl
  have lp : ∀ (Q : List Wd) (B : Option Wd) (X Y : Option D), (∀ w ∈ Q, w.length ≤ 1000 ∧ ∀ a ∈ w, a < 3) → (∀ w, B = some w → w.length ≤ 1000 ∧ ∀ a ∈ w, a < 3) → ∃ X' Y', forL (gTp 2 (gCo (gNm 4) (gCo (gNm 5) gNi))) (b_Deeds_path_text_1 (callF defs j)) (Q.map (enP M n)) [some (.d LT), some (.d (dn s)), some (.d (gv b G)), some (.d (ow B)), od X, od Y] h =
      .ok .nx [some (.d LT), some (.d (dn s)), some (.d (gv b G)), some (.d (ow (Q.foldl (bst M s G) B))), od X', od Y'] h := by
    intro Q
    induction Q with
    | nil => intro B X Y _ _; exact ⟨X, Y, by simp [forL]⟩
    | cons w Q ih =>
      intro B X Y hQ hB
      have hw := hQ w List.mem_cons_self
      have ix := ix_dT (g := deed M n w) (s := s) (by rw [deed_len]; exact hs) h
      rw [deed_at hs] at ix
      have oi := in_gv b (go M s w) G h
      have nl := n_lenS (w := w) (by omega) h
      have en : enP M n w = .tup [dT (deed M n w), .str (tx w)] := rfl
      obtain ⟨X', Y', r⟩ := ih (bst M s G B w) (some (dT (deed M n w))) (some (.str (tx w))) (fun u hu => hQ u (List.mem_cons_of_mem _ hu)) (fun u hu => by
        unfold bst at hu
        split at hu
        · split at hu
          · cases hu; exact hw
          · rename_i u0 q
            split at hu
            · cases hu; exact hw
            · cases hu; exact hB _ rfl
        · exact hB u hu)
      refine ⟨X', Y', ?_⟩
      rw [List.foldl_cons, ← r, List.map_cons, en]
      unfold bst
      generalize dT (deed M n w) = z at *
      generalize gv b G = gg at *
      by_cases q : go M s w ∈ G
      · rw [decide_eq_true q] at oi
        rw [if_pos q]
        cases B with
        | none =>
          simp [forL, ix, oi, ow]
          rfl
        | some u =>
          have hu := hB u rfl
          have nl2 := n_lenS (w := u) (by omega) h
          have lt := o_ltKy w.length u.length hw.2 hu.2 h
          have es : (decide (w.length < u.length) || (decide (w.length = u.length) && ltW w u)) = sl w u := rfl
          rw [es] at lt
          unfold kyD at lt
          dsimp only [ow]
          generalize sl w u = c at *
          cases c
          · simp [forL, ix, oi, nl, nl2, lt]
            rfl
          · simp [forL, ix, oi, nl, nl2, lt]
            rfl
      · rw [decide_eq_false q] at oi
        rw [if_neg q]
        simp [forL, ix, oi]
        rfl
  obtain ⟨X', Y', r⟩ := lp P none none none hP (fun w q => nomatch q)
  rw [ec]
  show fin false h.length (m_Deeds_path_text (callF defs j) [some (.d LT), some (.d (dn s)), some (.d (gv b G)), none, none, none] h) = _
  rw [am_Deeds_path_text]
  have b0 : sSq (sAs (eK .non) (gNm 3)) (sSq (sFor (iSeq (eFd (ok_table) 1 (eVar 0))) (gTp 2 (gCo (gNm 4) (gCo (gNm 5) gNi))) (b_Deeds_path_text_1 (callF defs j))) (sRt (eVar 3))) [some (.d LT), some (.d (dn s)), some (.d (gv b G)), none, none, none] h =
      .ok (.ret (.d (ow (P.foldl (bst M s G) none)))) [some (.d LT), some (.d (dn s)), some (.d (gv b G)), some (.d (ow (P.foldl (bst M s G) none))), od X', od Y'] h := by
    refine sq_go (σ1 := [some (.d LT), some (.d (dn s)), some (.d (gv b G)), some (.d .non), none, none]) (h1 := h) (by simp) ?_
    refine sq_go (σ1 := [some (.d LT), some (.d (dn s)), some (.d (gv b G)), some (.d (ow (P.foldl (bst M s G) none))), od X', od Y']) (h1 := h) ?_ (by simp)
    rw [ap_for, ap_iseq, fe]
    simp only [rb_ok, ps, sb_ok]
    exact r
  rw [b0, fin_ret, List.take_length]
theorem bst_fold {M : List (List Nat)} {s : Nat} {G : List Nat} : ∀ (P : List Wd) (B : Option Wd), match P.foldl (bst M s G) B with
    | none => B = none ∧ ∀ w ∈ P, go M s w ∉ G
    | some w => (B = some w ∨ (w ∈ P ∧ go M s w ∈ G)) ∧ (∀ u ∈ P, go M s u ∈ G → sle w u) ∧ ∀ b, B = some b → sle w b
  | [], B => by
    cases B with
    | none => exact ⟨rfl, fun w hw => (List.not_mem_nil hw).elim⟩
    | some b => exact ⟨.inl rfl, fun u hu => (List.not_mem_nil hu).elim, fun c e => by cases e; exact .inl rfl⟩
  | w :: P, B => by
    have ih := bst_fold (M := M) (s := s) (G := G) P (bst M s G B w)
    rw [List.foldl_cons]
    generalize P.foldl (bst M s G) (bst M s G B w) = r at *
    unfold bst at ih
    by_cases q : go M s w ∈ G
    · rw [if_pos q] at ih
      cases r with
      | none =>
        exfalso
        cases B with
        | none => cases ih.1
        | some u => have := ih.1; dsimp only at this; split at this <;> cases this
      | some x =>
        dsimp only at ih ⊢
        cases B with
        | none =>
          dsimp only at ih
          obtain ⟨i1, i2, i3⟩ := ih
          refine ⟨?_, fun u hu hg => ?_, fun c e => nomatch e⟩
          · rcases i1 with e | ⟨e1, e2⟩
            · cases e; exact .inr ⟨List.mem_cons_self, q⟩
            · exact .inr ⟨List.mem_cons_of_mem _ e1, e2⟩
          · rcases List.mem_cons.mp hu with rfl | hu
            · exact i3 _ rfl
            · exact i2 u hu hg
        | some u0 =>
          dsimp only at ih
          by_cases c : sl w u0 = true
          · rw [if_pos c] at ih
            obtain ⟨i1, i2, i3⟩ := ih
            refine ⟨?_, fun u hu hg => ?_, fun b e => ?_⟩
            · rcases i1 with e | ⟨e1, e2⟩
              · cases e; exact .inr ⟨List.mem_cons_self, q⟩
              · exact .inr ⟨List.mem_cons_of_mem _ e1, e2⟩
            · rcases List.mem_cons.mp hu with rfl | hu
              · exact i3 _ rfl
              · exact i2 u hu hg
            · cases e; exact (i3 _ rfl).tr (.inr c)
          · rw [if_neg c] at ih
            obtain ⟨i1, i2, i3⟩ := ih
            refine ⟨?_, fun u hu hg => ?_, fun b e => ?_⟩
            · rcases i1 with e | ⟨e1, e2⟩
              · exact .inl e
              · exact .inr ⟨List.mem_cons_of_mem _ e1, e2⟩
            · rcases List.mem_cons.mp hu with rfl | hu
              · exact (i3 _ rfl).tr (sle_of_not (Bool.eq_false_iff.mpr c))
              · exact i2 u hu hg
            · exact i3 b e
    · rw [if_neg q] at ih
      cases r with
      | none => exact ⟨ih.1, fun u hu => by rcases List.mem_cons.mp hu with rfl | hu; exact q; exact ih.2 u hu⟩
      | some x =>
        obtain ⟨i1, i2, i3⟩ := ih
        refine ⟨?_, fun u hu hg => ?_, i3⟩
        · rcases i1 with e | ⟨e1, e2⟩
          · exact .inl e
          · exact .inr ⟨List.mem_cons_of_mem _ e1, e2⟩
        · rcases List.mem_cons.mp hu with rfl | hu
          · exact absurd hg q
          · exact i2 u hu hg
theorem Tb.best {M : List (List Nat)} {n k s : Nat} {P : List Wd} (t : Tb M n k P) (hs : s < n) (G : List Nat) : Best M k s G (P.foldl (bst M s G) none) := by
  have f := bst_fold (M := M) (s := s) (G := G) P none
  have reach : ∀ u, u ≠ [] → (∀ a ∈ u, a < k) → ∃ w ∈ P, go M s w = go M s u ∧ sle w u := fun u h1 h2 => by
    obtain ⟨w, hw, e, l⟩ := t.cl u h1 h2
    refine ⟨w, hw, ?_, l⟩
    rw [← deed_at (M := M) (w := w) hs, e, deed_at hs]
  cases q : P.foldl (bst M s G) none with
  | none =>
    rw [q] at f
    intro u h1 h2 hg
    obtain ⟨w, hw, e, _⟩ := reach u h1 h2
    exact f.2 w hw (by rw [e]; exact hg)
  | some w =>
    rw [q] at f
    obtain ⟨f1, f2, _⟩ := f
    rcases f1 with e | ⟨f1, f3⟩
    · cases e
    · refine ⟨(t.nn w f1).1, (t.nn w f1).2.1, f3, fun u h1 h2 hg => ?_⟩
      obtain ⟨w', hw', e, l⟩ := reach u h1 h2
      exact (f2 w' hw' (by rw [e]; exact hg)).tr l
end K12

namespace K12
open PySem PySem.Spec Mi
def hit (G : List Nat) (T : List (List Nat × Wd)) : Option (List Nat × Wd) := T.find? fun e => decide (e.1.getD 0 0 ∈ G)
def kw1 (a : Nat) (o : Option (List Nat × Wd)) : List D := match o with
  | some e => [kyD e.2.length (a :: e.2)]
  | none => []
theorem l_path1 (call : CallT) (M : List (List Nat)) {s a : Nat} (ha : a < 3) (b : Bool) (G : List Nat) (h : Hs) (acc : List D) (hz : acc.length ≤ 1000) : ∀ (T : List (List Nat × Wd)) (X Y : Option D), (∀ e ∈ T, e.1.length = 1 ∧ e.2.length ≤ 1000) →
    ∃ X' Y', forL (gTp 2 (gCo (gNm 5) (gCo (gNm 6) gNi))) (b__law_path_1 call) (T.map en2) [some (.d (dM M)), some (.d (dn s)), some (.d (gv b G)), some (.r h.length), some (.d (dn a)), od X, od Y] (h ++ [.lst acc]) =
      .ok .nx [some (.d (dM M)), some (.d (dn s)), some (.d (gv b G)), some (.r h.length), some (.d (dn a)), od X', od Y'] (h ++ [.lst (acc ++ kw1 a (hit G T))])
  | [], X, Y, _ => ⟨X, Y, by simp [forL, hit, kw1]⟩
  | e :: T, X, Y, hT => by
    obtain ⟨h1, h2⟩ := hT e List.mem_cons_self
    have ix := ix_dT (g := e.1) (s := 0) (by omega) (h ++ [.lst acc])
    have ix' : oIx (.d (dT e.1)) (.d (.int 0)) (h ++ [.lst acc]) = some (.d (dn (e.1.getD 0 0)), h ++ [.lst acc]) := ix
    have oi := in_gv b (e.1.getD 0 0) G (h ++ [.lst acc])
    have en : en2 e = .tup [.str (tx e.2), dT e.1] := rfl
    have nl := n_lenS (w := e.2) (by omega) (h ++ [.lst acc])
    have ia := ix_abc ha (h ++ [.lst acc])
    have ad := ad_tx [a] e.2 (by rw [List.length_singleton]; omega) (h ++ [.lst acc])
    have lz : acc.length < sizeLine := lts (by omega)
    unfold hit
    rw [List.find?_cons, List.map_cons, en]
    by_cases q : e.1.getD 0 0 ∈ G
    · refine ⟨some (.str (tx e.2)), some (dT e.1), ?_⟩
      rw [decide_eq_true q] at oi ⊢
      dsimp only [kw1, kyD]
      rw [List.singleton_append] at ad
      generalize e.1.getD 0 0 = x at *
      generalize dT e.1 = z at *
      generalize gv b G = gg at *
      simp [forL, ix', oi, nl, ia, ad, lz]
      exact ⟨rfl, rfl⟩
    · obtain ⟨X', Y', r⟩ := l_path1 call M (s := s) ha b G h acc hz T (some (.str (tx e.2))) (some (dT e.1)) (fun x hx => hT x (List.mem_cons_of_mem _ hx))
      refine ⟨X', Y', ?_⟩
      rw [decide_eq_false q] at oi ⊢
      unfold hit at r
      dsimp only
      rw [← r]
      generalize e.1.getD 0 0 = x at *
      generalize dT e.1 = z at *
      generalize gv b G = gg at *
      simp [forL, ix', oi]
      rfl
theorem find_srt {p : List Nat × Wd → Bool} {e : List Nat × Wd} : ∀ {T : List (List Nat × Wd)}, T.Pairwise (fun a b => sl a.2 b.2 = true) → T.find? p = some e → ∀ e' ∈ T, p e' = true → sle e.2 e'.2
  | [], _, h, _, _, _ => nomatch h
  | x :: T, hs, h, e', he', hp => by
    obtain ⟨h1, h2⟩ := List.pairwise_cons.mp hs
    rw [List.find?_cons] at h
    cases q : p x with
    | true =>
      rw [q] at h
      cases h
      rcases List.mem_cons.mp he' with rfl | he'
      · exact .inl rfl
      · exact .inr (h1 e' he')
    | false =>
      rw [q] at h
      rcases List.mem_cons.mp he' with rfl | he'
      · rw [hp] at q; cases q
      · exact find_srt h2 h e' he' hp
/-- the candidates -/
structure Cs (M : List (List Nat)) (k s : Nat) (G : List Nat) (ps : List Nat) (cs : List Wd) : Prop where
  ok : ∀ w ∈ cs, w ≠ [] ∧ (∀ x ∈ w, x < k) ∧ go M s w ∈ G
  all : ∀ a ∈ ps, ∀ u, (∀ x ∈ u, x < k) → go M s (a :: u) ∈ G → ∃ w ∈ cs, sle w (a :: u)
  ln : cs.length ≤ ps.length
theorem l_path2 (q : Nat) {M : List (List Nat)} {n k s : Nat} (m : Mv M n k) (hs : s < n) (b : Bool) (G : List Nat) (h : Hs) : ∀ (ps : List Nat) (acc : List D) (Z X Y : Option D), (∀ a ∈ ps, a < k) → acc.length + ps.length ≤ 1000 →
    ∃ cs Z' X' Y', Cs M k s G ps cs ∧ forL (gNm 4) (b__law_path_2 (callF defs (q + 1))) (ps.map dn) [some (.d (dM M)), some (.d (dn s)), some (.d (gv b G)), some (.r h.length), od Z, od X, od Y] (h ++ [.lst acc]) =
      .ok .nx [some (.d (dM M)), some (.d (dn s)), some (.d (gv b G)), some (.r h.length), od Z', od X', od Y'] (h ++ [.lst (acc ++ cs.map fun w => kyD (w.length - 1) w)])
  | [], acc, Z, X, Y, _, _ => ⟨[], Z, X, Y, ⟨fun w hw => (List.not_mem_nil hw).elim, fun a ha => (List.not_mem_nil ha).elim, Nat.le_refl _⟩, by simp [forL]⟩
  | a :: ps, acc, Z, X, Y, hp, hz => by
    rw [List.length_cons] at hz
    have ha := hp a List.mem_cons_self
    have hs' := m.lt hs ha
    obtain ⟨J, hJ, ew⟩ := e_walks q m hs' (h ++ [.lst acc])
    have I := W_inv (M2 M (mv M s a) k) J
    have R := fun (u : Wd) => reach_all I (Nat.le_of_eq hJ) u.length u rfl
    have hE := fun e he => ent2 (j := J) m hs' (e := e) he
    have hf := few2 m hs' J
    generalize hT : W (M2 M (mv M s a) k) J = T at *
    have k3 := m.k3
    obtain ⟨X1, Y1, r1⟩ := l_path1 (callF defs (q + 1)) M (s := s) (a := a) (by omega) b G h acc (by omega) T X Y fun e he => by
      obtain ⟨g1, g2, g3, g4⟩ := hE e he
      exact ⟨by rw [g1]; rfl, by omega⟩
    have hk : (kw1 a (hit G T)).length ≤ 1 := by
      cases hit G T <;> simp [kw1]
    obtain ⟨cs, Z', X', Y', C, r2⟩ := l_path2 q m hs b G h ps (acc ++ kw1 a (hit G T)) (some (dn a)) X1 Y1 (fun x hx => hp x (List.mem_cons_of_mem _ hx)) (by rw [List.length_append]; omega)
    obtain ⟨r0, i1, i2⟩ := ix_mv m hs ha (h ++ [.lst acc])
    have body : b__law_path_2 (callF defs (q + 1)) [some (.d (dM M)), some (.d (dn s)), some (.d (gv b G)), some (.r h.length), some (.d (dn a)), od X, od Y] (h ++ [.lst acc]) = .ok .nx [some (.d (dM M)), some (.d (dn s)), some (.d (gv b G)), some (.r h.length), some (.d (dn a)), od X1, od Y1] (h ++ [.lst (acc ++ kw1 a (hit G T))]) := by
      rw [ab__law_path_2, ap_for]
      have ps : pureSeq (.d (.lv (T.map en2))) = some (T.map en2) := rfl
      have es : D.tup [dn (mv M s a)] = dT [mv M s a] := rfl
      have it : iSeq (eCl (callF defs (q + 1)) 18 [] (aCons (eVar 0) (aCons (eTup (aCons (eBin oIx (eBin oIx (eVar 0) (eVar 1)) (eVar 4)) aNil)) aNil))) [some (.d (dM M)), some (.d (dn s)), some (.d (gv b G)), some (.r h.length), some (.d (dn a)), od X, od Y] (h ++ [.lst acc]) = .ok (T.map en2) (h ++ [.lst acc]) := by
        generalize gv b G = gg at *
        simp [i1, i2, es, ew]
      rw [it]
      exact r1
    have step : ∀ R : RS, forL (gNm 4) (b__law_path_2 (callF defs (q + 1))) (ps.map dn) [some (.d (dM M)), some (.d (dn s)), some (.d (gv b G)), some (.r h.length), od (some (dn a)), od X1, od Y1] (h ++ [.lst (acc ++ kw1 a (hit G T))]) = R → forL (gNm 4) (b__law_path_2 (callF defs (q + 1))) ((a :: ps).map dn) [some (.d (dM M)), some (.d (dn s)), some (.d (gv b G)), some (.r h.length), od Z, od X, od Y] (h ++ [.lst acc]) = R := by
      intro R hR
      rw [← hR, List.map_cons]
      generalize gv b G = gg at *
      generalize kw1 a (hit G T) = kk at *
      simp [forL, body, -ab__law_path_2]
      rfl
    have hmem : ∀ u, (∀ x ∈ u, x < k) → ∃ e ∈ T, e.1 = [go M (mv M s a) u] ∧ sle e.2 u := fun u hu => by
      obtain ⟨e, he, e1, e2⟩ := R u hu
      rw [run2] at e1
      exact ⟨e, he, e1, e2⟩
    cases hh : hit G T with
    | none =>
      refine ⟨cs, Z', X', Y', ⟨C.ok, fun x hx u hu hg => ?_, by have := C.ln; rw [List.length_cons]; omega⟩, step _ ?_⟩
      · rcases List.mem_cons.mp hx with rfl | hx
        · exfalso
          obtain ⟨e, he, e1, _⟩ := hmem u hu
          have := List.find?_eq_none.mp hh e he
          rw [e1] at this
          exact this (decide_eq_true hg)
        · exact C.all x hx u hu hg
      · rw [hh] at r2 ⊢
        simpa [kw1] using r2
    | some e0 =>
      have he0 := List.mem_of_find?_eq_some hh
      have hp0 := List.find?_some hh
      obtain ⟨g1, g2, g3, g4⟩ := hE e0 he0
      have hg0 : go M (mv M s a) e0.2 ∈ G := by
        have := of_decide_eq_true hp0
        rw [g1] at this
        exact this
      refine ⟨(a :: e0.2) :: cs, Z', X', Y', ⟨fun w hw => ?_, fun x hx u hu hg => ?_, by have := C.ln; simp; omega⟩, step _ ?_⟩
      · rcases List.mem_cons.mp hw with rfl | hw
        · refine ⟨by simp, fun x hx => ?_, hg0⟩
          rcases List.mem_cons.mp hx with rfl | hx
          · exact ha
          · exact g2 x hx
        · exact C.ok w hw
      · rcases List.mem_cons.mp hx with rfl | hx
        · obtain ⟨e, he, e1, e2⟩ := hmem u hu
          have l1 := find_srt I.g.srt hh e he (by rw [e1]; exact decide_eq_true hg)
          exact ⟨_, List.mem_cons_self, sle_cons x (l1.tr e2)⟩
        · obtain ⟨w, hw, l⟩ := C.all x hx u hu hg
          exact ⟨w, List.mem_cons_of_mem _ hw, l⟩
      · rw [hh] at r2 ⊢
        rw [r2]
        simp [kw1]
/-! ### the least of them -/
def minW : List Wd → Option Wd
  | [] => none
  | x :: xs => some (xs.foldl (fun a y => if sl y a = true then y else a) x)
theorem ltD_ne {w u : Wd} (hw : w ≠ []) (hu : u ≠ []) : ltD (kyD (w.length - 1) w) (kyD (u.length - 1) u) = sl w u := by
  rw [ltD_ky]
  have h1 := List.length_pos_iff.mpr hw
  have h2 := List.length_pos_iff.mpr hu
  unfold sl
  congr 1
  · exact decide_eq_decide.mpr (by omega)
  · congr 1
    exact decide_eq_decide.mpr (by omega)
theorem min_fold : ∀ (xs : List Wd) (x : Wd), x ≠ [] → (∀ y ∈ xs, y ≠ []) →
    (xs.map fun w => kyD (w.length - 1) w).foldl (fun a y => if ltD y a = true then y else a) (kyD (x.length - 1) x) = kyD ((xs.foldl (fun a y => if sl y a = true then y else a) x).length - 1) (xs.foldl (fun a y => if sl y a = true then y else a) x)
  | [], x, _, _ => rfl
  | y :: xs, x, hx, hy => by
    have h1 := hy y List.mem_cons_self
    rw [List.map_cons, List.foldl_cons, List.foldl_cons, ltD_ne h1 hx]
    by_cases c : sl y x = true
    · rw [if_pos c, if_pos c]
      exact min_fold xs y h1 fun z hz => hy z (List.mem_cons_of_mem _ hz)
    · rw [if_neg c, if_neg c]
      exact min_fold xs x hx fun z hz => hy z (List.mem_cons_of_mem _ hz)
theorem minW_ok : ∀ (xs : List Wd) (x : Wd), (xs.foldl (fun a y => if sl y a = true then y else a) x ∈ x :: xs) ∧ ∀ y ∈ x :: xs, sle (xs.foldl (fun a y => if sl y a = true then y else a) x) y
  | [], x => ⟨List.mem_cons_self, fun y hy => by have := List.mem_singleton.mp hy; subst this; exact .inl rfl⟩
  | z :: xs, x => by
    rw [List.foldl_cons]
    by_cases c : sl z x = true
    · rw [if_pos c]
      obtain ⟨a, b⟩ := minW_ok xs z
      refine ⟨List.mem_cons_of_mem _ a, fun y hy => ?_⟩
      rcases List.mem_cons.mp hy with rfl | hy
      · exact (b z List.mem_cons_self).tr (.inr c)
      · exact b y hy
    · rw [if_neg c]
      obtain ⟨a, b⟩ := minW_ok xs x
      refine ⟨?_, fun y hy => ?_⟩
      · rcases List.mem_cons.mp a with e | e
        · rw [e]; exact List.mem_cons_self
        · exact List.mem_cons_of_mem _ (List.mem_cons_of_mem _ e)
      · rcases List.mem_cons.mp hy with rfl | hy
        · exact b y List.mem_cons_self
        · rcases List.mem_cons.mp hy with rfl | hy
          · exact (b x List.mem_cons_self).tr (sle_of_not (Bool.eq_false_iff.mpr c))
          · exact b y (List.mem_cons_of_mem _ hy)
theorem Cs.best {M : List (List Nat)} {k s : Nat} {G : List Nat} {cs : List Wd} (C : Cs M k s G (List.range k) cs) : Best M k s G (minW cs) := by
  have al : ∀ u, u ≠ [] → (∀ a ∈ u, a < k) → go M s u ∈ G → ∃ w ∈ cs, sle w u := fun u h1 h2 h3 => by
    cases u with
    | nil => exact absurd rfl h1
    | cons a u => exact C.all a (List.mem_range.mpr (h2 a List.mem_cons_self)) u (fun x hx => h2 x (List.mem_cons_of_mem _ hx)) h3
  cases cs with
  | nil =>
    intro u h1 h2 h3
    obtain ⟨w, hw, _⟩ := al u h1 h2 h3
    cases hw
  | cons x xs =>
    obtain ⟨a, b⟩ := minW_ok xs x
    obtain ⟨c1, c2, c3⟩ := C.ok _ a
    refine ⟨c1, c2, c3, fun u h1 h2 h3 => ?_⟩
    obtain ⟨w, hw, l⟩ := al u h1 h2 h3
    exact (b w hw).tr l
theorem n_min {k : Nat} {h : Hs} {cs : List Wd} (hc : ∀ w ∈ cs, w ≠ [] ∧ ∀ x ∈ w, x < 3) (e : h[k]? = some (.lst (cs.map fun w => kyD (w.length - 1) w))) : nMinD [.r k] h = (minW cs).map fun w => (.d (kyD (w.length - 1) w), h) := by
  unfold nMinD lstOf
  simp only [e]
  have c : ((cs.map fun w => kyD (w.length - 1) w).all shp && ((cs.map fun w => kyD (w.length - 1) w).all fun a => (cs.map fun w => kyD (w.length - 1) w).all fun b => PySem.W.alike a.pd b.pd) && (cs.map fun w => kyD (w.length - 1) w).all fun a => !isNon (.d a)) = true := by
    simp only [Bool.and_eq_true, List.all_eq_true]
    refine ⟨⟨fun x hx => ?_, fun x hx y hy => ?_⟩, fun x hx => ?_⟩
    · obtain ⟨w, hw, rfl⟩ := List.mem_map.mp hx
      exact (sm_ky _ (hc w hw).2).shp (by omega)
    · obtain ⟨w, hw, rfl⟩ := List.mem_map.mp hx
      obtain ⟨u, hu, rfl⟩ := List.mem_map.mp hy
      exact alike_ky _ _ _ _
    · obtain ⟨w, hw, rfl⟩ := List.mem_map.mp hx
      rfl
  rw [if_pos c]
  cases cs with
  | nil => rfl
  | cons x xs =>
    show some _ = some _
    rw [min_fold xs x (hc x List.mem_cons_self).1 fun y hy => (hc y (List.mem_cons_of_mem _ hy)).1]
theorem e_path (q : Nat) {M : List (List Nat)} {n k s : Nat} (m : Mv M n k) (hs : s < n) (b : Bool) (G : List Nat) (h : Hs) :
    ∃ o, Best M k s G o ∧ callF defs (q + 2) 25 [.d (dM M), .d (dn s), .d (gv b G)] h = .ok (.d (ow o)) h := by
  have ec := callF_at (defs := defs) (n := q + 1) (i := 25) (md := ⟨3, 7, false, m__law_path⟩) (xs := [.d (dM M), .d (dn s), .d (gv b G)]) (h := h) rfl rfl
  obtain ⟨cs, Z', X', Y', C, r⟩ := l_path2 q m hs b G h (List.range k) [] none none none (fun a ha => List.mem_range.mp ha) (by rw [List.length_range]; have := m.k3; simp; omega)
  refine ⟨minW cs, C.best, ?_⟩
  rw [List.nil_append] at r
  have hk3 := m.k3
  have nm := n_min (k := h.length) (h := h ++ [.lst (cs.map fun w => kyD (w.length - 1) w)]) (cs := cs) (fun w hw => ⟨(C.ok w hw).1, fun x hx => by have := (C.ok w hw).2.1 x hx; omega⟩) (by simp)
  have rg : iA1 (aCons (eN nLen (aCons (eBin oIx (eVar 0) (eK (.int 0))) aNil)) aNil) [some (.d (dM M)), some (.d (dn s)), some (.d (gv b G)), some (.r h.length), none, none, none] (h ++ [.lst []]) = .ok ((List.range k).map dn) (h ++ [.lst []]) := by
    refine ia1 ?_ (by omega)
    have i0 := ix_dM (M := M) (s := 0) (by rw [m.len]; exact m.n0) (h ++ [.lst []])
    have i0' : oIx (.d (dM M)) (.d (.int 0)) (h ++ [.lst []]) = some (.d (dT (M.getD 0 [])), h ++ [.lst []]) := i0
    have rl := (m.row_at m.n0).1
    generalize M.getD 0 [] = r0 at *
    simp [i0', dT, rl, dn]
  have emp : (cs.map fun w => kyD (w.length - 1) w).isEmpty = (minW cs).isNone := by cases cs <;> rfl
  have b0 : m__law_path (callF defs (q + 1)) [some (.d (dM M)), some (.d (dn s)), some (.d (gv b G)), none, none, none, none] h =
      .ok (.ret (.d (ow (minW cs)))) [some (.d (dM M)), some (.d (dn s)), some (.d (gv b G)), some (.r h.length), od Z', od X', od Y'] (h ++ [.lst (cs.map fun w => kyD (w.length - 1) w)]) := by
    rw [am__law_path]
    refine sq_go (σ1 := [some (.d (dM M)), some (.d (dn s)), some (.d (gv b G)), some (.r h.length), none, none, none]) (h1 := h ++ [.lst []]) (by simp) ?_
    refine sq_go (σ1 := [some (.d (dM M)), some (.d (dn s)), some (.d (gv b G)), some (.r h.length), od Z', od X', od Y']) (h1 := h ++ [.lst (cs.map fun w => kyD (w.length - 1) w)]) ?_ ?_
    · rw [ap_for, rg, sb_ok]
      exact r
    · have tru : truO (.r h.length) (h ++ [.lst (cs.map fun w => kyD (w.length - 1) w)]) = some (!(minW cs).isNone) := by
        unfold truO
        simp only [List.getElem?_concat_length]
        rw [emp]
      generalize (cs.map fun w => kyD (w.length - 1) w) = CD at *
      cases hm : minW cs with
      | none =>
        rw [hm] at tru nm
        simp [tru, ow]
      | some w =>
        rw [hm] at tru nm
        have ix : ∀ h', oIx (.d (kyD (w.length - 1) w)) (.d (.int 1)) h' = some (.d (.str (tx w)), h') := fun h' => rfl
        simp [tru, nm, ix, ow]
  rw [ec]
  show fin false h.length (m__law_path (callF defs (q + 1)) [some (.d (dM M)), some (.d (dn s)), some (.d (gv b G)), none, none, none, none] h) = _
  rw [b0, fin_ret]
  simp
end K12

namespace K12
open PySem PySem.Spec Mi
/-! ### drawn things -/
theorem k_take (n k : Nat) (hk : k < 1000000) {src : O} (hs : Src k src) (M : Nat) (hM : 0 < M) (hM2 : M < 2 ^ 180) (t : Hs) : ∃ v : Nat, v < M ∧ ∃ src', Src (k + 1) src' ∧ callF defs (n + 1) 14 [.r 0, .d (dn M)] (src :: t) = .ok (.d (dn v)) (src' :: t) :=
  e_take rfl n k hk hs M hM hM2 t
theorem big {a : Nat} (h : a ≤ 1000000) : a < 2 ^ 180 := Nat.lt_of_le_of_lt h (by decide)
theorem lc_endS (o : O) (h : Hs) (l : List D) : lcEnd false (h.length + 1) (o :: (h ++ [.lst l])) = .ok (.d (.lv l)) (o :: h) := by
  have := lc_end (o :: h) l
  rwa [List.length_cons, List.cons_append] at this
theorem nats_of {S : Nat} : ∀ {ys : List D}, (∀ y ∈ ys, ∃ i : Nat, y = dn i ∧ i < S) → ∃ w : List Nat, ys = w.map dn ∧ (∀ i ∈ w, i < S) ∧ w.length = ys.length
  | [], _ => ⟨[], rfl, fun i hi => (by cases hi), rfl⟩
  | y :: ys, h => by
    obtain ⟨i, rfl, pi⟩ := h y List.mem_cons_self
    obtain ⟨w, rfl, pw, lw⟩ := nats_of fun z hz => h z (List.mem_cons_of_mem _ hz)
    refine ⟨i :: w, rfl, fun j hj => ?_, by simp⟩
    rcases List.mem_cons.mp hj with rfl | hj
    · exact pi
    · exact pw j hj
/-- a list of drawn numbers -/
theorem k_nats (q : Nat) {S : Nat} (hS : 0 < S) (hS2 : S ≤ 1000000) {vs : List Nat} {g : SemG} {f : SemE} {σ : Lo} (t : Hs) (ds : List D) (k : Nat) (src : O) (hs : Src k src) (hk : k + ds.length ≤ 900000) (hz : ds.length ≤ 1000)
    (hf : ∀ d ∈ ds, ∃ σ1, (∀ h, g (.d d) (wipeL σ vs) h = some (σ1, h)) ∧ ∀ src h' v src', callF defs (q + 1) 14 [.r 0, .d (dn S)] (src :: h') = .ok (.d (dn v)) (src' :: h') → f σ1 (src :: h') = .ok (.d (dn v)) (src' :: h')) :
    ∃ w : List Nat, w.length = ds.length ∧ (∀ i ∈ w, i < S) ∧ ∃ src', Src (k + ds.length) src' ∧ cmpL vs g tYs f (t.length + 1) ds σ (src :: (t ++ [.lst []])) = some (src' :: (t ++ [.lst (w.map dn)])) := by
  obtain ⟨ys, src2, y1, y2, s2, c⟩ := cmpL_draw (vs := vs) (g := g) (f := f) (σ := σ) 1 900000 (fun y => ∃ i : Nat, y = dn i ∧ i < S) t ds k src [] (fun d hd k src h' hk hs => by
    obtain ⟨v, hv, src', s', e⟩ := k_take q k (by omega) hs S hS (big hS2) h'
    obtain ⟨σ1, g1, f1⟩ := hf d hd
    exact ⟨σ1, dn v, src', g1, ⟨v, rfl, hv⟩, s', f1 src h' v src' e⟩) hs (by omega) (lts (by simp; omega))
  obtain ⟨w, rfl, hw, lw⟩ := nats_of y2
  rw [List.length_map] at lw y1
  refine ⟨w, by omega, hw, src2, by rwa [Nat.one_mul] at s2, ?_⟩
  rw [c, List.nil_append]
theorem k_moves (q : Nat) {n k : Nat} (n0 : 0 < n) (n4 : n ≤ 4) (k0 : 0 < k) (k3 : k ≤ 3) (c : Nat) (hc : c ≤ 800000) {src : O} (hs : Src c src) (t : Hs) :
    ∃ M, Mv M n k ∧ ∃ src', Src (c + 12) src' ∧ callF defs (q + 2) 22 [.r 0, .d (dn n), .d (dn k)] (src :: t) = .ok (.d (dM M)) (src' :: t) := by
  have inner : ∀ (d : Nat) (c : Nat) (src : O) (h' : Hs), c ≤ 850000 → Src c src → ∃ r : List Nat, r.length = k ∧ (∀ x ∈ r, x < n) ∧ ∃ src', Src (c + k) src' ∧ eN nTuple (aCons (eLc false [4] (iA1 (aCons (eVar 2) aNil)) (gNm 4) tYs (eCl (callF defs (q + 1)) 14 [] (aCons (eVar 0) (aCons (eVar 1) aNil)))) aNil) [some (.r 0), some (.d (dn n)), some (.d (dn k)), some (.d (dn d)), none] (src :: h') = .ok (.d (dT r)) (src' :: h') := by
    intro d c src h' hc hs
    obtain ⟨w, hw, hlt, src', s', e⟩ := k_nats q n0 (by omega) (vs := [4]) (g := gNm 4) (f := eCl (callF defs (q + 1)) 14 [] (aCons (eVar 0) (aCons (eVar 1) aNil))) (σ := [some (.r 0), some (.d (dn n)), some (.d (dn k)), some (.d (dn d)), none]) h' ((List.range k).map dn) c src hs (by rw [List.length_map, List.length_range]; omega) (by rw [List.length_map, List.length_range]; omega) fun x hx =>
      ⟨_, fun h => rfl, fun src h' v src' e => by simp [wipeL, e]⟩
    rw [List.length_map, List.length_range] at hw s'
    refine ⟨w, hw, hlt, src', s', ?_⟩
    have r1 : iA1 (aCons (eVar 2) aNil) [some (.r 0), some (.d (dn n)), some (.d (dn k)), some (.d (dn d)), none] (src :: h') = .ok ((List.range k).map dn) (src :: h') := ia1 rfl (by omega)
    have le := lc_endS src' h' (w.map dn)
    have ed : Vl.d (dT w) = Vl.d (.tup (w.map dn)) := rfl
    rw [ed]
    generalize w.map dn = L at *
    simp [r1, e, le, -ap_ia1]
  obtain ⟨ys, src2, y1, y2, s2, e⟩ := cmpL_draw (vs := [3]) (g := gNm 3) (f := eN nTuple (aCons (eLc false [4] (iA1 (aCons (eVar 2) aNil)) (gNm 4) tYs (eCl (callF defs (q + 1)) 14 [] (aCons (eVar 0) (aCons (eVar 1) aNil)))) aNil)) (σ := [some (.r 0), some (.d (dn n)), some (.d (dn k)), none, none]) k 850000 (fun y => ∃ r : List Nat, y = dT r ∧ r.length = k ∧ ∀ x ∈ r, x < n) t ((List.range n).map dn) c src [] (fun d hd c src h' hc hs => by
    obtain ⟨i, _, rfl⟩ := List.mem_map.mp hd
    obtain ⟨r, r1, r2, src', s', e⟩ := inner i c src h' (by omega) hs
    exact ⟨_, dT r, src', fun h => rfl, ⟨r, rfl, r1, r2⟩, s', e⟩) hs (by
      rw [List.length_map, List.length_range]
      have : k * n ≤ 3 * 4 := Nat.mul_le_mul k3 n4
      omega) (lts (by rw [List.length_map, List.length_range]; simp; omega))
  rw [List.length_map, List.length_range] at y1 s2
  have mk : ∀ {ys : List D}, (∀ y ∈ ys, ∃ r : List Nat, y = dT r ∧ r.length = k ∧ ∀ x ∈ r, x < n) → ∃ M : List (List Nat), ys = M.map dT ∧ M.length = ys.length ∧ ∀ r ∈ M, r.length = k ∧ ∀ x ∈ r, x < n := by
    intro ys
    induction ys with
    | nil => intro _; exact ⟨[], rfl, rfl, fun r hr => (List.not_mem_nil hr).elim⟩
    | cons y ys ih =>
      intro h
      obtain ⟨r, rfl, r1, r2⟩ := h y List.mem_cons_self
      obtain ⟨M, rfl, l, p⟩ := ih fun z hz => h z (List.mem_cons_of_mem _ hz)
      refine ⟨r :: M, rfl, by simp, fun x hx => ?_⟩
      rcases List.mem_cons.mp hx with rfl | hx
      · exact ⟨r1, r2⟩
      · exact p x hx
  obtain ⟨M, rfl, lM, pM⟩ := mk y2
  rw [List.length_map] at y1
  refine ⟨M, ⟨n0, n4, k0, k3, y1, pM⟩, src2, s2.up (by
    have : k * n ≤ 3 * 4 := Nat.mul_le_mul k3 n4
    omega), ?_⟩
  have ec := callF_at (defs := defs) (n := q + 1) (i := 22) (md := ⟨3, 5, false, m__law_moves⟩) (xs := [.r 0, .d (dn n), .d (dn k)]) (h := src :: t) rfl rfl
  have r1 : iA1 (aCons (eVar 1) aNil) [some (.r 0), some (.d (dn n)), some (.d (dn k)), none, none] (src :: t) = .ok ((List.range n).map dn) (src :: t) := ia1 rfl (by omega)
  have le := lc_endS src2 t (M.map dT)
  rw [List.nil_append] at e
  rw [ec]
  show fin false (src :: t).length (m__law_moves (callF defs (q + 1)) [some (.r 0), some (.d (dn n)), some (.d (dn k)), none, none] (src :: t)) = _
  have ed : Vl.d (dM M) = Vl.d (.tup (M.map dT)) := rfl
  rw [ed, am__law_moves]
  generalize M.map dT = L at *
  have b : eLc false [3] (iA1 (aCons (eVar 1) aNil)) (gNm 3) tYs (eN nTuple (aCons (eLc false [4] (iA1 (aCons (eVar 2) aNil)) (gNm 4) tYs (eCl (callF defs (q + 1)) 14 [] (aCons (eVar 0) (aCons (eVar 1) aNil)))) aNil)) [some (.r 0), some (.d (dn n)), some (.d (dn k)), none, none] (src :: t) = .ok (.d (.lv L)) (src2 :: t) := by
    rw [ap_lc, r1]
    simp only [rb_ok, List.length_cons, List.cons_append]
    rw [e]
    exact le
  simp [b, -ap_lc]
/-! ### texts -/
theorem join_tx : ∀ w : Wd, Str.join "" (w.map fun a => tx [a]) = tx w
  | [] => by decide +kernel
  | [a] => rfl
  | a :: b :: w => by
    show tx [a] ++ "" ++ Str.join "" ((b :: w).map fun a => tx [a]) = _
    rw [join_tx (b :: w)]
    show (⟨_⟩ : Str) = ⟨_⟩
    congr 1
    have e0 : ("" : Str).cps = #[] := by decide +kernel
    show (tx [a]).cps ++ ("" : Str).cps ++ (tx (b :: w)).cps = (tx (a :: b :: w)).cps
    rw [e0]
    simp [tx]
theorem k_text (q : Nat) {k : Nat} (k0 : 0 < k) (k3 : k ≤ 3) (c : Nat) (hc : c ≤ 800000) {src : O} (hs : Src c src) (t : Hs) :
    ∃ w : Wd, (∀ a ∈ w, a < k) ∧ w.length ≤ 30 ∧ ∃ src', Src (c + 31) src' ∧ callF defs (q + 3) 16 [.r 0, .d (.str (tx (List.range k))), .d (dn 30)] (src :: t) = .ok (.d (.str (tx w))) (src' :: t) := by
  obtain ⟨v, hv, src1, s1, e1⟩ := k_take (q + 1) c (by omega) hs 31 (by omega) (big (by omega)) t
  have pick : ∀ (c : Nat) (src : O) (h' : Hs), c ≤ 850000 → Src c src → ∃ a : Nat, a < k ∧ ∃ src', Src (c + 1) src' ∧ callF defs (q + 2) 15 [.r 0, .d (.str (tx (List.range k)))] (src :: h') = .ok (.d (.str (tx [a]))) (src' :: h') := by
    intro c src h' hc hs
    obtain ⟨a, ha, src', s', e⟩ := k_take q c (by omega) hs k k0 (big (by omega)) h'
    refine ⟨a, ha, src', s', ?_⟩
    have ec := callF_at (defs := defs) (n := q + 1) (i := 15) (md := ⟨2, 2, false, m__law_pick⟩) (xs := [.r 0, .d (.str (tx (List.range k)))]) (h := src :: h') rfl rfl
    have nl : nLen [.d (.str (tx (List.range k)))] (src :: h') = some (.d (dn k), src :: h') := by
      have := n_lenS (w := List.range k) (by rw [List.length_range]; omega) (src :: h')
      rw [List.length_range] at this
      exact this
    have ix : oIx (.d (.str (tx (List.range k)))) (.d (dn a)) (src' :: h') = some (.d (.str (tx [a])), src' :: h') := by
      show (if (tx (List.range k)).length ≤ sizeLine then (L2.atI (tx (List.range k)).cps.toList (a : Int)).map fun c => (Vl.d (.str ⟨#[c]⟩), src' :: h') else none) = _
      rw [tx_len, if_pos (Nat.le_of_lt (lts (by rw [List.length_range]; omega))), atI_nat]
      have : (tx (List.range k)).cps.toList[a]? = some (a + 97) := by
        show ((List.range k).map (· + 97)).toArray.toList[a]? = _
        rw [List.toList_toArray, List.getElem?_map, List.getElem?_range ha]; rfl
      rw [this]; rfl
    rw [ec]
    show fin false (src :: h').length (m__law_pick (callF defs (q + 1)) [some (.r 0), some (.d (.str (tx (List.range k))))] (src :: h')) = _
    rw [am__law_pick]
    generalize D.str (tx (List.range k)) = Z at *
    simp [nl, e, ix]
  obtain ⟨ys, src2, y1, y2, s2, e⟩ := cmpL_draw (vs := [3]) (g := gNm 3) (f := eCl (callF defs (q + 2)) 15 [] (aCons (eVar 0) (aCons (eVar 1) aNil))) (σ := [some (.r 0), some (.d (.str (tx (List.range k)))), some (.d (dn 30)), none]) 1 850000 (fun y => ∃ a : Nat, y = .str (tx [a]) ∧ a < k) t ((List.range v).map dn) (c + 1) src1 [] (fun d hd c src h' hc hs => by
    obtain ⟨a, ha, src', s', e⟩ := pick c src h' (by omega) hs
    refine ⟨_, .str (tx [a]), src', fun h => rfl, ⟨a, rfl, ha⟩, s', ?_⟩
    generalize D.str (tx (List.range k)) = Z at *
    simp [wipeL, e]) s1 (by rw [List.length_map, List.length_range]; omega) (lts (by rw [List.length_map, List.length_range]; simp; omega))
  rw [List.length_map, List.length_range] at y1 s2
  have mk : ∀ {ys : List D}, (∀ y ∈ ys, ∃ a : Nat, y = .str (tx [a]) ∧ a < k) → ∃ w : Wd, ys = w.map (fun a => D.str (tx [a])) ∧ w.length = ys.length ∧ ∀ a ∈ w, a < k := by
    intro ys
    induction ys with
    | nil => intro _; exact ⟨[], rfl, rfl, fun r hr => (List.not_mem_nil hr).elim⟩
    | cons y ys ih =>
      intro h
      obtain ⟨r, rfl, r1⟩ := h y List.mem_cons_self
      obtain ⟨M, rfl, l, p⟩ := ih fun z hz => h z (List.mem_cons_of_mem _ hz)
      refine ⟨r :: M, rfl, by simp, fun x hx => ?_⟩
      rcases List.mem_cons.mp hx with rfl | hx
      · exact r1
      · exact p x hx
  obtain ⟨w, rfl, lw, pw⟩ := mk y2
  rw [List.length_map] at y1
  refine ⟨w, pw, by omega, src2, s2.up (by omega), ?_⟩
  have ec := callF_at (defs := defs) (n := q + 2) (i := 16) (md := ⟨3, 4, false, m__law_drawn_text⟩) (xs := [.r 0, .d (.str (tx (List.range k))), .d (dn 30)]) (h := src :: t) rfl rfl
  have a31 : ∀ h, oAdd (.d (dn 30)) (.d (.int 1)) h = some (.d (dn 31), h) := fun h => rfl
  have r1 : ∀ X Y, iA1 (aCons (eCl (callF defs (q + 2)) 14 [] (aCons (eVar 0) (aCons (eBin oAdd (eVar 2) (eK (.int 1))) aNil))) aNil) [some (.r 0), some (.d X), some (.d (dn 30)), Y] (src :: t) = .ok ((List.range v).map dn) (src1 :: t) := fun X Y => by
    have e1' : callF defs (q + 2) 14 [.r 0, .d (dn 31)] (src :: t) = .ok (.d (dn v)) (src1 :: t) := e1
    have rg := rngR_nat (k := v) (h := src1 :: t) (by omega)
    rw [rng_d] at rg
    have rg' : rngR [.d (dn v)] (src1 :: t) = .ok ((List.range v).map dn) (src1 :: t) := rg
    simp [a31, e1', rg']
  have le := lc_endS src2 t (w.map fun a => D.str (tx [a]))
  rw [List.nil_append] at e
  have so : strsOf (w.map fun a => D.str (tx [a])) = some (w.map fun a => tx [a]) := by
    clear e le y2 pw s2 lw y1
    induction w with
    | nil => rfl
    | cons a w ih => rw [List.map_cons, strsOf, ih]; rfl
  have sm : ((w.map fun a => tx [a]).map (·.length)).sum + (w.map fun a => tx [a]).length * ("" : Str).length ≤ 16777216 := by
    have e0 : ("" : Str).length = 0 := by decide +kernel
    have e2 : ((w.map fun a => tx [a]).map (·.length)).sum = w.length := by
      clear e le y2 pw s2 lw y1 so
      induction w with
      | nil => rfl
      | cons a w ih =>
        rw [List.map_cons, List.map_cons, List.sum_cons, ih, tx_len, List.length_cons]
        simp; omega
    rw [e0, e2]; omega
  have jn : Txt.join "" (w.map fun a => tx [a]) = tx w := by rw [TL.join_eq]; exact join_tx w
  rw [ec]
  show fin false (src :: t).length (m__law_drawn_text (callF defs (q + 2)) [some (.r 0), some (.d (.str (tx (List.range k)))), some (.d (dn 30)), none] (src :: t)) = _
  rw [am__law_drawn_text]
  generalize D.str (tx (List.range k)) = Z at *
  generalize hL : (w.map fun a => D.str (tx [a])) = L at *
  generalize hY : (w.map fun a => tx [a]) = Ys at *
  have b : eLc false [3] (iA1 (aCons (eCl (callF defs (q + 2)) 14 [] (aCons (eVar 0) (aCons (eBin oAdd (eVar 2) (eK (.int 1))) aNil))) aNil)) (gNm 3) tYs (eCl (callF defs (q + 2)) 15 [] (aCons (eVar 0) (aCons (eVar 1) aNil))) [some (.r 0), some (.d Z), some (.d (dn 30)), none] (src :: t) = .ok (.d (.lv L)) (src2 :: t) := by
    rw [ap_lc, r1]
    simp only [rb_ok, List.length_cons, List.cons_append]
    rw [e]
    exact le
  simp [b, so, sm, jn, -ap_lc]
end K12

namespace K12
open PySem PySem.Spec Mi
theorem k_pickB (q : Nat) (c : Nat) (hc : c ≤ 850000) {src : O} (hs : Src c src) (h' : Hs) : ∃ (b : Bool) (src' : O), Src (c + 1) src' ∧ callF defs (q + 2) 15 [.r 0, .d (.lv [.bl true, .bl false])] (src :: h') = .ok (.d (.bl b)) (src' :: h') := by
  obtain ⟨a, ha, src', s', e⟩ := k_take q c (by omega) hs 2 (by omega) (big (by omega)) h'
  have ec := callF_at (defs := defs) (n := q + 1) (i := 15) (md := ⟨2, 2, false, m__law_pick⟩) (xs := [.r 0, .d (.lv [.bl true, .bl false])]) (h := src :: h') rfl rfl
  have nl : nLen [.d (.lv [.bl true, .bl false])] (src :: h') = some (.d (dn 2), src :: h') := rfl
  obtain ⟨b, ix⟩ : ∃ b : Bool, oIx (.d (.lv [.bl true, .bl false])) (.d (dn a)) (src' :: h') = some (.d (.bl b), src' :: h') := by
    rcases (by omega : a = 0 ∨ a = 1) with rfl | rfl
    · exact ⟨true, rfl⟩
    · exact ⟨false, rfl⟩
  refine ⟨b, src', s', ?_⟩
  rw [ec]
  show fin false (src :: h').length (m__law_pick (callF defs (q + 1)) [some (.r 0), some (.d (.lv [.bl true, .bl false]))] (src :: h')) = _
  rw [am__law_pick]
  generalize D.lv [.bl true, .bl false] = Z at *
  simp [nl, e, ix]
theorem k_goals (q : Nat) {n : Nat} (n4 : n ≤ 4) (c : Nat) (hc : c ≤ 840000) {src : O} (hs : Src c src) (t : Hs) :
    ∃ (L : List D) (src' : O), (∀ x ∈ L, Sm 0 x) ∧ Src (c + 4) src' ∧ callF defs (q + 3) 23 [.r 0, .d (dn n)] (src :: t) = .ok (.d (.tup L)) (src' :: t) := by
  have ec := callF_at (defs := defs) (n := q + 2) (i := 23) (md := ⟨2, 3, false, m__law_goals⟩) (xs := [.r 0, .d (dn n)]) (h := src :: t) rfl rfl
  obtain ⟨h1, e, L, src', rfl, s', hL⟩ := cmpL_ind (vs := [2]) (g := gNm 2) (t := tTru (eCl (callF defs (q + 2)) 15 [] (aCons (eVar 0) (aCons (eLv (aCons (eK (.bl true)) (aCons (eK (.bl false)) aNil))) aNil)))) (f := eVar 2) (n0 := (src :: t).length) (σ := [some (.r 0), some (.d (dn n)), none])
    (R := fun h => ∃ (L : List D) (src' : O), h = src' :: (t ++ [.lst L]) ∧ Src (c + n) src' ∧ ∀ x ∈ L, Sm 0 x)
    (fun i h => ∃ (L : List D) (src' : O), h = src' :: (t ++ [.lst L]) ∧ Src (c + i) src' ∧ L.length ≤ i ∧ i ≤ n ∧ ∀ x ∈ L, Sm 0 x) ((List.range n).map dn) 0 (src :: (t ++ [.lst []])) ⟨[], src, rfl, hs, Nat.le_refl _, Nat.zero_le _, fun x hx => (List.not_mem_nil hx).elim⟩
    (fun j d h hj p => by
      rw [Nat.zero_add] at p ⊢
      obtain ⟨L, src1, rfl, s1, l1, l2, hL⟩ := p
      have hjn : j < n := by
        rw [List.getElem?_map] at hj
        obtain ⟨i, hi, _⟩ := Option.map_eq_some_iff.mp hj
        have := (List.getElem?_eq_some_iff.mp hi).1
        rwa [List.length_range] at this
      obtain ⟨i, _, rfl⟩ : ∃ i, i ∈ List.range n ∧ dn i = d := List.mem_map.mp (List.mem_of_getElem? hj)
      obtain ⟨b, src2, s2, e⟩ := k_pickB q (c + j) (by omega) s1 (t ++ [.lst L])
      refine ⟨[some (.r 0), some (.d (dn n)), some (.d (dn i))], src1 :: (t ++ [.lst L]), b, src2 :: (t ++ [.lst L]), rfl, ?_, ?_⟩
      · simp [e]
      · cases b with
        | true =>
          rw [if_pos rfl]
          have ca := cmpAdd_d (h := src2 :: t) (acc := L) (d := dn i) (lts (by omega))
          refine ⟨_, _, _, rfl, ca, L ++ [dn i], src2, by simp, s2, by simp; omega, hjn, fun x hx => ?_⟩
          rcases List.mem_append.mp hx with hx | hx
          · exact hL x hx
          · have := List.mem_singleton.mp hx
            subst this
            exact trivial
        | false =>
          rw [if_neg Bool.false_ne_true]
          exact ⟨L, src2, List.take_of_length_le (by simp), s2, by omega, hjn, hL⟩)
    (fun h p => by
      rw [Nat.zero_add, List.length_map, List.length_range] at p
      obtain ⟨L, src1, e, s1, _, _, hL⟩ := p
      exact ⟨L, src1, e, s1, hL⟩)
  refine ⟨L, src', hL, s'.up (by omega), ?_⟩
  have r1 : iA1 (aCons (eVar 1) aNil) [some (.r 0), some (.d (dn n)), none] (src :: t) = .ok ((List.range n).map dn) (src :: t) := ia1 rfl (by omega)
  have le := lc_endS src' t L
  rw [ec]
  show fin false (src :: t).length (m__law_goals (callF defs (q + 2)) [some (.r 0), some (.d (dn n)), none] (src :: t)) = _
  rw [am__law_goals]
  have b : eLc false [2] (iA1 (aCons (eVar 1) aNil)) (gNm 2) (tTru (eCl (callF defs (q + 2)) 15 [] (aCons (eVar 0) (aCons (eLv (aCons (eK (.bl true)) (aCons (eK (.bl false)) aNil))) aNil)))) (eVar 2) [some (.r 0), some (.d (dn n)), none] (src :: t) = .ok (.d (.lv L)) (src' :: t) := by
    rw [ap_lc, r1]
    simp only [rb_ok, List.cons_append]
    rw [e]
    exact le
  simp [b, -ap_lc]
/-! ### == of watchers and lots -/
theorem sm_dM (M : List (List Nat)) : Sm 2 (dM M) := fun x hx => by
  obtain ⟨r, _, rfl⟩ := List.mem_map.mp hx
  exact sm_dT r
theorem sm_enP (M : List (List Nat)) (n : Nat) {w : Wd} (hw : ∀ a ∈ w, a < 3) : Sm 2 (enP M n w) := fun x hx => by
  rcases List.mem_cons.mp hx with rfl | hx
  · exact sm_dT _
  · have := List.mem_singleton.mp hx
    subst this
    exact str_tx hw
theorem sm_tbD (M : List (List Nat)) (n : Nat) {P : List Wd} (hP : ∀ w ∈ P, ∀ a ∈ w, a < 3) : Sm 3 (tbD M n P) := fun x hx => by
  obtain ⟨w, hw, rfl⟩ := List.mem_map.mp hx
  exact sm_enP M n (hP w hw)
theorem e_watEq (j : Nat) (M : List (List Nat)) (k : Nat) {E : D} (hE : Sm 2 E) (h : Hs) : callF defs (j + 1) 11 [.d (wat M k E), .d (wat M k E)] h = .ok (.d (.bl true)) h := by
  have ec := callF_at (defs := defs) (n := j) (i := 11) (md := ⟨2, 2, false, m_Watcher__eq_⟩) (xs := [.d (wat M k E), .d (wat M k E)]) (h := h) rfl rfl
  have l4 : lookT (.c 4) (isiT isOk isBt 4) = some true := by decide
  have q1 : oEq (.d (dn k)) (.d (dn k)) h = some (.d (.bl true), h) := o_eqR (n := 0) trivial (by omega)
  have q2 : oEq (.d (dM M)) (.d (dM M)) h = some (.d (.bl true), h) := o_eqR (sm_dM M) (by omega)
  have q3 : oEq (.d E) (.d E) h = some (.d (.bl true), h) := o_eqR hE (by omega)
  rw [ec]
  show fin false h.length (m_Watcher__eq_ (callF defs j) [some (.d (wat M k E)), some (.d (wat M k E))] h) = _
  rw [am_Watcher__eq_]
  unfold wat
  generalize dM M = MM at *
  generalize dn M.length = NN at *
  generalize dn k = KK at *
  simp [l4, q1, q2, q3, ok_letters, ok_moves, ok_ends, List.lookup]
theorem o_watEq (j : Nat) (M : List (List Nat)) (k : Nat) {E : D} (hE : Sm 2 E) (h : Hs) : oEqO false eqTab (callF defs (j + 1)) (.d (wat M k E)) (.d (wat M k E)) h = some (.d (.bl true), h) := by
  refine o_eqO h ?_
  have e := e_watEq j M k hE []
  unfold eqD2
  have et : eqTop eqTab (callF defs (j + 1)) (wat M k E) (wat M k E) = none := rfl
  rw [et]
  dsimp only
  have l2 : eqTab.lookup 4 = some 11 := rfl
  unfold wat at *
  unfold insE
  dsimp only
  rw [l2]
  dsimp only
  rw [e]
  simp
theorem e_lotEq (j : Nat) (M : List (List Nat)) (n k : Nat) {E T T' : D} (hE : Sm 2 E) (hT : Sm 3 T) (hT' : Sm 3 T') (h : Hs) : callF defs (j + 2) 2 [.d (lot M n k E T), .d (lot M n k E T')] h = .ok (.d (.bl (PyData.eqv T.pd T'.pd))) h := by
  have ec := callF_at (defs := defs) (n := j + 1) (i := 2) (md := ⟨2, 2, false, m_Deeds__eq_⟩) (xs := [.d (lot M n k E T), .d (lot M n k E T')]) (h := h) rfl rfl
  have l4 : lookT (.c 3) (isiT isOk isBt 3) = some true := by decide
  have q1 := o_watEq j M k hE h
  have q2 : oEq (.d T) (.d T') h = some (.d (.bl (PyData.eqv T.pd T'.pd)), h) := o_eqS hT hT' (by omega) (by omega)
  rw [ec]
  show fin false h.length (m_Deeds__eq_ (callF defs (j + 1)) [some (.d (lot M n k E T)), some (.d (lot M n k E T'))] h) = _
  rw [am_Deeds__eq_]
  unfold lot
  generalize wat M k E = WW at *
  generalize D.tup ((List.range k).map fun a => D.str (tx [a])) = AA at *
  generalize dn n = NN at *
  simp [l4, q1, q2, ok_watcher, ok_table, List.lookup]
theorem o_lotEq (j : Nat) (M : List (List Nat)) (n k : Nat) {E T T' : D} (hE : Sm 2 E) (hT : Sm 3 T) (hT' : Sm 3 T') (hs : PyData.eqv T.pd T'.pd = true ∨ Mi.same T T' = false) (h : Hs) : oEqO false eqTab (callF defs (j + 2)) (.d (lot M n k E T)) (.d (lot M n k E T')) h = some (.d (.bl (PyData.eqv T.pd T'.pd)), h) := by
  refine o_eqO h ?_
  have e := e_lotEq j M n k hE hT hT' []
  unfold eqD2
  have et : eqTop eqTab (callF defs (j + 2)) (lot M n k E T) (lot M n k E T') = none := rfl
  rw [et]
  dsimp only
  have l2 : eqTab.lookup 3 = some 2 := rfl
  unfold lot at *
  unfold insE
  dsimp only
  rw [l2]
  dsimp only
  rw [e]
  dsimp only
  rw [if_pos]
  rcases hs with hs | hs
  · exact .inl hs
  · refine .inr ?_
    simp [samef, hs]
theorem eqv_len : ∀ xs ys : List PyData, PyData.eqvAll xs ys = true → xs.length = ys.length
  | [], [], _ => rfl
  | [], _ :: _, h => by simp [PyData.eqvAll] at h
  | _ :: _, [], h => by simp [PyData.eqvAll] at h
  | x :: xs, y :: ys, h => by
    rw [PyData.eqvAll, Bool.and_eq_true] at h
    rw [List.length_cons, List.length_cons, eqv_len xs ys h.2]
theorem sames_len : ∀ xs ys : List D, sames xs ys = true → xs.length = ys.length
  | [], [], _ => rfl
  | [], _ :: _, h => by simp [sames] at h
  | _ :: _, [], h => by simp [sames] at h
  | x :: xs, y :: ys, h => by
    rw [sames, Bool.and_eq_true] at h
    rw [List.length_cons, List.length_cons, sames_len xs ys h.2]
theorem eqv_short {L : List D} (hL : L ≠ []) : PyData.eqv (D.tup L).pd (D.tup (L.drop 1)).pd = false ∧ Mi.same (.tup L) (.tup (L.drop 1)) = false := by
  have hl := List.length_pos_iff.mpr hL
  constructor
  · cases q : PyData.eqv (D.tup L).pd (D.tup (L.drop 1)).pd with
    | false => rfl
    | true =>
      rw [D.pd, D.pd, PyData.eqv] at q
      have := eqv_len _ _ q
      rw [pds_eq_map, pds_eq_map, List.length_map, List.length_map, List.length_drop] at this
      omega
  · cases q : Mi.same (.tup L) (.tup (L.drop 1)) with
    | false => rfl
    | true =>
      rw [Mi.same] at q
      have := sames_len _ _ q
      rw [List.length_drop] at this
      omega
end K12

namespace K12
open PySem PySem.Spec Mi
/-! ### the known table -/
def kvP (M : List (List Nat)) (n : Nat) (P : List Wd) : List (List L2.Key × D) := P.map fun w => (kN (deed M n w), D.str (tx w))
def fnd (M : List (List Nat)) (n : Nat) (P : List Wd) (d : List Nat) : Option Wd := P.find? fun w => decide (deed M n w = d)
theorem pairs_P (M : List (List Nat)) (n : Nat) : ∀ P : List Wd, pairsT (P.map (enP M n)) = some (kvP M n P)
  | [] => rfl
  | w :: P => by
    have ih := pairs_P M n P
    have k := key_dT (deed M n w)
    show (keyT (dT (deed M n w))).bind _ = _
    rw [k, ih]
    rfl
theorem nd_P {M : List (List Nat)} {n k : Nat} {P : List Wd} (t : Tb M n k P) : ((kvP M n P).map (·.1)).Nodup := by
  have e : (kvP M n P).map (·.1) = (P.map (deed M n)).map kN := by
    unfold kvP
    rw [List.map_map, List.map_map]; rfl
  rw [e]
  have nd := t.nd
  generalize P.map (deed M n) = L at *
  rw [List.nodup_iff_pairwise_ne] at nd ⊢
  rw [List.pairwise_map]
  exact nd.imp fun h q => h (kN_inj q)
theorem val_P (M : List (List Nat)) (n : Nat) (d : List Nat) : ∀ P : List Wd, valD (kvP M n P) (kN d) = (fnd M n P d).map fun w => D.str (tx w)
  | [] => rfl
  | w :: P => by
    have ih := val_P M n d P
    unfold valD kvP fnd at *
    rw [List.map_cons, List.find?_cons, List.find?_cons]
    by_cases e : deed M n w = d
    · rw [e]; simp
    · have : ¬ kN (deed M n w) = kN d := fun q => e (kN_inj q)
      simp only [decide_eq_false e, decide_eq_false this]
      exact ih
theorem dg_P (M : List (List Nat)) (n : Nat) (P : List Wd) (d : List Nat) (h : Hs) : dGet (.d (.dt (kvP M n P))) (.d (dT d)) h = some ((fnd M n P d).map fun w => D.str (tx w)) := by
  unfold dGet
  dsimp only
  rw [key_dT, Option.map_some, val_P]
theorem in_P (M : List (List Nat)) (n : Nat) (P : List Wd) (d : List Nat) (h : Hs) : oDIn true (.d (dT d)) (.d (.dt (kvP M n P))) h = some (.d (.bl (!(fnd M n P d).isSome)), h) := by
  unfold oDIn
  rw [dg_P, Option.map_some, Option.isSome_map]
  rfl
theorem Tb.has {M : List (List Nat)} {n k : Nat} {P : List Wd} (t : Tb M n k P) {u : Wd} (hu : u ≠ []) (hk : ∀ a ∈ u, a < k) : (fnd M n P (deed M n u)).isSome = true := by
  obtain ⟨w, hw, e, _⟩ := t.cl u hu hk
  unfold fnd
  rw [List.find?_isSome]
  exact ⟨w, hw, decide_eq_true e⟩
theorem Tb.three {M : List (List Nat)} {n k : Nat} {P : List Wd} (t : Tb M n k P) (m : Mv M n k) : ∀ w ∈ P, w.length ≤ 1000 ∧ ∀ a ∈ w, a < 3 := fun w hw => by
  obtain ⟨_, h2, h3⟩ := t.nn w hw
  exact ⟨by omega, fun a ha => by have := h2 a ha; have := m.k3; omega⟩
theorem fnd_three {M : List (List Nat)} {n k : Nat} {P : List Wd} (t : Tb M n k P) (m : Mv M n k) (d : List Nat) : ∀ w, fnd M n P d = some w → ∀ x ∈ w, x < 3 := fun w e => (t.three m w (List.mem_of_find?_eq_some e)).2
/-! ### the least paths -/
def pth (M : List (List Nat)) (P : List Wd) (s : Nat) (G : List Nat) : Option Wd := P.foldl (bst M s G) none
theorem e_path' (q : Nat) {M : List (List Nat)} {n k s : Nat} {P : List Wd} (t : Tb M n k P) (m : Mv M n k) (hs : s < n) (b : Bool) (G : List Nat) (h : Hs) : callF defs (q + 2) 25 [.d (dM M), .d (dn s), .d (gv b G)] h = .ok (.d (ow (pth M P s G))) h := by
  obtain ⟨o, ho, e⟩ := e_path q m hs b G h
  rw [e, ho.uniq (t.best hs G)]
  rfl
theorem pth_three {M : List (List Nat)} {n k s : Nat} {P : List Wd} (t : Tb M n k P) (m : Mv M n k) (hs : s < n) (G : List Nat) : ∀ w, pth M P s G = some w → ∀ x ∈ w, x < 3 := fun w e x hx => by
  have b := t.best hs G
  have e' : P.foldl (bst M s G) none = some w := e
  rw [e'] at b
  have := b.2.1 x hx
  have := m.k3
  omega
theorem pth_some {M : List (List Nat)} {n k s : Nat} {P : List Wd} (t : Tb M n k P) (hs : s < n) (G : List Nat) : (pth M P s G).isSome = true ↔ ∃ w ∈ P, go M s w ∈ G := by
  have f := bst_fold (M := M) (s := s) (G := G) P none
  unfold pth
  cases q : P.foldl (bst M s G) none with
  | none =>
    rw [q] at f
    constructor
    · intro h; cases h
    · rintro ⟨w, hw, hg⟩
      exact absurd hg (f.2 w hw)
  | some w =>
    rw [q] at f
    refine ⟨fun _ => ?_, fun _ => rfl⟩
    rcases f.1 with e | ⟨e1, e2⟩
    · cases e
    · exact ⟨w, e1, e2⟩
/-! ### the environment -/
def ev (M : List (List Nat)) (n k : Nat) (E : D) (P : List Wd) (X6 X7 X8 X9 X10 X11 X12 X13 X14 X15 X16 X17 : Option D) : Lo :=
  [some (.r 0), some (.d (dM M)), some (.d (lot M n k E (tbD M n P))), some (.d (.lv (P.map (enP M n)))), some (.d (dn n)), some (.d (.dt (kvP M n P))), od X6, od X7, od X8, od X9, od X10, od X11, od X12, od X13, od X14, od X15, od X16, od X17, none, none, none]
section
variable (q : Nat) {M : List (List Nat)} {n k : Nat} (m : Mv M n k) {P : List Wd} (tb : Tb M n k P) (E : D) (src : O) (t : Hs)
include m tb
theorem r_1 {w u : Wd} (hw : w ∈ P) (hu : u ∈ P) (X10 X11 X12 X13 X14 X15 X16 X17 : Option D) :
    b__law_right_1 (callF defs (q + 3)) (ev M n k E P (some (dT (deed M n w))) (some (.str (tx w))) (some (dT (deed M n u))) (some (.str (tx u))) X10 X11 X12 X13 X14 X15 X16 X17) (src :: t) =
      .ok .nx (ev M n k E P (some (dT (deed M n w))) (some (.str (tx w))) (some (dT (deed M n u))) (some (.str (tx u))) (some (dT (deed M n (w ++ u)))) X11 X12 X13 X14 X15 X16 X17) (src :: t) := by
  obtain ⟨w1, w2, w3⟩ := tb.nn w hw
  obtain ⟨u1, u2, u3⟩ := tb.nn u hu
  have hlt : ∀ s ∈ deed M n w, s < (deed M n u).length := by rw [deed_len]; exact m.deed_lt w2
  have hl : (deed M n w).length ≤ 1000 := by rw [deed_len]; have := m.n4; omega
  have e1 := e_after (q + 2) (deed M n w) (deed M n u) (src :: t) hlt hl
  have e2 := e_chain (q + 2) (deed M n w) (deed M n u) (src :: t) hlt hl
  rw [deed_app m w2] at e1 e2
  have o := o_neD (deed M n (w ++ u)) (deed M n (w ++ u)) (src :: t)
  rw [decide_eq_true rfl] at o
  have i := in_P M n P (deed M n (w ++ u)) (src :: t)
  rw [tb.has (u := w ++ u) (by simp [w1]) (fun a ha => (List.mem_append.mp ha).elim (w2 a) (u2 a))] at i
  unfold ev
  rw [ab__law_right_1]
  generalize dT (deed M n (w ++ u)) = z1 at *
  generalize dT (deed M n w) = z2 at *
  generalize dT (deed M n u) = z3 at *
  generalize lot M n k E (tbD M n P) = LT at *
  generalize P.map (enP M n) = PL at *
  generalize kvP M n P = kv at *
  generalize dM M = MM at *
  simp [od, e1, e2, o, i]
theorem l_1 {w : Wd} (hw : w ∈ P) (X11 X12 X13 X14 X15 X16 X17 : Option D) : ∀ (Q : List Wd) (X8 X9 X10 : Option D), (∀ u ∈ Q, u ∈ P) →
    ∃ Y8 Y9 Y10, forL (gTp 2 (gCo (gNm 8) (gCo (gNm 9) gNi))) (b__law_right_1 (callF defs (q + 3))) (Q.map (enP M n)) (ev M n k E P (some (dT (deed M n w))) (some (.str (tx w))) X8 X9 X10 X11 X12 X13 X14 X15 X16 X17) (src :: t) =
      .ok .nx (ev M n k E P (some (dT (deed M n w))) (some (.str (tx w))) Y8 Y9 Y10 X11 X12 X13 X14 X15 X16 X17) (src :: t)
  | [], X8, X9, X10, _ => ⟨X8, X9, X10, by simp [forL]⟩
  | u :: Q, X8, X9, X10, hQ => by
    have b := r_1 q m tb E src t hw (hQ u List.mem_cons_self) X10 X11 X12 X13 X14 X15 X16 X17
    obtain ⟨Y8, Y9, Y10, r⟩ := l_1 hw X11 X12 X13 X14 X15 X16 X17 Q (some (dT (deed M n u))) (some (.str (tx u))) (some (dT (deed M n (w ++ u)))) fun x hx => hQ x (List.mem_cons_of_mem _ hx)
    refine ⟨Y8, Y9, Y10, ?_⟩
    rw [← r]
    have en : enP M n u = .tup [dT (deed M n u), .str (tx u)] := rfl
    rw [List.map_cons, en]
    have g : gTp 2 (gCo (gNm 8) (gCo (gNm 9) gNi)) (.d (.tup [dT (deed M n u), .str (tx u)])) (ev M n k E P (some (dT (deed M n w))) (some (.str (tx w))) X8 X9 X10 X11 X12 X13 X14 X15 X16 X17) (src :: t) = some (ev M n k E P (some (dT (deed M n w))) (some (.str (tx w))) (some (dT (deed M n u))) (some (.str (tx u))) X10 X11 X12 X13 X14 X15 X16 X17, src :: t) := by
      generalize dT (deed M n u) = z at *
      unfold ev
      rfl
    rw [forL, g]
    dsimp only
    rw [b]
    dsimp only
    have c : clr (src :: t).length (ev M n k E P (some (dT (deed M n w))) (some (.str (tx w))) (some (dT (deed M n u))) (some (.str (tx u))) (some (dT (deed M n (w ++ u)))) X11 X12 X13 X14 X15 X16 X17) = ev M n k E P (some (dT (deed M n w))) (some (.str (tx w))) (some (dT (deed M n u))) (some (.str (tx u))) (some (dT (deed M n (w ++ u)))) X11 X12 X13 X14 X15 X16 X17 := by
      unfold ev
      simp
    rw [c, List.take_length]
theorem r_2 {w : Wd} (hw : w ∈ P) (X8 X9 X10 X11 X12 X13 X14 X15 X16 X17 : Option D) :
    ∃ Y8 Y9 Y10, b__law_right_2 (callF defs (q + 3)) (ev M n k E P (some (dT (deed M n w))) (some (.str (tx w))) X8 X9 X10 X11 X12 X13 X14 X15 X16 X17) (src :: t) =
      .ok .nx (ev M n k E P (some (dT (deed M n w))) (some (.str (tx w))) Y8 Y9 Y10 X11 X12 X13 X14 X15 X16 X17) (src :: t) := by
  obtain ⟨Y8, Y9, Y10, r⟩ := l_1 q m tb E src t hw X11 X12 X13 X14 X15 X16 X17 P X8 X9 X10 fun u hu => hu
  refine ⟨Y8, Y9, Y10, ?_⟩
  obtain ⟨w1, w2, w3⟩ := tb.nn w hw
  have e1 := e_text_of (q + 2) M n k E P (deed M n w) (src :: t)
  rw [tb.find hw] at e1
  have e2 := e_text_deed (q + 1) m E (tbD M n P) (src :: t) w2
  have o1 := o_neO (o := some w) (fun x hx => by cases hx; exact (tb.three m w hw).2) (src :: t)
  have o2 := o_neD (deed M n w) (deed M n w) (src :: t)
  rw [decide_eq_true rfl] at o2
  rw [ab__law_right_2]
  refine sq_go (σ1 := ev M n k E P (some (dT (deed M n w))) (some (.str (tx w))) X8 X9 X10 X11 X12 X13 X14 X15 X16 X17) (h1 := src :: t) ?_ ?_
  · unfold ev
    dsimp only [ow] at e1 o1
    have li : ∀ h', insOf (.d (lot M n k E (tbD M n P))) h' = some (3, _) := fun h' => lot_ins M n k E (tbD M n P) h'
    generalize dT (deed M n w) = z2 at *
    generalize lot M n k E (tbD M n P) = LT at *
    generalize P.map (enP M n) = PL at *
    generalize kvP M n P = kv at *
    generalize dM M = MM at *
    simp [od, li, e1, e2, o1, o2]
  · have it : iSeq (eVar 3) (ev M n k E P (some (dT (deed M n w))) (some (.str (tx w))) X8 X9 X10 X11 X12 X13 X14 X15 X16 X17) (src :: t) = .ok (P.map (enP M n)) (src :: t) := rfl
    rw [ap_for, it, sb_ok]
    exact r
theorem l_2 (X11 X12 X13 X14 X15 X16 X17 : Option D) : ∀ (Q : List Wd) (X6 X7 X8 X9 X10 : Option D), (∀ u ∈ Q, u ∈ P) →
    ∃ Y6 Y7 Y8 Y9 Y10, forL (gTp 2 (gCo (gNm 6) (gCo (gNm 7) gNi))) (b__law_right_2 (callF defs (q + 3))) (Q.map (enP M n)) (ev M n k E P X6 X7 X8 X9 X10 X11 X12 X13 X14 X15 X16 X17) (src :: t) =
      .ok .nx (ev M n k E P Y6 Y7 Y8 Y9 Y10 X11 X12 X13 X14 X15 X16 X17) (src :: t)
  | [], X6, X7, X8, X9, X10, _ => ⟨X6, X7, X8, X9, X10, by simp [forL]⟩
  | u :: Q, X6, X7, X8, X9, X10, hQ => by
    obtain ⟨Z8, Z9, Z10, b⟩ := r_2 q m tb E src t (hQ u List.mem_cons_self) X8 X9 X10 X11 X12 X13 X14 X15 X16 X17
    obtain ⟨Y6, Y7, Y8, Y9, Y10, r⟩ := l_2 X11 X12 X13 X14 X15 X16 X17 Q (some (dT (deed M n u))) (some (.str (tx u))) Z8 Z9 Z10 fun x hx => hQ x (List.mem_cons_of_mem _ hx)
    refine ⟨Y6, Y7, Y8, Y9, Y10, ?_⟩
    rw [← r]
    have en : enP M n u = .tup [dT (deed M n u), .str (tx u)] := rfl
    rw [List.map_cons, en]
    have g : gTp 2 (gCo (gNm 6) (gCo (gNm 7) gNi)) (.d (.tup [dT (deed M n u), .str (tx u)])) (ev M n k E P X6 X7 X8 X9 X10 X11 X12 X13 X14 X15 X16 X17) (src :: t) = some (ev M n k E P (some (dT (deed M n u))) (some (.str (tx u))) X8 X9 X10 X11 X12 X13 X14 X15 X16 X17, src :: t) := by
      generalize dT (deed M n u) = z at *
      unfold ev
      rfl
    rw [forL, g]
    dsimp only
    rw [b]
    dsimp only
    have c : clr (src :: t).length (ev M n k E P (some (dT (deed M n u))) (some (.str (tx u))) Z8 Z9 Z10 X11 X12 X13 X14 X15 X16 X17) = ev M n k E P (some (dT (deed M n u))) (some (.str (tx u))) Z8 Z9 Z10 X11 X12 X13 X14 X15 X16 X17 := by
      unfold ev
      simp
    rw [c, List.take_length]
end
end K12

namespace K12
open PySem PySem.Spec Mi
theorem col_deed {M : List (List Nat)} {n k : Nat} (m : Mv M n k) (a : Nat) : deed M n [a] = col M a := by
  unfold deed col
  refine List.ext_getElem? fun i => ?_
  rw [List.getElem?_map, List.getElem?_map]
  by_cases h : i < n
  · have h' : i < M.length := by rw [m.len]; exact h
    rw [List.getElem?_range h, List.getElem?_eq_getElem h']
    show some (mv M i a) = some _
    unfold mv
    rw [List.getD_eq_getElem?_getD (l := M), List.getElem?_eq_getElem h']
    rfl
  · rw [List.getElem?_eq_none (by simp; omega), List.getElem?_eq_none (by rw [m.len]; omega)]; rfl
theorem len0 {M : List (List Nat)} {n k : Nat} (m : Mv M n k) (σ : Lo) (h : Hs) (hσ : σ[1]? = some (some (.d (dM M)))) : eN nLen (aCons (eBin oIx (eVar 1) (eK (.int 0))) aNil) σ h = .ok (.d (dn k)) h := by
  have i0 := ix_dM (M := M) (s := 0) (by rw [m.len]; exact m.n0) h
  have i0' : oIx (.d (dM M)) (.d (.int 0)) h = some (.d (dT (M.getD 0 [])), h) := i0
  have rl := (m.row_at m.n0).1
  generalize M.getD 0 [] = r0 at *
  generalize dM M = MM at *
  simp [hσ, i0', dT, rl, dn]
theorem abc_k {M : List (List Nat)} {n k : Nat} (m : Mv M n k) (σ : Lo) (h : Hs) (hσ : σ[1]? = some (some (.d (dM M)))) : eSl (eK (.str "abc")) oNone (oSome (eN nLen (aCons (eBin oIx (eVar 1) (eK (.int 0))) aNil))) σ h = .ok (.d (.str (tx (List.range k)))) h := by
  have l := len0 m σ h hσ
  have s := sl_abc m.k3 h
  unfold dn at l
  generalize eN nLen (aCons (eBin oIx (eVar 1) (eK (.int 0))) aNil) = F at *
  simp [l, s]
section
variable (q : Nat) {M : List (List Nat)} {n k : Nat} (m : Mv M n k) {P : List Wd} (tb : Tb M n k P) (E : D) (t : Hs)
include m tb
theorem r_4 (src : O) {a : Nat} (ha : a < k) (X6 X7 X8 X9 X10 X11 X13 X14 X15 X16 X17 : Option D) :
    b__law_right_4 (callF defs (q + 3)) (ev M n k E P X6 X7 X8 X9 X10 X11 (some (dn a)) X13 X14 X15 X16 X17) (src :: t) = .ok .nx (ev M n k E P X6 X7 X8 X9 X10 X11 (some (dn a)) X13 X14 X15 X16 X17) (src :: t) := by
  have k3 := m.k3
  have e1 := e_letter_deed q m E (tbD M n P) (src :: t) ha
  rw [col_deed m] at e1
  have ix := ix_abc (a := a) (by omega) (src :: t)
  have c := cmpL_all (vs := [19]) (g := gNm 19) (f := eBin oIx (eVar 19) (eVar 12)) (σ := ev M n k E P X6 X7 X8 X9 X10 X11 (some (dn a)) X13 X14 X15 X16 X17) (h := src :: t) dT (fun r => dn (r.getD a 0)) M (lts (by rw [m.len]; have := m.n4; omega)) fun r hr h' =>
    ⟨_, rfl, by
      have i2 := ix_dT (g := r) (s := a) (by rw [(m.row r hr).1]; exact ha) h'
      generalize r.getD a 0 = z at *
      unfold ev
      generalize lot M n k E (tbD M n P) = LT at *
      generalize P.map (enP M n) = PL at *
      generalize kvP M n P = kv at *
      generalize dM M = MM at *
      simp [wipeL, od, i2]⟩
  have ec : (M.map fun r => dn (r.getD a 0)) = (col M a).map dn := by
    unfold col
    rw [List.map_map]; rfl
  rw [ec] at c
  have le := lc_end (src :: t) ((col M a).map dn)
  have o := o_neD (col M a) (col M a) (src :: t)
  rw [decide_eq_true rfl] at o
  have ed : dT (col M a) = .tup ((col M a).map dn) := rfl
  rw [ed] at o e1
  have it : iSeq (eVar 1) (ev M n k E P X6 X7 X8 X9 X10 X11 (some (dn a)) X13 X14 X15 X16 X17) (src :: t) = .ok (M.map dT) (src :: t) := rfl
  have lc : eLc false [19] (iSeq (eVar 1)) (gNm 19) tYs (eBin oIx (eVar 19) (eVar 12)) (ev M n k E P X6 X7 X8 X9 X10 X11 (some (dn a)) X13 X14 X15 X16 X17) (src :: t) = .ok (.d (.lv ((col M a).map dn))) (src :: t) := by
    rw [ap_lc, it]
    simp only [rb_ok]
    rw [c]
    exact le
  have li : ∀ h', insOf (.d (lot M n k E (tbD M n P))) h' = some (3, _) := fun h' => lot_ins M n k E (tbD M n P) h'
  have v2 : eVar 2 (ev M n k E P X6 X7 X8 X9 X10 X11 (some (dn a)) X13 X14 X15 X16 X17) (src :: t) = .ok (.d (lot M n k E (tbD M n P))) (src :: t) := rfl
  have v12 : eVar 12 (ev M n k E P X6 X7 X8 X9 X10 X11 (some (dn a)) X13 X14 X15 X16 X17) (src :: t) = .ok (.d (dn a)) (src :: t) := rfl
  rw [ab__law_right_4]
  generalize ev M n k E P X6 X7 X8 X9 X10 X11 (some (dn a)) X13 X14 X15 X16 X17 = σ at *
  generalize lot M n k E (tbD M n P) = LT at *
  generalize (col M a).map dn = CL at *
  generalize D.str (tx [a]) = TA at *
  simp [v2, v12, li, ix, e1, lc, o, -ap_lc, -ap_var]
theorem r_3 (c : Nat) (hc : c ≤ 700000) {src : O} (hs : Src c src) (j : Nat) (X6 X7 X8 X9 X10 X12 X13 X14 X15 X16 X17 : Option D) :
    ∃ Y6 Y7, ∃ src', Src (c + 35) src' ∧ b__law_right_3 (callF defs (q + 3)) (ev M n k E P X6 X7 X8 X9 X10 (some (dn j)) X12 X13 X14 X15 X16 X17) (src :: t) = .ok .nx (ev M n k E P Y6 Y7 X8 X9 X10 (some (dn j)) X12 X13 X14 X15 X16 X17) (src' :: t) := by
  have k3 := m.k3
  have n4 := m.n4
  obtain ⟨d, hd, hdl, src1, s1, e1⟩ := k_nats (q + 2) m.n0 (by omega) (vs := [18]) (g := gNm 18) (f := eCl (callF defs (q + 3)) 14 [] (aCons (eVar 0) (aCons (eVar 4) aNil))) (σ := ev M n k E P X6 X7 X8 X9 X10 (some (dn j)) X12 X13 X14 X15 X16 X17) t ((List.range n).map dn) c src hs (by rw [List.length_map, List.length_range]; omega) (by rw [List.length_map, List.length_range]; omega) fun x hx =>
    ⟨_, fun h => rfl, fun src h' v src' e => by
      unfold ev
      generalize lot M n k E (tbD M n P) = LT at *
      generalize P.map (enP M n) = PL at *
      generalize kvP M n P = kv at *
      generalize dM M = MM at *
      simp [wipeL, od, e]⟩
  rw [List.length_map, List.length_range] at hd s1
  have r1 : iA1 (aCons (eVar 4) aNil) (ev M n k E P X6 X7 X8 X9 X10 (some (dn j)) X12 X13 X14 X15 X16 X17) (src :: t) = .ok ((List.range n).map dn) (src :: t) := ia1 rfl (by omega)
  have le := lc_endS src1 t (d.map dn)
  have lc : eLc false [18] (iA1 (aCons (eVar 4) aNil)) (gNm 18) tYs (eCl (callF defs (q + 3)) 14 [] (aCons (eVar 0) (aCons (eVar 4) aNil))) (ev M n k E P X6 X7 X8 X9 X10 (some (dn j)) X12 X13 X14 X15 X16 X17) (src :: t) = .ok (.d (.lv (d.map dn))) (src1 :: t) := by
    rw [ap_lc, r1]
    simp only [rb_ok, List.length_cons, List.cons_append]
    rw [e1]
    exact le
  obtain ⟨w, hw, hwl, src2, s2, e2⟩ := k_text q m.k0 m.k3 (c + n) (by omega) s1 t
  refine ⟨some (dT d), some (.str (tx w)), src2, s2.up (by omega), ?_⟩
  have et := e_text_of (q + 2) M n k E P d (src1 :: t)
  have o1 := o_neO (o := fnd M n P d) (fnd_three tb m d) (src1 :: t)
  have ed := e_text_deed (q + 1) m E (tbD M n P) (src2 :: t) hw
  have el := e_law_deed (q + 1) m (src2 :: t) hw
  have o2 := o_neD (deed M n w) (deed M n w) (src2 :: t)
  rw [decide_eq_true rfl] at o2
  have i := in_P M n P (deed M n w) (src2 :: t)
  have dg := dg_P M n P d (src1 :: t)
  have li : ∀ h', insOf (.d (lot M n k E (tbD M n P))) h' = some (3, _) := fun h' => lot_ins M n k E (tbD M n P) h'
  rw [ab__law_right_3]
  refine sq_go (σ1 := ev M n k E P (some (dT d)) X7 X8 X9 X10 (some (dn j)) X12 X13 X14 X15 X16 X17) (h1 := src1 :: t) ?_ ?_
  · refine as_nx (x := .d (dT d)) ?_ rfl
    have ed : Vl.d (dT d) = Vl.d (.tup (d.map dn)) := rfl
    rw [ed]
    generalize d.map dn = DL at *
    simp [lc, -ap_lc]
  refine sq_go (σ1 := ev M n k E P (some (dT d)) X7 X8 X9 X10 (some (dn j)) X12 X13 X14 X15 X16 X17) (h1 := src1 :: t) ?_ ?_
  · have v2 : eVar 2 (ev M n k E P (some (dT d)) X7 X8 X9 X10 (some (dn j)) X12 X13 X14 X15 X16 X17) (src1 :: t) = .ok (.d (lot M n k E (tbD M n P))) (src1 :: t) := rfl
    have v6 : eVar 6 (ev M n k E P (some (dT d)) X7 X8 X9 X10 (some (dn j)) X12 X13 X14 X15 X16 X17) (src1 :: t) = .ok (.d (dT d)) (src1 :: t) := rfl
    have gd : eDg2 (eVar 5) (eVar 6) (eK .non) (ev M n k E P (some (dT d)) X7 X8 X9 X10 (some (dn j)) X12 X13 X14 X15 X16 X17) (src1 :: t) = .ok (.d (ow (fnd M n P d))) (src1 :: t) := by
      have v5 : eVar 5 (ev M n k E P (some (dT d)) X7 X8 X9 X10 (some (dn j)) X12 X13 X14 X15 X16 X17) (src1 :: t) = .ok (.d (.dt (kvP M n P))) (src1 :: t) := rfl
      unfold eDg2
      have is : isDct (.d (.dt (kvP M n P))) (src1 :: t) = true := rfl
      simp only [v5, v6, rb_ok, is, if_true, ap_k, dg]
      cases fnd M n P d <;> rfl
    have et' : callF defs (q + 3) 5 [.d (lot M n k E (tbD M n P)), .d (dT d)] (src1 :: t) = .ok (.d (ow (fnd M n P d))) (src1 :: t) := et
    generalize ev M n k E P (some (dT d)) X7 X8 X9 X10 (some (dn j)) X12 X13 X14 X15 X16 X17 = σ at *
    generalize lot M n k E (tbD M n P) = LT at *
    generalize ow (fnd M n P d) = OW at *
    generalize dT d = DD at *
    simp [v2, v6, li, et', gd, o1, -ap_var]
  refine sq_go (σ1 := ev M n k E P (some (dT d)) (some (.str (tx w))) X8 X9 X10 (some (dn j)) X12 X13 X14 X15 X16 X17) (h1 := src2 :: t) ?_ ?_
  · have ab := abc_k m (ev M n k E P (some (dT d)) X7 X8 X9 X10 (some (dn j)) X12 X13 X14 X15 X16 X17) (src1 :: t) rfl
    have v0 : eVar 0 (ev M n k E P (some (dT d)) X7 X8 X9 X10 (some (dn j)) X12 X13 X14 X15 X16 X17) (src1 :: t) = .ok (.r 0) (src1 :: t) := rfl
    refine as_nx (x := .d (.str (tx w))) ?_ rfl
    have e2' : callF defs (q + 3) 16 [.r 0, .d (.str (tx (List.range k))), .d (.int 30)] (src1 :: t) = .ok (.d (.str (tx w))) (src2 :: t) := e2
    generalize ev M n k E P (some (dT d)) X7 X8 X9 X10 (some (dn j)) X12 X13 X14 X15 X16 X17 = σ at *
    generalize D.str (tx (List.range k)) = TK at *
    simp [v0, ab, e2', -ap_var, -ap_sl]
  · have v1 : eVar 1 (ev M n k E P (some (dT d)) (some (.str (tx w))) X8 X9 X10 (some (dn j)) X12 X13 X14 X15 X16 X17) (src2 :: t) = .ok (.d (dM M)) (src2 :: t) := rfl
    have v2 : eVar 2 (ev M n k E P (some (dT d)) (some (.str (tx w))) X8 X9 X10 (some (dn j)) X12 X13 X14 X15 X16 X17) (src2 :: t) = .ok (.d (lot M n k E (tbD M n P))) (src2 :: t) := rfl
    have v5 : eVar 5 (ev M n k E P (some (dT d)) (some (.str (tx w))) X8 X9 X10 (some (dn j)) X12 X13 X14 X15 X16 X17) (src2 :: t) = .ok (.d (.dt (kvP M n P))) (src2 :: t) := rfl
    have v7 : eVar 7 (ev M n k E P (some (dT d)) (some (.str (tx w))) X8 X9 X10 (some (dn j)) X12 X13 X14 X15 X16 X17) (src2 :: t) = .ok (.d (.str (tx w))) (src2 :: t) := rfl
    have oe : oEqF true (.d (.str (tx w))) (.d (.str "")) (src2 :: t) = some (.d (.bl (!w.isEmpty)), src2 :: t) := by
      rw [o_eqF_str, ← tx_nil, if_pos rfl]
      have : (tx w == tx []) = w.isEmpty := by
        cases w with
        | nil => simp
        | cons a w =>
          have : ¬ tx (a :: w) = tx [] := fun q => by cases tx_inj q
          simp [this]
      rw [this]
    generalize ev M n k E P (some (dT d)) (some (.str (tx w))) X8 X9 X10 (some (dn j)) X12 X13 X14 X15 X16 X17 = σ at *
    by_cases hw0 : w = []
    · subst hw0
      generalize lot M n k E (tbD M n P) = LT at *
      generalize dT (deed M n []) = DD at *
      generalize kvP M n P = kv at *
      generalize tx [] = tn at *
      generalize dM M = MM at *
      simp [v1, v2, v5, v7, li, ed, el, o2, oe, -ap_var]
    · rw [tb.has hw0 hw] at i
      have we : w.isEmpty = false := by cases w with
        | nil => exact absurd rfl hw0
        | cons => rfl
      rw [we] at oe
      generalize lot M n k E (tbD M n P) = LT at *
      generalize dT (deed M n w) = DD at *
      generalize kvP M n P = kv at *
      generalize tx w = tn at *
      generalize dM M = MM at *
      simp [v1, v2, v5, v7, li, ed, el, o2, oe, i, -ap_var]
end
end K12

namespace K12
open PySem PySem.Spec Mi
theorem eqv_nil (l : List D) : PyData.eqvAll (D.pds l) (D.pds []) = l.isEmpty := by
  cases l <;> simp [D.pds, PyData.eqvAll]
theorem sm_dns (L : List Nat) : ∀ x ∈ L.map dn, Sm 0 x := fun x hx => by
  obtain ⟨i, _, rfl⟩ := List.mem_map.mp hx
  exact trivial
theorem o_eqE (L : List Nat) (h : Hs) : oEq (.d (.lv (L.map dn))) (.d (.lv [])) h = some (.d (.bl L.isEmpty), h) := by
  rw [o_eqS (a := .lv (L.map dn)) (b := .lv []) (n := 1) (m := 1) (sm_dns L) (fun x hx => nomatch hx) (by omega) (by omega)]
  simp only [D.pd, PyData.eqv, eqv_nil, List.isEmpty_map]
/-- the states that some word leads to -/
def met (M : List (List Nat)) (P : List Wd) (n s : Nat) : List Nat := (List.range n).filter fun g => (pth M P s [g]).isSome
section
variable {M : List (List Nat)} {n k : Nat} {P : List Wd}
theorem mem_met (tb : Tb M n k P) (m : Mv M n k) {s : Nat} (hs : s < n) (g : Nat) : g ∈ met M P n s ↔ ∃ w ∈ P, go M s w = g := by
  unfold met
  rw [List.mem_filter, pth_some tb hs]
  constructor
  · rintro ⟨_, w, hw, e⟩
    exact ⟨w, hw, List.mem_singleton.mp e⟩
  · rintro ⟨w, hw, rfl⟩
    exact ⟨List.mem_range.mpr (m.go_lt w hs (tb.nn w hw).2.1), w, hw, List.mem_singleton.mpr rfl⟩
theorem met_srt (s : Nat) : (met M P n s).Pairwise (· < ·) := List.Pairwise.filter _ List.pairwise_lt_range
theorem met_eq (tb : Tb M n k P) (m : Mv M n k) {s : Nat} (hs : s < n) : (sIns (P.map fun w => (go M s w : Int))).map D.int = (met M P n s).map dn := by
  have e : sIns (P.map fun w => (go M s w : Int)) = (met M P n s).map fun (g : Nat) => (g : Int) := by
    refine asc_uniq lt_sIns ?_ fun x => ?_
    · rw [List.pairwise_map]
      exact (met_srt s).imp fun h => by omega
    · rw [mem_sIns, List.mem_map, List.mem_map]
      constructor
      · rintro ⟨w, hw, rfl⟩
        exact ⟨_, (mem_met tb m hs _).mpr ⟨w, hw, rfl⟩, rfl⟩
      · rintro ⟨g, hg, rfl⟩
        obtain ⟨w, hw, rfl⟩ := (mem_met tb m hs _).mp hg
        exact ⟨w, hw, rfl⟩
  rw [e, List.map_map]; rfl
theorem none_iff (tb : Tb M n k P) (m : Mv M n k) {s : Nat} (hs : s < n) (G : List Nat) : (pth M P s G).isNone = (G.filter fun g => decide (g ∈ met M P n s)).isEmpty := by
  have h := pth_some tb hs G
  cases q : pth M P s G with
  | none =>
    rw [q] at h
    symm
    rw [Option.isNone_none, List.isEmpty_iff, List.filter_eq_nil_iff]
    intro g hg c
    obtain ⟨w, hw, e⟩ := (mem_met tb m hs g).mp (of_decide_eq_true c)
    exact absurd (h.mpr ⟨w, hw, by rw [e]; exact hg⟩) (by simp)
  | some w0 =>
    rw [q] at h
    obtain ⟨w, hw, hg⟩ := h.mp rfl
    symm
    rw [Option.isNone_some]
    cases z : (G.filter fun g => decide (g ∈ met M P n s)) with
    | cons => rfl
    | nil =>
      rw [List.filter_eq_nil_iff] at z
      exact absurd (decide_eq_true ((mem_met tb m hs _).mpr ⟨w, hw, rfl⟩)) (z _ hg)
end
section
variable (q : Nat) {M : List (List Nat)} {n k : Nat} (m : Mv M n k) {P : List Wd} (tb : Tb M n k P) (E : D) (t : Hs)
include m tb
theorem r_5 (c : Nat) (hc : c ≤ 700000) {src : O} (hsr : Src c src) {s : Nat} (hs : s < n) (X6 X7 X8 X9 X10 X11 X12 X14 X15 X16 X17 : Option D) :
    ∃ Y14 Y15 Y16 Y17, ∃ src', Src (c + 4) src' ∧ b__law_right_5 (callF defs (q + 3)) (ev M n k E P X6 X7 X8 X9 X10 X11 X12 (some (dn s)) X14 X15 X16 X17) (src :: t) = .ok .nx (ev M n k E P X6 X7 X8 X9 X10 X11 X12 (some (dn s)) Y14 Y15 Y16 Y17) (src' :: t) := by
  have n4 := m.n4
  have k3 := m.k3
  have path := fun (b : Bool) (G : List Nat) (h : Hs) => e_path' (q + 1) tb m hs b G h
  have li : ∀ h', insOf (.d (lot M n k E (tbD M n P))) h' = some (3, _) := fun h' => lot_ins M n k E (tbD M n P) h'
  -- met
  have c1 := cmpL_on (vs := [20]) (g := gNm 20) (t := tBl (eBin oNotN (eCl (callF defs (q + 3)) 25 [] (aCons (eVar 1) (aCons (eVar 13) (aCons (eLv (aCons (eVar 20) aNil)) aNil)))) (eK .non))) (f := eVar 20) (σ := ev M n k E P X6 X7 X8 X9 X10 X11 X12 (some (dn s)) X14 X15 X16 X17) (h := src :: t) dn (fun g => (pth M P s [g]).isSome) dn (List.range n) [] (lts (by rw [List.length_range]; simp; omega)) fun g _ h' =>
    ⟨(wipeL (ev M n k E P X6 X7 X8 X9 X10 X11 X12 (some (dn s)) X14 X15 X16 X17) [20]).set 20 (some (.d (dn g))), rfl, by
      have pg := path false [g] h'
      have e0 : gv false [g] = .lv [dn g] := rfl
      rw [e0] at pg
      have nn : isNon (.d (ow (pth M P s [g]))) = !(pth M P s [g]).isSome := by cases pth M P s [g] <;> rfl
      unfold ev
      generalize lot M n k E (tbD M n P) = LT at *
      generalize P.map (enP M n) = PL at *
      generalize kvP M n P = kv at *
      generalize dM M = MM at *
      generalize ow (pth M P s [g]) = OW at *
      simp [wipeL, od, pg, nn], fun _ => rfl⟩
  rw [List.nil_append] at c1
  have em : ((List.range n).filter fun g => (pth M P s [g]).isSome) = met M P n s := rfl
  rw [em] at c1
  have le1 := lc_end (src :: t) ((met M P n s).map dn)
  have r1 : ∀ X15 X16, iA1 (aCons (eVar 4) aNil) (ev M n k E P X6 X7 X8 X9 X10 X11 X12 (some (dn s)) X14 X15 X16 X17) (src :: t) = .ok ((List.range n).map dn) (src :: t) := fun _ _ => ia1 rfl (by omega)
  have lc1 : eLc false [20] (iA1 (aCons (eVar 4) aNil)) (gNm 20) (tBl (eBin oNotN (eCl (callF defs (q + 3)) 25 [] (aCons (eVar 1) (aCons (eVar 13) (aCons (eLv (aCons (eVar 20) aNil)) aNil)))) (eK .non))) (eVar 20) (ev M n k E P X6 X7 X8 X9 X10 X11 X12 (some (dn s)) X14 X15 X16 X17) (src :: t) = .ok (.d (gv false (met M P n s))) (src :: t) := by
    rw [ap_lc, r1]
    simp only [rb_ok]
    rw [c1]
    exact le1
  -- reached_from
  have er := e_reached (q + 2) M hs E P tb.ln (src :: t) (k := k)
  rw [met_eq tb m hs] at er
  have o1 : oNe (.d (.tup ((met M P n s).map dn))) (.d (.tup ((met M P n s).map dn))) (src :: t) = some (.d (.bl false), src :: t) := o_neR (n := 1) (a := .tup ((met M P n s).map dn)) (sm_dns _) (by omega)
  have ntm : nTuple [.d (gv false (met M P n s))] (src :: t) = some (.d (.tup ((met M P n s).map dn)), src :: t) := rfl
  -- goals
  obtain ⟨v, hv, src1, s1, e1⟩ := k_take (q + 2) c (by omega) hsr 4 (by omega) (big (by omega)) t
  generalize hmet : gv false (met M P n s) = MT at *
  obtain ⟨G, hG, hGl, src2, s2, e2⟩ := k_nats (q + 2) m.n0 (by omega) (vs := [11]) (g := gNm 11) (f := eCl (callF defs (q + 3)) 14 [] (aCons (eVar 0) (aCons (eVar 4) aNil))) (σ := ev M n k E P X6 X7 X8 X9 X10 X11 X12 (some (dn s)) (some MT) X15 X16 X17) t ((List.range v).map dn) (c + 1) src1 s1 (by rw [List.length_map, List.length_range]; omega) (by rw [List.length_map, List.length_range]; omega) fun x hx =>
    ⟨(wipeL (ev M n k E P X6 X7 X8 X9 X10 X11 X12 (some (dn s)) (some MT) X15 X16 X17) [11]).set 11 (some (.d x)), fun h => rfl, fun src h' v src' e => by
      unfold ev
      generalize lot M n k E (tbD M n P) = LT at *
      generalize P.map (enP M n) = PL at *
      generalize kvP M n P = kv at *
      generalize dM M = MM at *
      simp [wipeL, od, e]⟩
  rw [List.length_map, List.length_range] at hG s2
  have v0 : ∀ X15 X16 h', eVar 0 (ev M n k E P X6 X7 X8 X9 X10 X11 X12 (some (dn s)) (some MT) X15 X16 X17) h' = .ok (.r 0) h' := fun _ _ _ => rfl
  have r2 : iA1 (aCons (eCl (callF defs (q + 3)) 14 [] (aCons (eVar 0) (aCons (eK (.int 4)) aNil))) aNil) (ev M n k E P X6 X7 X8 X9 X10 X11 X12 (some (dn s)) (some MT) X15 X16 X17) (src :: t) = .ok ((List.range v).map dn) (src1 :: t) := by
    have e1' : callF defs (q + 3) 14 [.r 0, .d (.int 4)] (src :: t) = .ok (.d (dn v)) (src1 :: t) := e1
    have rg := rngR_nat (k := v) (h := src1 :: t) (by omega)
    rw [rng_d] at rg
    have rg' : rngR [.d (dn v)] (src1 :: t) = .ok ((List.range v).map dn) (src1 :: t) := rg
    have v0' : eVar 0 (ev M n k E P X6 X7 X8 X9 X10 X11 X12 (some (dn s)) (some MT) X15 X16 X17) (src :: t) = .ok (.r 0) (src :: t) := rfl
    clear v0
    generalize ev M n k E P X6 X7 X8 X9 X10 X11 X12 (some (dn s)) (some MT) X15 X16 X17 = σ at *
    simp [v0', e1', rg', -ap_var]
  have le2 := lc_endS src2 t (G.map dn)
  have lc2 : eLc false [11] (iA1 (aCons (eCl (callF defs (q + 3)) 14 [] (aCons (eVar 0) (aCons (eK (.int 4)) aNil))) aNil)) (gNm 11) tYs (eCl (callF defs (q + 3)) 14 [] (aCons (eVar 0) (aCons (eVar 4) aNil))) (ev M n k E P X6 X7 X8 X9 X10 X11 X12 (some (dn s)) (some MT) X15 X16 X17) (src :: t) = .ok (.d (gv false G)) (src2 :: t) := by
    rw [ap_lc, r2]
    simp only [rb_ok, List.length_cons, List.cons_append]
    rw [e2]
    exact le2
  refine ⟨some MT, some (gv false G), some (gv false G), some (ow (pth M P s G)), src2, s2.up (by omega), ?_⟩
  rw [ab__law_right_5]
  refine sq_go (σ1 := ev M n k E P X6 X7 X8 X9 X10 X11 X12 (some (dn s)) (some MT) X15 X16 X17) (h1 := src :: t) (as_nx lc1 rfl) ?_
  refine sq_go (σ1 := ev M n k E P X6 X7 X8 X9 X10 X11 X12 (some (dn s)) (some MT) X15 X16 X17) (h1 := src :: t) ?_ ?_
  · have v2 : eVar 2 (ev M n k E P X6 X7 X8 X9 X10 X11 X12 (some (dn s)) (some MT) X15 X16 X17) (src :: t) = .ok (.d (lot M n k E (tbD M n P))) (src :: t) := rfl
    have v13 : eVar 13 (ev M n k E P X6 X7 X8 X9 X10 X11 X12 (some (dn s)) (some MT) X15 X16 X17) (src :: t) = .ok (.d (dn s)) (src :: t) := rfl
    have v14 : eVar 14 (ev M n k E P X6 X7 X8 X9 X10 X11 X12 (some (dn s)) (some MT) X15 X16 X17) (src :: t) = .ok (.d MT) (src :: t) := rfl
    generalize ev M n k E P X6 X7 X8 X9 X10 X11 X12 (some (dn s)) (some MT) X15 X16 X17 = σ at *
    generalize lot M n k E (tbD M n P) = LT at *
    generalize D.tup ((met M P n s).map dn) = MD at *
    simp [v2, v13, v14, li, er, ntm, o1, -ap_var]
  refine sq_go (σ1 := ev M n k E P X6 X7 X8 X9 X10 X11 X12 (some (dn s)) (some MT) (some (gv false G)) X16 X17) (h1 := src2 :: t) (as_nx lc2 rfl) ?_
  have pG := path false G (src2 :: t)
  refine sq_go (σ1 := ev M n k E P X6 X7 X8 X9 X10 X11 X12 (some (dn s)) (some MT) (some (gv false G)) (some (gv false G)) (some (ow (pth M P s G)))) (h1 := src2 :: t) ?_ ?_
  · have nv : nListV [.d (gv false G)] (src2 :: t) = some (.d (gv false G), src2 :: t) := rfl
    unfold ev
    generalize lot M n k E (tbD M n P) = LT at *
    generalize P.map (enP M n) = PL at *
    generalize kvP M n P = kv at *
    generalize dM M = MM at *
    generalize ow (pth M P s G) = OW at *
    generalize gv false G = GV at *
    simp [sPar, od, nv, pG]
  have w2 : eVar 2 (ev M n k E P X6 X7 X8 X9 X10 X11 X12 (some (dn s)) (some MT) (some (gv false G)) (some (gv false G)) (some (ow (pth M P s G)))) (src2 :: t) = .ok (.d (lot M n k E (tbD M n P))) (src2 :: t) := rfl
  have w13 : eVar 13 (ev M n k E P X6 X7 X8 X9 X10 X11 X12 (some (dn s)) (some MT) (some (gv false G)) (some (gv false G)) (some (ow (pth M P s G)))) (src2 :: t) = .ok (.d (dn s)) (src2 :: t) := rfl
  have w15 : eVar 15 (ev M n k E P X6 X7 X8 X9 X10 X11 X12 (some (dn s)) (some MT) (some (gv false G)) (some (gv false G)) (some (ow (pth M P s G)))) (src2 :: t) = .ok (.d (gv false G)) (src2 :: t) := rfl
  have w16 : eVar 16 (ev M n k E P X6 X7 X8 X9 X10 X11 X12 (some (dn s)) (some MT) (some (gv false G)) (some (gv false G)) (some (ow (pth M P s G)))) (src2 :: t) = .ok (.d (gv false G)) (src2 :: t) := rfl
  have w17 : eVar 17 (ev M n k E P X6 X7 X8 X9 X10 X11 X12 (some (dn s)) (some MT) (some (gv false G)) (some (gv false G)) (some (ow (pth M P s G)))) (src2 :: t) = .ok (.d (ow (pth M P s G))) (src2 :: t) := rfl
  have x1 := e_path_text (q + 2) M hs E P (tb.three m) false G (src2 :: t) (k := k)
  have x2 := e_path_text (q + 2) M hs E P (tb.three m) true G (src2 :: t) (k := k)
  have o2 := o_neO (o := pth M P s G) (pth_three tb m hs G) (src2 :: t)
  have o3 : oNe (.d (gv false G)) (.d (gv false G)) (src2 :: t) = some (.d (.bl false), src2 :: t) := o_neR (n := 1) (a := .lv (G.map dn)) (sm_dns _) (by omega)
  have nt2 : nTuple [.d (gv false G)] (src2 :: t) = some (.d (gv true G), src2 :: t) := rfl
  have x1' : callF defs (q + 3) 7 [.d (lot M n k E (tbD M n P)), .d (dn s), .d (gv false G)] (src2 :: t) = .ok (.d (ow (pth M P s G))) (src2 :: t) := x1
  have x2' : callF defs (q + 3) 7 [.d (lot M n k E (tbD M n P)), .d (dn s), .d (gv true G)] (src2 :: t) = .ok (.d (ow (pth M P s G))) (src2 :: t) := x2
  -- the goals that are met
  have c3 := cmpL_on (vs := [20]) (g := gNm 20) (t := tBl (eBin (oInF false) (eVar 20) (eVar 14))) (f := eVar 20) (σ := ev M n k E P X6 X7 X8 X9 X10 X11 X12 (some (dn s)) (some MT) (some (gv false G)) (some (gv false G)) (some (ow (pth M P s G)))) (h := src2 :: t) dn (fun g => decide (g ∈ met M P n s)) dn G [] (lts (by simp; omega)) fun g _ h' =>
    ⟨(wipeL (ev M n k E P X6 X7 X8 X9 X10 X11 X12 (some (dn s)) (some MT) (some (gv false G)) (some (gv false G)) (some (ow (pth M P s G)))) [20]).set 20 (some (.d (dn g))), rfl, by
      have ig := in_gv false g (met M P n s) h'
      rw [hmet] at ig
      unfold ev
      generalize lot M n k E (tbD M n P) = LT at *
      generalize P.map (enP M n) = PL at *
      generalize kvP M n P = kv at *
      generalize dM M = MM at *
      generalize ow (pth M P s G) = OW at *
      generalize gv false G = GV at *
      simp [wipeL, od, ig], fun _ => rfl⟩
  rw [List.nil_append] at c3
  have le3 := lc_end (src2 :: t) ((G.filter fun g => decide (g ∈ met M P n s)).map dn)
  have lc3 : eLc false [20] (iSeq (eVar 15)) (gNm 20) (tBl (eBin (oInF false) (eVar 20) (eVar 14))) (eVar 20) (ev M n k E P X6 X7 X8 X9 X10 X11 X12 (some (dn s)) (some MT) (some (gv false G)) (some (gv false G)) (some (ow (pth M P s G)))) (src2 :: t) = .ok (.d (.lv ((G.filter fun g => decide (g ∈ met M P n s)).map dn))) (src2 :: t) := by
    have it : iSeq (eVar 15) (ev M n k E P X6 X7 X8 X9 X10 X11 X12 (some (dn s)) (some MT) (some (gv false G)) (some (gv false G)) (some (ow (pth M P s G)))) (src2 :: t) = .ok (G.map dn) (src2 :: t) := rfl
    rw [ap_lc, it]
    simp only [rb_ok]
    rw [c3]
    exact le3
  have oe := o_eqE (G.filter fun g => decide (g ∈ met M P n s)) (src2 :: t)
  rw [← none_iff tb m hs G] at oe
  have nn : isNon (.d (ow (pth M P s G))) = (pth M P s G).isNone := by cases pth M P s G <;> rfl
  have on : ∀ b : Bool, oNe (.d (.bl b)) (.d (.bl b)) (src2 :: t) = some (.d (.bl false), src2 :: t) := fun b => o_neR (n := 0) trivial (by omega)
  generalize ev M n k E P X6 X7 X8 X9 X10 X11 X12 (some (dn s)) (some MT) (some (gv false G)) (some (gv false G)) (some (ow (pth M P s G))) = σ at *
  generalize lot M n k E (tbD M n P) = LT at *
  generalize (pth M P s G).isNone = bb at *
  generalize ow (pth M P s G) = OW at *
  generalize ((G.filter fun g => decide (g ∈ met M P n s)).map dn) = FL at *
  generalize gv false G = GV at *
  generalize gv true G = GT at *
  refine sq_go (σ1 := σ) (h1 := src2 :: t) ?_ ?_
  · simp [w2, w13, w15, w16, w17, li, x1', x2', o2, o3, nt2, -ap_var]
  · simp [w17, lc3, oe, nn, on, -ap_var, -ap_lc]
end
end K12

namespace K12
open PySem PySem.Spec Mi
/-! ### repr of the table -/
theorem ints_ok : ∀ l : List Nat, (∀ i ∈ l, i < 1000) → PyData.leavesShortAll 13 (D.pds (l.map dn)) = true ∧ PyData.weightAll (D.pds (l.map dn)) ≤ 11 * l.length ∧ PyData.showableAll (D.pds (l.map dn)) = true
  | [], _ => by simp [D.pds, PyData.leavesShortAll, PyData.weightAll, PyData.showableAll]
  | i :: l, h => by
    obtain ⟨a, b, c⟩ := ints_ok l fun j hj => h j (List.mem_cons_of_mem _ hj)
    have hi := h i List.mem_cons_self
    have s := PyData.shown_int_le (i := (i : Int)) (by omega)
    have lg : (i : Int).natAbs.log2 < 10 := by
      by_cases z : (i : Int).natAbs = 0
      · rw [z]; decide
      · exact (Nat.log2_lt z).mpr (by omega)
    simp only [List.map_cons, D.pds, dn, D.pd, PyData.leavesShortAll, PyData.leavesShort, PyData.weightAll, PyData.weight, PyData.showableAll, PyData.showable, List.length_cons] at a b c ⊢
    refine ⟨by rw [a, decide_eq_true s]; rfl, ?_, by rw [c, decide_eq_true (by omega)]; rfl⟩
    split <;> omega
theorem str_short {w : Wd} (hw : ∀ a ∈ w, a < 3) : ((tx w).cps.toList.all fun c => decide (c < 16 ^ 8)) = true := by
  rw [List.all_eq_true]
  intro x hx
  have hx' : x ∈ w.map (· + 97) := by simpa [tx] using hx
  obtain ⟨a, ha, rfl⟩ := List.mem_map.mp hx'
  have := hw a ha
  exact decide_eq_true (Nat.lt_of_lt_of_le (show a + 97 < 1000 by omega) (by decide))
theorem rows_ok (M : List (List Nat)) {n : Nat} (hn : n ≤ 4) : ∀ P : List Wd, (∀ w ∈ P, w.length ≤ 100 ∧ (∀ a ∈ w, a < 3) ∧ ∀ x ∈ deed M n w, x < 1000) → PyData.leavesShortAll 13 (D.pds (P.map (enP M n))) = true ∧ PyData.weightAll (D.pds (P.map (enP M n))) ≤ 300 * P.length ∧ PyData.showableAll (D.pds (P.map (enP M n))) = true
  | [], _ => by simp [D.pds, PyData.leavesShortAll, PyData.weightAll, PyData.showableAll]
  | w :: P, h => by
    obtain ⟨a, b, c⟩ := rows_ok M hn P fun j hj => h j (List.mem_cons_of_mem _ hj)
    obtain ⟨h1, h2, h3⟩ := h w List.mem_cons_self
    obtain ⟨a1, b1, c1⟩ := ints_ok (deed M n w) h3
    rw [deed_len] at b1
    have st := str_short h2
    have sz : (tx w).cps.size = w.length := tx_len w
    simp only [List.map_cons, D.pds, List.length_cons]
    generalize D.pds (P.map (enP M n)) = Z at *
    have ep : (enP M n w).pd = .tuple [.tuple (D.pds ((deed M n w).map dn)), .str (tx w)] := rfl
    rw [ep]
    generalize D.pds ((deed M n w).map dn) = Y at *
    simp only [PyData.leavesShortAll, PyData.leavesShort, PyData.weightAll, PyData.weight, PyData.showableAll, PyData.showable]
    exact ⟨by rw [a1, a, st]; rfl, by omega, by rw [c1, c]; rfl⟩
theorem rpr_tb {M : List (List Nat)} {n k : Nat} (m : Mv M n k) {P : List Wd} (tb : Tb M n k P) (h : Hs) : nRepr [.d (tbD M n P)] h = some (.d (.str (tbD M n P).pd.shown), h) := by
  have n4 := m.n4
  obtain ⟨h1, h2, h3⟩ := rows_ok M n4 P fun w hw => by
    obtain ⟨a, b, c⟩ := tb.nn w hw
    exact ⟨by omega, (tb.three m w hw).2, fun x hx => by have := m.deed_lt b x hx; omega⟩
  have sm := (sm_tbD M n fun w hw => (tb.three m w hw).2 : Sm 3 (tbD M n P))
  have e : (2 : Nat) ^ 20 = 1048576 := by decide
  have ln := tb.ln
  have ok : rprOk (tbD M n P) = true := by
    unfold rprOk
    rw [sm.shp (by omega)]
    have ep : (tbD M n P).pd = .tuple (D.pds (P.map (enP M n))) := rfl
    rw [ep]
    have f := PyData.shown_fits (B := 13) (by omega) (by omega) (d := .tuple (D.pds (P.map (enP M n)))) (by simpa only [PyData.leavesShort] using h1) (by simp only [PyData.weight]; omega)
    simp only [PyData.showable, h3, Nat.ble_eq_true_of_le f, Bool.and_self]
  show (if flD (tbD M n P) = false ∧ rprOk (tbD M n P) = true then some (Vl.d (.str (tbD M n P).pd.shown), h) else none) = _
  rw [if_pos ⟨rfl, ok⟩]
theorem sm_let {k : Nat} (k3 : k ≤ 3) : Sm 1 (.tup ((List.range k).map fun a => D.str (tx [a]))) := fun x hx => by
  obtain ⟨a, ha, rfl⟩ := List.mem_map.mp hx
  have := List.mem_range.mp ha
  exact str_tx fun b hb => by have := List.mem_singleton.mp hb; omega
section
variable (q : Nat) {M : List (List Nat)} {n k : Nat} (m : Mv M n k) {P : List Wd} (tb : Tb M n k P) (E : D) (t : Hs)
include m tb
theorem l_3 (X8 X9 X10 X12 X13 X14 X15 X16 X17 : Option D) : ∀ (ps : List Nat) (c : Nat) (src : O) (X6 X7 X11 : Option D), Src c src → c + 35 * ps.length ≤ 700000 →
    ∃ Y6 Y7 Y11, ∃ src', Src (c + 35 * ps.length) src' ∧ forL (gNm 11) (b__law_right_3 (callF defs (q + 3))) (ps.map dn) (ev M n k E P X6 X7 X8 X9 X10 X11 X12 X13 X14 X15 X16 X17) (src :: t) = .ok .nx (ev M n k E P Y6 Y7 X8 X9 X10 Y11 X12 X13 X14 X15 X16 X17) (src' :: t)
  | [], c, src, X6, X7, X11, hs, _ => ⟨X6, X7, X11, src, hs, by simp [forL]⟩
  | j :: ps, c, src, X6, X7, X11, hs, hc => by
    rw [List.length_cons] at hc
    obtain ⟨Y6, Y7, src1, s1, b⟩ := r_3 q m tb E t c (by omega) hs j X6 X7 X8 X9 X10 X12 X13 X14 X15 X16 X17
    obtain ⟨Z6, Z7, Z11, src2, s2, r⟩ := l_3 X8 X9 X10 X12 X13 X14 X15 X16 X17 ps (c + 35) src1 Y6 Y7 (some (dn j)) s1 (by omega)
    refine ⟨Z6, Z7, Z11, src2, s2.up (by rw [List.length_cons]; omega), ?_⟩
    rw [← r, List.map_cons, forL]
    have g : gNm 11 (.d (dn j)) (ev M n k E P X6 X7 X8 X9 X10 X11 X12 X13 X14 X15 X16 X17) (src :: t) = some (ev M n k E P X6 X7 X8 X9 X10 (some (dn j)) X12 X13 X14 X15 X16 X17, src :: t) := rfl
    rw [g]
    dsimp only
    rw [b]
    dsimp only
    have cl : clr (src :: t).length (ev M n k E P Y6 Y7 X8 X9 X10 (some (dn j)) X12 X13 X14 X15 X16 X17) = ev M n k E P Y6 Y7 X8 X9 X10 (some (dn j)) X12 X13 X14 X15 X16 X17 := by
      unfold ev
      simp
    rw [cl, List.take_of_length_le (by simp)]
theorem l_4 (src : O) (X6 X7 X8 X9 X10 X11 X13 X14 X15 X16 X17 : Option D) : ∀ (ps : List Nat) (X12 : Option D), (∀ a ∈ ps, a < k) →
    ∃ Y12, forL (gNm 12) (b__law_right_4 (callF defs (q + 3))) (ps.map dn) (ev M n k E P X6 X7 X8 X9 X10 X11 X12 X13 X14 X15 X16 X17) (src :: t) = .ok .nx (ev M n k E P X6 X7 X8 X9 X10 X11 Y12 X13 X14 X15 X16 X17) (src :: t)
  | [], X12, _ => ⟨X12, by simp [forL]⟩
  | j :: ps, X12, hp => by
    have b := r_4 q m tb E t src (hp j List.mem_cons_self) X6 X7 X8 X9 X10 X11 X13 X14 X15 X16 X17
    obtain ⟨Y12, r⟩ := l_4 src X6 X7 X8 X9 X10 X11 X13 X14 X15 X16 X17 ps (some (dn j)) fun x hx => hp x (List.mem_cons_of_mem _ hx)
    refine ⟨Y12, ?_⟩
    rw [← r, List.map_cons, forL]
    have g : gNm 12 (.d (dn j)) (ev M n k E P X6 X7 X8 X9 X10 X11 X12 X13 X14 X15 X16 X17) (src :: t) = some (ev M n k E P X6 X7 X8 X9 X10 X11 (some (dn j)) X13 X14 X15 X16 X17, src :: t) := rfl
    rw [g]
    dsimp only
    rw [b]
    dsimp only
    have cl : clr (src :: t).length (ev M n k E P X6 X7 X8 X9 X10 X11 (some (dn j)) X13 X14 X15 X16 X17) = ev M n k E P X6 X7 X8 X9 X10 X11 (some (dn j)) X13 X14 X15 X16 X17 := by
      unfold ev
      simp
    rw [cl, List.take_length]
theorem l_5 (X6 X7 X8 X9 X10 X11 X12 : Option D) : ∀ (ps : List Nat) (c : Nat) (src : O) (X13 X14 X15 X16 X17 : Option D), (∀ s ∈ ps, s < n) → Src c src → c + 4 * ps.length ≤ 700000 →
    ∃ Y13 Y14 Y15 Y16 Y17, ∃ src', Src (c + 4 * ps.length) src' ∧ forL (gNm 13) (b__law_right_5 (callF defs (q + 3))) (ps.map dn) (ev M n k E P X6 X7 X8 X9 X10 X11 X12 X13 X14 X15 X16 X17) (src :: t) = .ok .nx (ev M n k E P X6 X7 X8 X9 X10 X11 X12 Y13 Y14 Y15 Y16 Y17) (src' :: t)
  | [], c, src, X13, X14, X15, X16, X17, _, hs, _ => ⟨X13, X14, X15, X16, X17, src, hs, by simp [forL]⟩
  | j :: ps, c, src, X13, X14, X15, X16, X17, hp, hs, hc => by
    rw [List.length_cons] at hc
    obtain ⟨Y14, Y15, Y16, Y17, src1, s1, b⟩ := r_5 q m tb E t c (by omega) hs (hp j List.mem_cons_self) X6 X7 X8 X9 X10 X11 X12 X14 X15 X16 X17
    obtain ⟨Z13, Z14, Z15, Z16, Z17, src2, s2, r⟩ := l_5 X6 X7 X8 X9 X10 X11 X12 ps (c + 4) src1 (some (dn j)) Y14 Y15 Y16 Y17 (fun x hx => hp x (List.mem_cons_of_mem _ hx)) s1 (by omega)
    refine ⟨Z13, Z14, Z15, Z16, Z17, src2, s2.up (by rw [List.length_cons]; omega), ?_⟩
    rw [← r, List.map_cons, forL]
    have g : gNm 13 (.d (dn j)) (ev M n k E P X6 X7 X8 X9 X10 X11 X12 X13 X14 X15 X16 X17) (src :: t) = some (ev M n k E P X6 X7 X8 X9 X10 X11 X12 (some (dn j)) X14 X15 X16 X17, src :: t) := rfl
    rw [g]
    dsimp only
    rw [b]
    dsimp only
    have cl : clr (src :: t).length (ev M n k E P X6 X7 X8 X9 X10 X11 X12 (some (dn j)) Y14 Y15 Y16 Y17) = ev M n k E P X6 X7 X8 X9 X10 X11 X12 (some (dn j)) Y14 Y15 Y16 Y17 := by
      unfold ev
      simp
    rw [cl, List.take_of_length_le (by simp)]
theorem e_right (TL : List D) (hT : ∀ h, callF defs (q + 3) 21 [.d (dM M)] h = .ok (.d (.lv TL)) h) (so : sortOk TL = true) (sd : sortD TL = P.map (enP M n)) (c : Nat) (hc : c ≤ 600000) {src : O} (hs : Src c src) :
    ∃ src', Src (c + 200) src' ∧ callF defs (q + 4) 26 [.r 0, .d (dM M), .d (lot M n k E (tbD M n P))] (src :: t) = .ok (.d (.bl true)) (src' :: t) := by
  have n4 := m.n4
  have k3 := m.k3
  have ec := callF_at (defs := defs) (n := q + 3) (i := 26) (md := ⟨3, 21, false, m__law_right⟩) (xs := [.r 0, .d (dM M), .d (lot M n k E (tbD M n P))]) (h := src :: t) rfl rfl
  obtain ⟨Y6, Y7, Y8, Y9, Y10, f2⟩ := l_2 q m tb E src t none none none none none none none P none none none none none fun u hu => hu
  obtain ⟨Z6, Z7, Z11, src1, s1, f3⟩ := l_3 q m tb E t Y8 Y9 Y10 none none none none none none (List.range 5) c src Y6 Y7 none hs (by rw [List.length_range]; omega)
  obtain ⟨Z12, f4⟩ := l_4 q m tb E t src1 Z6 Z7 Y8 Y9 Y10 Z11 none none none none none (List.range k) none fun a ha => List.mem_range.mp ha
  obtain ⟨Z13, Z14, Z15, Z16, Z17, src2, s2, f5⟩ := l_5 q m tb E t Z6 Z7 Y8 Y9 Y10 Z11 Z12 (List.range n) (c + 35 * (List.range 5).length) src1 none none none none none (fun a ha => List.mem_range.mp ha) s1 (by rw [List.length_range, List.length_range]; omega)
  refine ⟨src2, s2.up (by rw [List.length_range, List.length_range]; omega), ?_⟩
  have hk : ∀ w ∈ P, ∀ a ∈ w, a < 3 := fun w hw => (tb.three m w hw).2
  have ns := n_sortL (h := src :: t) so
  rw [sd] at ns
  have ln : ∀ h', nLen [.d (dM M)] h' = some (.d (dn n), h') := fun h' => by simp [dM, dn, m.len]
  have li : ∀ h', insOf (.d (lot M n k E (tbD M n P))) h' = some (3, [(0, wat M k E), (1, tbD M n P), (2, dn n), (3, .tup ((List.range k).map fun a => D.str (tx [a])))]) := fun h' => lot_ins M n k E (tbD M n P) h'
  have rp := rpr_tb m tb (src :: t)
  have lt : lookT (.b "tuple") (isiL ["tuple"]) = some true := by decide
  have o1 : oNe (.d (dn n)) (.d (dn n)) (src :: t) = some (.d (.bl false), src :: t) := o_neR (n := 0) trivial (by omega)
  have o2 : oNe (.d (.tup ((List.range k).map fun a => D.str (tx [a])))) (.d (.tup ((List.range k).map fun a => D.str (tx [a])))) (src :: t) = some (.d (.bl false), src :: t) := o_neR (sm_let k3) (by omega)
  have nd : nDictP [.d (.lv (P.map (enP M n)))] (src :: t) = some (.d (.dt (kvP M n P)), src :: t) := by
    rw [n_dictP, pairs_P]
    dsimp only
    rw [if_pos (nd_P tb)]
  have ed := e_text_deed (q + 1) m E (tbD M n P) (src2 :: t) (w := []) (fun a ha => nomatch ha)
  rw [tx_nil] at ed
  have e00 : deed M n [] = List.range n := by
    unfold deed
    exact List.map_id _
  rw [e00] at ed
  have oe := o_eqD (List.range n) (List.range n) (src2 :: t)
  rw [decide_eq_true rfl] at oe
  have tr : trR (.d (dn n)) (src2 :: t) = .ok (.d (dT (List.range n))) (src2 :: t) := by
    have := trR_nat (k := n) (h := src2 :: t) (by omega)
    rw [rng_d] at this
    exact this
  have tS : nTupS [.d (.str (tx (List.range k)))] (src :: t) = some (.d (.tup ((List.range k).map fun a => D.str (tx [a]))), src :: t) := by
    rw [n_tupS, strD_tx]
    have e : (tx (List.range k)).cps.size = k := by simp [tx]
    rw [e, if_pos (Nat.ble_eq_true_of_le (Nat.le_of_lt (lts (by omega))))]
  have b : m__law_right (callF defs (q + 3)) [some (.r 0), some (.d (dM M)), some (.d (lot M n k E (tbD M n P))), none, none, none, none, none, none, none, none, none, none, none, none, none, none, none, none, none, none] (src :: t) = .ok (.ret (.d (.bl true))) (ev M n k E P Z6 Z7 Y8 Y9 Y10 Z11 Z12 Z13 Z14 Z15 Z16 Z17) (src2 :: t) := by
    rw [am__law_right]
    refine sq_go (σ1 := [some (.r 0), some (.d (dM M)), some (.d (lot M n k E (tbD M n P))), some (.d (.lv (P.map (enP M n)))), none, none, none, none, none, none, none, none, none, none, none, none, none, none, none, none, none]) (h1 := src :: t) ?_ ?_
    · generalize lot M n k E (tbD M n P) = LT at *
      generalize P.map (enP M n) = PL at *
      generalize dM M = MM at *
      simp [hT, ns]
    refine sq_go (σ1 := [some (.r 0), some (.d (dM M)), some (.d (lot M n k E (tbD M n P))), some (.d (.lv (P.map (enP M n)))), some (.d (dn n)), none, none, none, none, none, none, none, none, none, none, none, none, none, none, none, none]) (h1 := src :: t) ?_ ?_
    · generalize lot M n k E (tbD M n P) = LT at *
      generalize P.map (enP M n) = PL at *
      generalize dM M = MM at *
      simp [ln]
    refine sq_go (σ1 := [some (.r 0), some (.d (dM M)), some (.d (lot M n k E (tbD M n P))), some (.d (.lv (P.map (enP M n)))), some (.d (dn n)), none, none, none, none, none, none, none, none, none, none, none, none, none, none, none, none]) (h1 := src :: t) ?_ ?_
    · have ty : ∀ h', tyD (.d (tbD M n P)) h' = some (.b "tuple") := fun _ => rfl
      have nt : nTuple [.d (.lv (P.map (enP M n)))] (src :: t) = some (.d (tbD M n P), src :: t) := rfl
      have ft : ∀ σ : Lo, σ[2]? = some (some (.d (lot M n k E (tbD M n P)))) → eFd ok_table 1 (eVar 2) σ (src :: t) = .ok (.d (tbD M n P)) (src :: t) := fun σ hσ => by
        have v : eVar 2 σ (src :: t) = .ok (.d (lot M n k E (tbD M n P))) (src :: t) := by rw [ap_var, hσ]
        rw [ap_fd, v]
        simp only [rb_ok, li]
        rfl
      have ft' := ft [some (.r 0), some (.d (dM M)), some (.d (lot M n k E (tbD M n P))), some (.d (.lv (P.map (enP M n)))), some (.d (dn n)), none, none, none, none, none, none, none, none, none, none, none, none, none, none, none, none] rfl
      clear ft
      have rp2 : nRepr [.d (.tup (P.map (enP M n)))] (src :: t) = some (.d (.str (tbD M n P).pd.shown), src :: t) := rp
      generalize lot M n k E (tbD M n P) = LT at *
      generalize P.map (enP M n) = PL at *
      generalize dM M = MM at *
      generalize tbD M n P = TB at *
      generalize TB.pd.shown = SH at *
      simp [ft', ty, lookT, rp, rp2, nt, -ap_fd]
    refine sq_go (σ1 := [some (.r 0), some (.d (dM M)), some (.d (lot M n k E (tbD M n P))), some (.d (.lv (P.map (enP M n)))), some (.d (dn n)), none, none, none, none, none, none, none, none, none, none, none, none, none, none, none, none]) (h1 := src :: t) ?_ ?_
    · have ab := abc_k m [some (.r 0), some (.d (dM M)), some (.d (lot M n k E (tbD M n P))), some (.d (.lv (P.map (enP M n)))), some (.d (dn n)), none, none, none, none, none, none, none, none, none, none, none, none, none, none, none, none] (src :: t) rfl
      have li' := li (src :: t)
      clear li
      generalize lot M n k E (tbD M n P) = LT at *
      generalize P.map (enP M n) = PL at *
      generalize dM M = MM at *
      generalize D.tup ((List.range k).map fun a => D.str (tx [a])) = AA at *
      generalize D.str (tx (List.range k)) = TK at *
      generalize wat M k E = WW at *
      generalize dn n = NN at *
      simp [li', ab, tS, o1, o2, ok_states, ok_letters, List.lookup, -ap_sl]
    refine sq_go (σ1 := ev M n k E P none none none none none none none none none none none none) (h1 := src :: t) ?_ ?_
    · unfold ev
      generalize lot M n k E (tbD M n P) = LT at *
      generalize P.map (enP M n) = PL at *
      generalize kvP M n P = kv at *
      generalize dM M = MM at *
      simp [nd, od]
    refine sq_go (σ1 := ev M n k E P Y6 Y7 Y8 Y9 Y10 none none none none none none none) (h1 := src :: t) ?_ ?_
    · have it : iSeq (eVar 3) (ev M n k E P none none none none none none none none none none none none) (src :: t) = .ok (P.map (enP M n)) (src :: t) := rfl
      rw [ap_for, it, sb_ok]
      exact f2
    refine sq_go (σ1 := ev M n k E P Z6 Z7 Y8 Y9 Y10 Z11 none none none none none none) (h1 := src1 :: t) ?_ ?_
    · have it : iA1 (aCons (eK (.int 5)) aNil) (ev M n k E P Y6 Y7 Y8 Y9 Y10 none none none none none none none) (src :: t) = .ok ((List.range 5).map dn) (src :: t) := ia1 (b := 5) rfl (by omega)
      rw [ap_for, it, sb_ok]
      exact f3
    refine sq_go (σ1 := ev M n k E P Z6 Z7 Y8 Y9 Y10 Z11 Z12 none none none none none) (h1 := src1 :: t) ?_ ?_
    · have it : iA1 (aCons (eN nLen (aCons (eBin oIx (eVar 1) (eK (.int 0))) aNil)) aNil) (ev M n k E P Z6 Z7 Y8 Y9 Y10 Z11 none none none none none none) (src1 :: t) = .ok ((List.range k).map dn) (src1 :: t) := ia1 (len0 m _ _ rfl) (by omega)
      rw [ap_for, it, sb_ok]
      exact f4
    refine sq_go (σ1 := ev M n k E P Z6 Z7 Y8 Y9 Y10 Z11 Z12 Z13 Z14 Z15 Z16 Z17) (h1 := src2 :: t) ?_ ?_
    · have it : iA1 (aCons (eVar 4) aNil) (ev M n k E P Z6 Z7 Y8 Y9 Y10 Z11 Z12 none none none none none) (src1 :: t) = .ok ((List.range n).map dn) (src1 :: t) := ia1 rfl (by omega)
      rw [ap_for, it, sb_ok]
      exact f5
    · have v2 : eVar 2 (ev M n k E P Z6 Z7 Y8 Y9 Y10 Z11 Z12 Z13 Z14 Z15 Z16 Z17) (src2 :: t) = .ok (.d (lot M n k E (tbD M n P))) (src2 :: t) := rfl
      have v4 : eVar 4 (ev M n k E P Z6 Z7 Y8 Y9 Y10 Z11 Z12 Z13 Z14 Z15 Z16 Z17) (src2 :: t) = .ok (.d (dn n)) (src2 :: t) := rfl
      generalize ev M n k E P Z6 Z7 Y8 Y9 Y10 Z11 Z12 Z13 Z14 Z15 Z16 Z17 = σ at *
      generalize lot M n k E (tbD M n P) = LT at *
      generalize dT (List.range n) = RR at *
      simp [v2, v4, li, ed, tr, oe, -ap_var]
  rw [ec]
  show fin false (src :: t).length (m__law_right (callF defs (q + 3)) [some (.r 0), some (.d (dM M)), some (.d (lot M n k E (tbD M n P))), none, none, none, none, none, none, none, none, none, none, none, none, none, none, none, none, none, none] (src :: t)) = _
  rw [b, fin_ret]
  simp
end
end K12

namespace K12
open PySem PySem.Spec Mi
/-- what is held of a lot -/
def Hd (d : D) : Prop := ∃ M n k P E TL, d = .tup [dM M, lot M n k E (tbD M n P)] ∧ Mv M n k ∧ Tb M n k P ∧ (∀ j h, callF defs (j + 1) 21 [.d (dM M)] h = .ok (.d (.lv TL)) h) ∧ sortOk TL = true ∧ sortD TL = P.map (enP M n)
abbrev lo (A0 A3 : D) (X4 X5 X6 X7 X8 X9 : Option D) : Lo := [some (.d A0), some (.r 0), some (.r 1), some (.d A3), od X4, od X5, od X6, od X7, od X8, od X9, none]
theorem w_len {M : List (List Nat)} {n k J : Nat} (m : Mv M n k) (h1 : ∀ i, i < J → i < (W (M1 M n k) i).length ∧ (W (M1 M n k) i).length ≤ 61) : (W (M1 M n k) J).length ≤ 64 := by
  cases J with
  | zero => simp [W]
  | succ J =>
    have a := (W_len (M1 M n k) J).2
    have b := (h1 J (by omega)).2
    have c : (M1 M n k).k = k := rfl
    have := m.k3
    omega
theorem tb_ne {M : List (List Nat)} {n k : Nat} {P : List Wd} (m : Mv M n k) (tb : Tb M n k P) : P ≠ [] := by
  obtain ⟨w, hw, _⟩ := tb.cl [0] (by simp) (fun a ha => by have := List.mem_singleton.mp ha; subst this; exact m.k0)
  intro e
  rw [e] at hw
  cases hw
theorem ad1 {a : Nat} (h : Hs) : oAdd (.d (.int 1)) (.d (dn a)) h = some (.d (dn (a + 1)), h) := by
  show some (Vl.d (.int (1 + (a : Int))), h) = some (Vl.d (.int ((a + 1 : Nat) : Int)), h)
  have : 1 + (a : Int) = ((a + 1 : Nat) : Int) := by omega
  rw [this]
/-- the ends -/
theorem k_ends (q : Nat) {n : Nat} (n4 : n ≤ 4) (c : Nat) (hc : c ≤ 700000) {src : O} (hs : Src c src) (L : List D) (A0 A3 X5 X6 : D) (X7 X8 X9 : Option D) :
    ∃ (E : D) (src' : O), Sm 2 E ∧ Src (c + 10) src' ∧ eN nTuple (aCons (eLc false [10] (iA1 (aCons (eCl (callF defs (q + 6)) 14 [] (aCons (eVar 1) (aCons (eK (.int 3)) aNil))) aNil)) (gNm 10) tYs (eCl (callF defs (q + 6)) 23 [] (aCons (eVar 1) (aCons (eVar 4) aNil)))) aNil) (lo A0 A3 (some (dn n)) (some X5) (some X6) X7 X8 X9) [src, .lst L] = .ok (.d E) [src', .lst L] := by
  obtain ⟨v, hv, src1, s1, e1⟩ := k_take (q + 5) c (by omega) hs 3 (by omega) (big (by omega)) [.lst L]
  obtain ⟨ys, src2, y1, y2, s2, e2⟩ := cmpL_draw (vs := [10]) (g := gNm 10) (f := eCl (callF defs (q + 6)) 23 [] (aCons (eVar 1) (aCons (eVar 4) aNil))) (σ := lo A0 A3 (some (dn n)) (some X5) (some X6) X7 X8 X9) 4 840000 (fun y => ∃ G, y = D.tup G ∧ ∀ x ∈ G, Sm 0 x) [.lst L] ((List.range v).map dn) (c + 1) src1 [] (fun d hd c src h' hc hs => by
    obtain ⟨G, src', hG, s', e⟩ := k_goals (q + 3) n4 c (by omega) hs h'
    exact ⟨[some (.d A0), some (.r 0), some (.r 1), some (.d A3), some (.d (dn n)), some (.d X5), some (.d X6), od X7, od X8, od X9, some (.d d)], .tup G, src', fun h => rfl, ⟨G, rfl, hG⟩, s', by simp [e]⟩) s1 (by rw [List.length_map, List.length_range]; omega) (lts (by rw [List.length_map, List.length_range]; simp; omega))
  rw [List.length_map, List.length_range] at s2
  refine ⟨.tup ys, src2, fun x hx => ?_, s2.up (by omega), ?_⟩
  · obtain ⟨G, rfl, hG⟩ := y2 x hx
    exact hG
  have r1 : iA1 (aCons (eCl (callF defs (q + 6)) 14 [] (aCons (eVar 1) (aCons (eK (.int 3)) aNil))) aNil) (lo A0 A3 (some (dn n)) (some X5) (some X6) X7 X8 X9) [src, .lst L] = .ok ((List.range v).map dn) [src1, .lst L] := by
    have e1' : callF defs (q + 6) 14 [.r 0, .d (.int 3)] [src, .lst L] = .ok (.d (dn v)) [src1, .lst L] := e1
    have rg := rngR_nat (k := v) (h := [src1, .lst L]) (by omega)
    rw [rng_d] at rg
    have rg' : rngR [.d (dn v)] [src1, .lst L] = .ok ((List.range v).map dn) [src1, .lst L] := rg
    simp [e1', rg']
  have le := lc_endS src2 [.lst L] ys
  have b : eLc false [10] (iA1 (aCons (eCl (callF defs (q + 6)) 14 [] (aCons (eVar 1) (aCons (eK (.int 3)) aNil))) aNil)) (gNm 10) tYs (eCl (callF defs (q + 6)) 23 [] (aCons (eVar 1) (aCons (eVar 4) aNil))) (lo A0 A3 (some (dn n)) (some X5) (some X6) X7 X8 X9) [src, .lst L] = .ok (.d (.lv ys)) [src2, .lst L] := by
    rw [ap_lc, r1]
    simp only [rb_ok]
    rw [List.nil_append] at e2
    have e2' : cmpL [10] (gNm 10) tYs (eCl (callF defs (q + 6)) 23 [] (aCons (eVar 1) (aCons (eVar 4) aNil))) [src1, O.lst L].length ((List.range v).map dn) (lo A0 A3 (some (dn n)) (some X5) (some X6) X7 X8 X9) ([src1, .lst L] ++ [.lst []]) = some (src2 :: ([.lst L] ++ [.lst ys])) := e2
    rw [e2']
    exact le
  have nt : nTuple [.d (.lv ys)] [src2, .lst L] = some (.d (.tup ys), [src2, .lst L]) := rfl
  generalize lo A0 A3 (some (dn n)) (some X5) (some X6) X7 X8 X9 = σ at *
  simp [b, nt, -ap_lc]
theorem r_law1 (q c : Nat) (hc : c ≤ 600000) {src : O} (hs : Src c src) (L : List D) (hL : L.length ≤ 10) (pL : ∀ d ∈ L, Hd d) (A0 A3 : D) (X4 X5 X6 X7 X8 X9 : Option D) :
    ∃ src' L' Y4 Y5 Y6 Y7 Y8 Y9, Src (c + 40) src' ∧ L'.length ≤ L.length + 1 ∧ (∀ d ∈ L', Hd d) ∧
      b_law_1 (callF defs (q + 6)) (lo A0 A3 X4 X5 X6 X7 X8 X9) [src, .lst L] = .ok .nx (lo A0 A3 Y4 Y5 Y6 Y7 Y8 Y9) [src', .lst L'] := by
  obtain ⟨a, ha, src1, s1, e1⟩ := k_take (q + 5) c (by omega) hs 4 (by omega) (big (by omega)) [.lst L]
  obtain ⟨b, hb, src2, s2, e2⟩ := k_take (q + 5) (c + 1) (by omega) s1 3 (by omega) (big (by omega)) [.lst L]
  obtain ⟨M, m, src3, s3, e3⟩ := k_moves (q + 4) (n := a + 1) (k := b + 1) (by omega) (by omega) (by omega) (by omega) (c + 1 + 1) (by omega) s2 [.lst L]
  obtain ⟨E, src4, hE, s4, e4⟩ := k_ends q (n := a + 1) (by omega) (c + 1 + 1 + 12) (by omega) s3 L A0 A3 (dn (b + 1)) (dM M) X7 X8 X9
  have e1' : callF defs (q + 6) 14 [.r 0, .d (.int 4)] [src, .lst L] = .ok (.d (dn a)) [src1, .lst L] := e1
  have e2' : callF defs (q + 6) 14 [.r 0, .d (.int 3)] [src1, .lst L] = .ok (.d (dn b)) [src2, .lst L] := e2
  have e3' : callF defs (q + 6) 22 [.r 0, .d (dn (a + 1)), .d (dn (b + 1))] [src2, .lst L] = .ok (.d (dM M)) [src3, .lst L] := e3
  have ew := fun h => mk_watcher (q + 5) m E h
  obtain ⟨J, hJ, j1, j2⟩ := stops (M1 M (a + 1) (b + 1)) 61
  have et := fun j h => e_table j m hJ j1 j2 h
  have wl := w_len m j1
  have so := sort_en (a + 1) ((W (M1 M (a + 1) (b + 1)) J).drop 1) (by rw [List.length_drop]; omega) fun e he x hx => by
    have := (ent m (List.mem_of_mem_drop he)).2.2.2.1 x hx
    omega
  have em : ((W (M1 M (a + 1) (b + 1)) J).drop 1).map (en1 (a + 1)) = ((W (M1 M (a + 1) (b + 1)) J).map (en1 (a + 1))).drop 1 := List.map_drop
  rw [em] at so
  have tl : (((W (M1 M (a + 1) (b + 1)) J).map (en1 (a + 1))).drop 1).length = (W (M1 M (a + 1) (b + 1)) J).length - 1 := by
    rw [List.length_drop, List.length_map]
  have run : ∀ (LOT : D) (hl : callF defs (q + 6) 24 [.d (wat M (b + 1) E)] [src4, .lst L] = .ok (.d LOT) [src4, .lst L]) (L' : List D),
      (sSq (sIf (tBl (eBin oNe (eBin oIsN (eVar 9) (eK .non)) (eBin oGt (eN nLen (aCons (eCl (callF defs (q + 6)) 21 [] (aCons (eVar 6) aNil)) aNil)) (eK (.int 60))))) (sRt (eK (.bl false))) sNil)
      (sIf (tBl (eBin oNotN (eVar 9) (eK .non)))
      (sSq (sEx (eLm lmAppend (eVar 2) (aCons (eTup (aCons (eVar 6) (aCons (eVar 9) aNil))) aNil)))
      (sSq (sIf (tNo (tAn (tBl (eBin (oEqO false eqTab (callF defs (q + 6))) (eFd (ok_watcher) 0 (eVar 9)) (eVar 8))) (tBl (eBin (oEqO false eqTab (callF defs (q + 6))) (eVar 9) (eCl (callF defs (q + 6)) 9 [] (aCons (eMk (callF defs (q + 6)) 10 4 [] (aCons (eVar 5) (aCons (eVar 6) (aCons (eVar 7) aNil)))) aNil))))))
      (sRt (eK (.bl false)))
      sNil)
      (sIf (tOr' (tNo (tBl (eBin (oEqO false eqTab (callF defs (q + 6))) (eVar 9) (eMk (callF defs (q + 6)) 1 3 [] (aCons (eVar 8) (aCons (eN nTuple (aCons (eN nSorted (aCons (eCl (callF defs (q + 6)) 21 [] (aCons (eVar 6) aNil)) aNil)) aNil)) aNil)))))) (tBl (eBin (oEqO false eqTab (callF defs (q + 6))) (eVar 9) (eMk (callF defs (q + 6)) 1 3 [] (aCons (eVar 8) (aCons (eSl (eFd (ok_table) 1 (eVar 9)) (oSome (eK (.int 1))) oNone) aNil))))))
      (sRt (eK (.bl false)))
      sNil)))
      sNil)) (lo A0 A3 (some (dn (a + 1))) (some (dn (b + 1))) (some (dM M)) (some E) (some (wat M (b + 1) E)) (some LOT)) [src4, .lst L] = .ok .nx (lo A0 A3 (some (dn (a + 1))) (some (dn (b + 1))) (some (dM M)) (some E) (some (wat M (b + 1) E)) (some LOT)) [src4, .lst L'] →
      b_law_1 (callF defs (q + 6)) (lo A0 A3 X4 X5 X6 X7 X8 X9) [src, .lst L] = .ok .nx (lo A0 A3 (some (dn (a + 1))) (some (dn (b + 1))) (some (dM M)) (some E) (some (wat M (b + 1) E)) (some LOT)) [src4, .lst L'] := by
    intro LOT hl L' hr
    rw [ab_law_1]
    refine sq_go (σ1 := lo A0 A3 (some (dn (a + 1))) (some (dn (b + 1))) X6 X7 X8 X9) (h1 := [src2, .lst L]) ?_ ?_
    · simp [e1', e2', ad1, od]
    refine sq_go (σ1 := lo A0 A3 (some (dn (a + 1))) (some (dn (b + 1))) (some (dM M)) X7 X8 X9) (h1 := [src3, .lst L]) ?_ ?_
    · generalize dM M = MM at *
      simp [e3', od]
    refine sq_go (σ1 := lo A0 A3 (some (dn (a + 1))) (some (dn (b + 1))) (some (dM M)) (some E) X8 X9) (h1 := [src4, .lst L]) (as_nx e4 rfl) ?_
    refine sq_go (σ1 := lo A0 A3 (some (dn (a + 1))) (some (dn (b + 1))) (some (dM M)) (some E) (some (wat M (b + 1) E)) X9) (h1 := [src4, .lst L]) ?_ ?_
    · have ew' := ew [src4, .lst L]
      generalize wat M (b + 1) E = WW at *
      generalize dM M = MM at *
      simp [ew', od]
    refine sq_go (σ1 := lo A0 A3 (some (dn (a + 1))) (some (dn (b + 1))) (some (dM M)) (some E) (some (wat M (b + 1) E)) (some LOT)) (h1 := [src4, .lst L]) ?_ hr
    generalize wat M (b + 1) E = WW at *
    generalize dM M = MM at *
    simp [hl, od]
  have et4 := et (q + 5) [src4, .lst L]
  have nl : ∀ (TL : List D) (h : Hs), nLen [.d (.lv TL)] h = some (.d (dn TL.length), h) := fun _ _ => rfl
  rcases e_lot (q + 2) m E hJ j1 j2 [src4, .lst L] with ⟨cl, el⟩ | ⟨op, el⟩
  · obtain ⟨P, tb, sd, pl⟩ := tb_of m cl hJ
    rw [sd] at el
    have el' : callF defs (q + 6) 24 [.d (wat M (b + 1) E)] [src4, .lst L] = .ok (.d (lot M (a + 1) (b + 1) E (tbD M (a + 1) P))) [src4, .lst L] := el
    have ed : ∀ h, callF defs (q + 6) 9 [.d (wat M (b + 1) E)] h = .ok (.d (lot M (a + 1) (b + 1) E (tbD M (a + 1) P))) h := fun h => by
      rcases e_deeds (q + 3) m E hJ j1 j2 h with ⟨_, e⟩ | ⟨o, _⟩
      · rw [sd] at e
        exact e
      · omega
    have md := fun T h => mk_deeds (q + 4) m E T h
    have sm := (sm_tbD M (a + 1) fun w hw => (tb.three m w hw).2 : Sm 3 (tbD M (a + 1) P))
    have sm1 : Sm 3 (.tup ((P.map (enP M (a + 1))).drop 1)) := fun x hx => sm x (List.mem_of_mem_drop hx)
    have pn : P.map (enP M (a + 1)) ≠ [] := by
      intro e
      exact tb_ne m tb (List.map_eq_nil_iff.mp e)
    obtain ⟨v1, v2⟩ := eqv_short pn
    have o1 := fun h => o_watEq (q + 5) M (b + 1) hE h
    have o2 := fun h => o_lotEq (q + 4) M (a + 1) (b + 1) hE sm sm (.inl (sm.ok.2.2)) h
    have o3 := fun h => o_lotEq (q + 4) M (a + 1) (b + 1) hE sm sm1 (.inr v2) h
    have v1' : (tbD M (a + 1) P).pd.eqv (D.tup ((P.map (enP M (a + 1))).drop 1)).pd = false := v1
    rw [v1'] at o3
    rw [sm.ok.2.2] at o2
    have ns := n_sortL (h := [src4, .lst (L ++ [.tup [dM M, lot M (a + 1) (b + 1) E (tbD M (a + 1) P)]])]) so
    rw [sd] at ns
    have nt : ∀ h, nTuple [.d (.lv (P.map (enP M (a + 1))))] h = some (.d (tbD M (a + 1) P), h) := fun _ => rfl
    have li : ∀ h', insOf (.d (lot M (a + 1) (b + 1) E (tbD M (a + 1) P))) h' = some (3, [(0, wat M (b + 1) E), (1, tbD M (a + 1) P), (2, dn (a + 1)), (3, .tup ((List.range (b + 1)).map fun a => D.str (tx [a])))]) := fun h' => lot_ins M (a + 1) (b + 1) E (tbD M (a + 1) P) h'
    have sl : ∀ h, slO (.d (tbD M (a + 1) P)) (some 1) none h = some (.d (.tup ((P.map (enP M (a + 1))).drop 1)), h) := fun h => by
      show some (Vl.d (.tup (cutL (P.map (enP M (a + 1))) (some 1) none)), h) = _
      rw [cut1]
    have lz : L.length < sizeLine := lts (by omega)
    have md1 := md (tbD M (a + 1) P)
    have md2 := md (.tup ((P.map (enP M (a + 1))).drop 1))
    refine ⟨src4, L ++ [.tup [dM M, lot M (a + 1) (b + 1) E (tbD M (a + 1) P)]], _, _, _, _, _, _, s4.up (by omega), by simp, fun d hd => ?_, run _ el' _ ?_⟩
    · rcases List.mem_append.mp hd with hd | hd
      · exact pL d hd
      · have := List.mem_singleton.mp hd
        exact ⟨M, a + 1, b + 1, P, E, _, this, m, tb, et, so, sd⟩
    have et5 := et (q + 5) [src4, .lst (L ++ [.tup [dM M, lot M (a + 1) (b + 1) E (tbD M (a + 1) P)]])]
    clear run et md el
    generalize hTL : ((W (M1 M (a + 1) (b + 1)) J).map (en1 (a + 1))).drop 1 = TL at *
    have gt : oGt (.d (dn TL.length)) (.d (.int 60)) [src4, .lst L] = some (.d (.bl false), [src4, .lst L]) := by
      show some (Vl.d (.bl (decide ((60 : Int) < (TL.length : Int)))), _) = _
      rw [decide_eq_false (by omega)]
    have on : oNe (.d (.bl false)) (.d (.bl false)) [src4, .lst L] = some (.d (.bl false), [src4, .lst L]) := o_neR (n := 0) trivial (by omega)
    have nn : isNon (.d (lot M (a + 1) (b + 1) E (tbD M (a + 1) P))) = false := rfl
    generalize lot M (a + 1) (b + 1) E (tbD M (a + 1) P) = LT at *
    generalize lot M (a + 1) (b + 1) E (.tup ((P.map (enP M (a + 1))).drop 1)) = LU at *
    generalize wat M (b + 1) E = WW at *
    generalize dM M = MM at *
    generalize D.tup ((P.map (enP M (a + 1))).drop 1) = TU at *
    generalize P.map (enP M (a + 1)) = PL at *
    generalize tbD M (a + 1) P = TB at *
    simp [et4, nl, gt, on, nn, od, lz, li, o1, o2, o3, ed, ew, md1, md2, et5, ns, nt, sl, ok_watcher, ok_table, List.lookup]
  · refine ⟨src4, L, _, _, _, _, _, _, s4.up (by omega), by omega, pL, run .non el L ?_⟩
    generalize hTL : ((W (M1 M (a + 1) (b + 1)) J).map (en1 (a + 1))).drop 1 = TL at *
    have gt : oGt (.d (dn TL.length)) (.d (.int 60)) [src4, .lst L] = some (.d (.bl true), [src4, .lst L]) := by
      show some (Vl.d (.bl (decide ((60 : Int) < (TL.length : Int)))), _) = _
      rw [decide_eq_true (by omega)]
    have on : oNe (.d (.bl true)) (.d (.bl true)) [src4, .lst L] = some (.d (.bl false), [src4, .lst L]) := o_neR (n := 0) trivial (by omega)
    generalize wat M (b + 1) E = WW at *
    generalize dM M = MM at *
    simp [et4, nl, gt, on, isNon, od]
abbrev lo2 (A0 A2 A3 : D) (X4 X5 X6 X7 X8 X9 : Option D) : Lo := [some (.d A0), some (.r 0), some (.d A2), some (.d A3), od X4, od X5, od X6, od X7, od X8, od X9, none]
theorem r_law2 (q : Nat) (t : Hs) (A0 A2 A3 : D) (X4 X5 X7 X8 : Option D) : ∀ (ps : List D) (c : Nat) (src : O) (X6 X9 : Option D), (∀ d ∈ ps, Hd d) → Src c src → c + 200 * ps.length ≤ 600000 →
    ∃ Y6 Y9 src', Src (c + 200 * ps.length) src' ∧ forL (gTp 2 (gCo (gNm 6) (gCo (gNm 9) gNi))) (b_law_2 (callF defs (q + 6))) ps (lo2 A0 A2 A3 X4 X5 X6 X7 X8 X9) (src :: t) = .ok .nx (lo2 A0 A2 A3 X4 X5 Y6 X7 X8 Y9) (src' :: t)
  | [], c, src, X6, X9, _, hs, _ => ⟨X6, X9, src, hs, by simp [forL]⟩
  | d :: ps, c, src, X6, X9, hp, hs, hc => by
    rw [List.length_cons] at hc
    obtain ⟨M, n, k, P, E, TL, rfl, m, tb, et, so, sd⟩ := hp _ List.mem_cons_self
    obtain ⟨src1, s1, e⟩ := e_right (q + 2) m tb E t TL (fun h => et (q + 4) h) so sd c (by omega) hs
    obtain ⟨Y6, Y9, src2, s2, r⟩ := r_law2 q t A0 A2 A3 X4 X5 X7 X8 ps (c + 200) src1 (some (dM M)) (some (lot M n k E (tbD M n P))) (fun x hx => hp x (List.mem_cons_of_mem _ hx)) s1 (by omega)
    refine ⟨Y6, Y9, src2, s2.up (by rw [List.length_cons]; omega), ?_⟩
    rw [← r]
    have e' : callF defs (q + 6) 26 [.r 0, .d (dM M), .d (lot M n k E (tbD M n P))] (src :: t) = .ok (.d (.bl true)) (src1 :: t) := e
    generalize lot M n k E (tbD M n P) = LT at *
    generalize dM M = MM at *
    have b : b_law_2 (callF defs (q + 6)) (lo2 A0 A2 A3 X4 X5 (some MM) X7 X8 (some LT)) (src :: t) = .ok .nx (lo2 A0 A2 A3 X4 X5 (some MM) X7 X8 (some LT)) (src1 :: t) := by
      simp [od, e']
    have g : gTp 2 (gCo (gNm 6) (gCo (gNm 9) gNi)) (.d (.tup [MM, LT])) (lo2 A0 A2 A3 X4 X5 X6 X7 X8 X9) (src :: t) = some (lo2 A0 A2 A3 X4 X5 (some MM) X7 X8 (some LT), src :: t) := rfl
    rw [forL, g]
    dsimp only
    rw [b]
    dsimp only
    have cl : clr (src :: t).length (lo2 A0 A2 A3 X4 X5 (some MM) X7 X8 (some LT)) = lo2 A0 A2 A3 X4 X5 (some MM) X7 X8 (some LT) := by
      simp
    rw [cl, List.take_of_length_le (by simp)]
theorem e_source (n : Nat) (ns : List Int) : callF defs (n + 1) 13 [.d (.scr (ns.map D.int))] [] = .ok (.r 0) [.lst [.lv (ns.map D.int), .int 0, .int 0, .int 1]] := by
  rw [callF_at (md := ⟨1, 1, true, m__law_source⟩) rfl rfl]
  simp [startL]
  rfl
theorem law_ok (ns : List Int) (_ : ns.length ≤ 63) : ∃ h, callF defs fuel 27 [.d (.scr (ns.map D.int))] [] = .ok (.d (.bl true)) h := by
  have e0 := e_source 18 ns
  have s0 : Src 0 (.lst [.lv (ns.map D.int), .int 0, .int 0, .int 1]) := ⟨ns, 0, 0, 1, rfl, by omega, by omega⟩
  generalize O.lst [.lv (ns.map D.int), .int 0, .int 0, .int 1] = src at *
  obtain ⟨src1, L1, a4, a5, a6, a7, a8, a9, s1, l1, p1, e1⟩ := r_law1 13 0 (by omega) s0 [] (by simp) (fun d hd => (List.not_mem_nil hd).elim) (.scr (ns.map D.int)) (.int 0) none none none none none none
  rw [List.length_nil] at l1
  obtain ⟨src2, L2, b4, b5, b6, b7, b8, b9, s2, l2, p2, e2⟩ := r_law1 13 40 (by omega) (s1.up (by omega)) L1 (by omega) p1 (.scr (ns.map D.int)) (.int 1) a4 a5 a6 a7 a8 a9
  obtain ⟨Y6, Y9, src3, s3, e3⟩ := r_law2 13 [.dead] (.scr (ns.map D.int)) (.lv L2) (.int 1) b4 b5 b7 b8 L2 80 src2 b6 b9 p2 (s2.up (by omega)) (by omega)
  refine ⟨[], ?_⟩
  show callF defs 20 27 _ _ = _
  rw [callF_at (md := ⟨1, 11, false, m_law⟩) rfl rfl]
  have e0' : callF defs 19 13 [.d (.scr (ns.map D.int))] [] = .ok (.r 0) [src] := e0
  have e1' : b_law_1 (callF defs 19) (lo (.scr (ns.map D.int)) (.int 0) none none none none none none) [src, .lst []] = _ := e1
  have e2' : b_law_1 (callF defs 19) (lo (.scr (ns.map D.int)) (.int 1) a4 a5 a6 a7 a8 a9) [src1, .lst L1] = _ := e2
  have e3' : forL (gTp 2 (gCo (gNm 6) (gCo (gNm 9) gNi))) (b_law_2 (callF defs 19)) L2 (lo2 (.scr (ns.map D.int)) (.lv L2) (.int 1) b4 b5 b6 b7 b8 b9) [src2, .dead] = _ := e3
  clear e0 e1 e2 e3
  generalize callF defs 19 = call at *
  generalize ns.map D.int = NS at *
  have rg : iA1 (aCons (eK (.int 2)) aNil) [some (.d (.scr NS)), some (.r 0), some (.r 1), none, none, none, none, none, none, none, none] [src, .lst []] = .ok [.int 0, .int 1] [src, .lst []] := rfl
  have lp : forL (gNm 3) (b_law_1 call) [.int 0, .int 1] [some (.d (.scr NS)), some (.r 0), some (.r 1), none, none, none, none, none, none, none, none] [src, .lst []] = .ok .nx (lo (.scr NS) (.int 1) b4 b5 b6 b7 b8 b9) [src2, .lst L2] := by
    have g0 : gNm 3 (.d (.int 0)) [some (.d (.scr NS)), some (.r 0), some (.r 1), none, none, none, none, none, none, none, none] [src, .lst []] = some (lo (.scr NS) (.int 0) none none none none none none, [src, .lst []]) := rfl
    have g1 : gNm 3 (.d (.int 1)) (lo (.scr NS) (.int 0) a4 a5 a6 a7 a8 a9) [src1, .lst L1] = some (lo (.scr NS) (.int 1) a4 a5 a6 a7 a8 a9, [src1, .lst L1]) := rfl
    have c0 : clr [src, O.lst []].length (lo (.scr NS) (.int 0) a4 a5 a6 a7 a8 a9) = lo (.scr NS) (.int 0) a4 a5 a6 a7 a8 a9 := by simp
    have c1 : clr [src1, O.lst L1].length (lo (.scr NS) (.int 1) b4 b5 b6 b7 b8 b9) = lo (.scr NS) (.int 1) b4 b5 b6 b7 b8 b9 := by simp
    rw [forL, g0]
    dsimp only
    rw [e1']
    dsimp only
    rw [c0, List.take_of_length_le (by simp), forL, g1]
    dsimp only
    rw [e2']
    dsimp only
    rw [c1, List.take_of_length_le (by simp), forL]
  have b : m_law call [some (.d (.scr NS)), none, none, none, none, none, none, none, none, none, none] [] = .ok (.ret (.d (.bl true))) (lo2 (.scr NS) (.lv L2) (.int 1) b4 b5 Y6 b7 b8 Y9) [src3, .dead] := by
    rw [am_law]
    refine sq_go (σ1 := [some (.d (.scr NS)), some (.r 0), none, none, none, none, none, none, none, none, none]) (h1 := [src]) (by simp [e0']) ?_
    refine sq_go (σ1 := [some (.d (.scr NS)), some (.r 0), some (.r 1), none, none, none, none, none, none, none, none]) (h1 := [src, .lst []]) (by simp) ?_
    refine sq_go (σ1 := lo (.scr NS) (.int 1) b4 b5 b6 b7 b8 b9) (h1 := [src2, .lst L2]) (by rw [ap_for, rg, sb_ok]; exact lp) ?_
    refine sq_go (σ1 := lo2 (.scr NS) (.lv L2) (.int 1) b4 b5 b6 b7 b8 b9) (h1 := [src2, .dead]) rfl ?_
    refine sq_go (σ1 := lo2 (.scr NS) (.lv L2) (.int 1) b4 b5 Y6 b7 b8 Y9) (h1 := [src3, .dead]) ?_ rfl
    have it : iSeq (eVar 2) (lo2 (.scr NS) (.lv L2) (.int 1) b4 b5 b6 b7 b8 b9) [src2, .dead] = .ok L2 [src2, .dead] := rfl
    rw [ap_for, it, sb_ok]
    exact e3'
  show fin false ([] : Hs).length (m_law call [some (.d (.scr NS)), none, none, none, none, none, none, none, none, none, none] []) = _
  rw [b, fin_ret]
  simp
end K12

theorem PySem.Challenge.cw_pressedwords_k12_whole_deeds_closed_with_holds : PySem.Challenge.rw_pressedwords_k12_whole_deeds_closed_with.Holds := by
  exact K12.close K12.law_ok
