import PyProof.Rows.All
import Wide.All
import OpenK.AllK
import Wide.FinOn
import HandS.ForMost
import HandS.Exc
import HandS.WordsExc
import HandS.Flow
import HandS.Wide
import HandS.TupAny
import HandS.IsInst
import HandS.Deep
import HandS.Codes
import HandS.Zip
import HandS.CallSlots
import HandS.Defaults
import HandS.ExcOwn
import HandS.Conv
import HandS.OwnEq
import KE.GoesEnum
import HandS.Head0
import HandS.Head1
import HandS.Head2
import HandS.HeadEnd
import HandS.HeadHook1
import HandS.HeadHook2
import HandS.Words
import PyProof.NeKinds
import PyProof.P3Eq
import HandS.TupMul
import PyProof.StrOps2
import PySem.Challenge.RW_pressedwords_k99_results_equal_by_all_at
set_option Elab.async false
set_option linter.all false
set_option maxRecDepth 100000
set_option maxHeartbeats 0
set_option autoImplicit false
namespace Mi
open PySem PySem.Spec L2
open He in
def obsM (xf : PySem.W.Frag → Bool) (fa : List Fa) (fn : List DefD) (K : PySem.W.Frag) : Bool × AlD := (xf K, obsD fa fn K)
open He in
def SaysM (xf : PySem.W.Frag → Bool) (fa : List Fa) (fn : List DefD) (K : PySem.W.Frag) : Prop := obsM xf fa fn K = (true, valD fn)
/-- the facts of isinstance that a class has -/
def isiB (K : PySem.W.Frag) (C : Addr) : Bool := He.eqO (PySem.W.findIn K (.ref C) "__class__") (some (some (.builtin "object.__class__"))) &&
  (He.eqO (PySem.W.specialIn K (.builtin "object.__class__") "__get__") (some (some (.builtin "getset_descriptor.__get__"))) &&
    (decide (PySem.W.takesIn K (.builtin "object.__class__") = some true) && decide (PySem.W.mroIn K C (.type "object") = some true)))
def kitA (K : PySem.W.Frag) (t u : Value) (b : Bool) : Bool := decide (PySem.W.kitOne K t u = some b)
def clsDef (s : Stmt) (i : Nat) : Stmt := match s with
  | .ClassDef _ _ _ b _ _ _ _ _ _ _ => b.getD i (.Pass ⟨0, 0, 0, 0⟩)
  | s => s

def cga (K : PySem.W.Frag) (cn : List Str) (C : Nat) : Addr := He.ga K (cn.getD C "")
def isiAllB (K : PySem.W.Frag) (cn : List Str) (ok : List Nat) : Bool := ok.all fun E => isiB K (cga K cn E)
def kitAllB (K : PySem.W.Frag) (cn : List Str) (ok : List Nat) (bt : List String) (cs : List Nat) : Bool := cs.all fun C => (ok.all fun E => kitA K (.ref (cga K cn E)) (.ref (cga K cn C)) (E == C)) && bt.all fun s => kitA K (.type s) (.ref (cga K cn C)) false
def nfAllB (K : PySem.W.Frag) (cn : List Str) (ts : List Nat) : Bool := ts.all fun a => ts.all fun b => PySem.W.notFirst K (cga K cn a) (.ref (cga K cn b))
/-- what is met anew: the set as the bits of a number, the new ones -/
def newA : List Addr → Nat → List Addr → Nat × List Addr
  | [], m, acc => (m, acc)
  | a :: as, m, acc => match Nat.testBit m a with
    | true => newA as m acc
    | false => newA as (m + Nat.shiftLeft 1 a) (a :: acc)
def refsOf (g : Addr → Option Obj) (a : Addr) : List Addr := match g a with
  | some o => He.refsD o
  | none => []
def newF (g : Addr → Option Obj) : List Addr → Nat → List Addr → Nat × List Addr
  | [], m, acc => (m, acc)
  | a :: as, m, acc => match newA (refsOf g a) m acc with
    | (m', acc') => newF g as m' acc'
def asB (g : Addr → Option Obj) : Nat → Nat → List Addr → List Addr
  | 0, _, fr => fr
  | n + 1, m, fr => match newF g fr m [] with
    | (m', fr') => fr ++ asB g n m' fr'
open He in
def obsB (n : Nat) (xf : PySem.W.Frag → Bool) (fa : List Fa) (fn : List DefD) (g : Addr → Option Obj) : Bool × AlD := obsM xf fa fn (frG g (asB g n (Nat.shiftLeft 1 mainGlobals) [mainGlobals]))
open He in
def hookB (n : Nat) (xf : PySem.W.Frag → Bool) (fa : List Fa) (fn : List DefD) : PySem.W.Hook where
  α := Bool × AlD
  obs := fun s => obsB n xf fa fn s.heap.get?
  val := fun _ => (true, valD fn)
  says := fun _ h => ∃ K : PySem.W.Frag, K.In h ∧ SaysM xf fa fn K
  of := fun _ _ e => ⟨_, frG_in, e⟩
  keeps := fun _ _ _ ⟨K, hK, c⟩ k => ⟨K, PySem.W.Frag.In.keeps hK k, c⟩
open He in
theorem obsB_eq {n : Nat} {xf : PySem.W.Frag → Bool} {fa : List Fa} {fn : List DefD} {g : Addr → Option Obj} {s : Shared} (h : ∀ a, g a = s.heap.get? a) : obsB n xf fa fn g = (hookB n xf fa fn).obs s := by
  rw [show g = s.heap.get? from funext h]; rfl
end Mi
namespace K99
open PySem PySem.Spec L2 Mi
abbrev prg : Program := PySem.Challenge.pw_pressedwords_k99_results_equal_by_all_at
def top (i : Nat) : Stmt := prg.main.body.getD i (.Pass ⟨0, 0, 0, 0⟩)
abbrev s_is_whole : Stmt := top 9
abbrev s_is_sequence : Stmt := top 10
abbrev s_is_state : Stmt := top 11
abbrev s_checked_deeds : Stmt := top 12
abbrev s_are_goals : Stmt := top 13
abbrev s_checked_ends : Stmt := top 14
abbrev s_checked_rows : Stmt := top 15
abbrev s_check_signs : Stmt := top 16
abbrev s_Book__init_ : Stmt := clsDef (top 17) 0
abbrev s_Book__eq_ : Stmt := clsDef (top 17) 2
abbrev s_Clash__init_ : Stmt := clsDef (top 18) 0
abbrev s_Clash__eq_ : Stmt := clsDef (top 18) 1
abbrev s_Guess__init_ : Stmt := clsDef (top 20) 0
abbrev s_Guess__eq_ : Stmt := clsDef (top 20) 1
abbrev s_Canon__init_ : Stmt := clsDef (top 22) 0
abbrev s_Canon__eq_ : Stmt := clsDef (top 22) 1
abbrev s_Settled__init_ : Stmt := clsDef (top 24) 0
abbrev s_Settled__eq_ : Stmt := clsDef (top 24) 1
abbrev s_Shape__init_ : Stmt := clsDef (top 26) 0
abbrev s_Shape__eq_ : Stmt := clsDef (top 26) 1
abbrev s_Answer__init_ : Stmt := clsDef (top 28) 0
abbrev s_Answer__eq_ : Stmt := clsDef (top 28) 1
abbrev s_Carries__init_ : Stmt := clsDef (top 29) 0
abbrev s_Carries__eq_ : Stmt := clsDef (top 29) 1
abbrev s_Case__init_ : Stmt := clsDef (top 31) 0
abbrev s_Case__eq_ : Stmt := clsDef (top 31) 2
abbrev s_Look__init_ : Stmt := clsDef (top 33) 0
abbrev s_Look__eq_ : Stmt := clsDef (top 33) 1
abbrev s_Entry__init_ : Stmt := clsDef (top 35) 0
abbrev s_Entry__eq_ : Stmt := clsDef (top 35) 1
abbrev s_Paper__init_ : Stmt := clsDef (top 36) 0
abbrev s_Paper__eq_ : Stmt := clsDef (top 36) 5
abbrev s_Shut__init_ : Stmt := clsDef (top 37) 0
abbrev s_Shut__eq_ : Stmt := clsDef (top 37) 1
abbrev s_is_outer_text : Stmt := top 42
abbrev s_is_earlier : Stmt := top 43
abbrev s_checked_rule : Stmt := top 44
abbrev s_checked_word : Stmt := top 45
abbrev s_rule_lengths : Stmt := top 46
abbrev s_Grammar__init_ : Stmt := clsDef (top 49) 0
abbrev s_Grammar__eq_ : Stmt := clsDef (top 49) 1
abbrev s_Pressed__init_ : Stmt := clsDef (top 51) 0
abbrev s_Pressed__eq_ : Stmt := clsDef (top 51) 1
abbrev s_is_filled_name : Stmt := top 55
abbrev s_checked_couple : Stmt := top 56
abbrev s_Filling__init_ : Stmt := clsDef (top 57) 0
abbrev s_Filling__eq_ : Stmt := clsDef (top 57) 1
abbrev s_filling_of : Stmt := top 58
abbrev s_Root__init_ : Stmt := clsDef (top 60) 0
abbrev s_Root__eq_ : Stmt := clsDef (top 60) 1
abbrev s_Trail__init_ : Stmt := clsDef (top 62) 0
abbrev s_Trail__eq_ : Stmt := clsDef (top 62) 1
abbrev s_Stages__init_ : Stmt := clsDef (top 64) 0
abbrev s_Stages__eq_ : Stmt := clsDef (top 64) 1
abbrev s_Run__init_ : Stmt := clsDef (top 66) 0
abbrev s_Run__eq_ : Stmt := clsDef (top 66) 1
abbrev s_Way__init_ : Stmt := clsDef (top 68) 0
abbrev s_Way__eq_ : Stmt := clsDef (top 68) 1
abbrev s_Found__init_ : Stmt := clsDef (top 69) 0
abbrev s_Found__eq_ : Stmt := clsDef (top 69) 1
abbrev s_Never__init_ : Stmt := clsDef (top 70) 0
abbrev s_Never__eq_ : Stmt := clsDef (top 70) 1
abbrev s_Trial__init_ : Stmt := clsDef (top 72) 0
abbrev s_Trial__eq_ : Stmt := clsDef (top 72) 1
abbrev s__law_source : Stmt := top 74
abbrev s__law_take : Stmt := top 75
abbrev s__law_book : Stmt := top 76
abbrev s__law_part : Stmt := top 77
abbrev s__law_made : Stmt := top 78
abbrev s__law_made_later : Stmt := top 79
abbrev s__law_told : Stmt := top 80
abbrev s__law_told_later : Stmt := top 81
abbrev s__law_result_right : Stmt := top 82
abbrev s_law : Stmt := top 83
def d_is_whole : He.DefD := ⟨("is_whole", none), "is_whole", "is_whole", defArgs s_is_whole, defBody s_is_whole, defScope s_is_whole, [], []⟩
def d_is_sequence : He.DefD := ⟨("is_sequence", none), "is_sequence", "is_sequence", defArgs s_is_sequence, defBody s_is_sequence, defScope s_is_sequence, [], []⟩
def d_is_state : He.DefD := ⟨("is_state", none), "is_state", "is_state", defArgs s_is_state, defBody s_is_state, defScope s_is_state, [], []⟩
def d_checked_deeds : He.DefD := ⟨("checked_deeds", none), "checked_deeds", "checked_deeds", defArgs s_checked_deeds, defBody s_checked_deeds, defScope s_checked_deeds, [], []⟩
def d_are_goals : He.DefD := ⟨("are_goals", none), "are_goals", "are_goals", defArgs s_are_goals, defBody s_are_goals, defScope s_are_goals, [], []⟩
def d_checked_ends : He.DefD := ⟨("checked_ends", none), "checked_ends", "checked_ends", defArgs s_checked_ends, defBody s_checked_ends, defScope s_checked_ends, [], []⟩
def d_checked_rows : He.DefD := ⟨("checked_rows", none), "checked_rows", "checked_rows", defArgs s_checked_rows, defBody s_checked_rows, defScope s_checked_rows, [], []⟩
def d_check_signs : He.DefD := ⟨("check_signs", none), "check_signs", "check_signs", defArgs s_check_signs, defBody s_check_signs, defScope s_check_signs, [], []⟩
def d_Book__init_ : He.DefD := ⟨("Book", some "__init__"), "__init__", "Book.__init__", defArgs s_Book__init_, defBody s_Book__init_, defScope s_Book__init_, [.int 1], []⟩
def d_Book__eq_ : He.DefD := ⟨("Book", some "__eq__"), "__eq__", "Book.__eq__", defArgs s_Book__eq_, defBody s_Book__eq_, defScope s_Book__eq_, [], []⟩
def d_Clash__init_ : He.DefD := ⟨("Clash", some "__init__"), "__init__", "Clash.__init__", defArgs s_Clash__init_, defBody s_Clash__init_, defScope s_Clash__init_, [], []⟩
def d_Clash__eq_ : He.DefD := ⟨("Clash", some "__eq__"), "__eq__", "Clash.__eq__", defArgs s_Clash__eq_, defBody s_Clash__eq_, defScope s_Clash__eq_, [], []⟩
def d_Guess__init_ : He.DefD := ⟨("Guess", some "__init__"), "__init__", "Guess.__init__", defArgs s_Guess__init_, defBody s_Guess__init_, defScope s_Guess__init_, [], []⟩
def d_Guess__eq_ : He.DefD := ⟨("Guess", some "__eq__"), "__eq__", "Guess.__eq__", defArgs s_Guess__eq_, defBody s_Guess__eq_, defScope s_Guess__eq_, [], []⟩
def d_Canon__init_ : He.DefD := ⟨("Canon", some "__init__"), "__init__", "Canon.__init__", defArgs s_Canon__init_, defBody s_Canon__init_, defScope s_Canon__init_, [], []⟩
def d_Canon__eq_ : He.DefD := ⟨("Canon", some "__eq__"), "__eq__", "Canon.__eq__", defArgs s_Canon__eq_, defBody s_Canon__eq_, defScope s_Canon__eq_, [], []⟩
def d_Settled__init_ : He.DefD := ⟨("Settled", some "__init__"), "__init__", "Settled.__init__", defArgs s_Settled__init_, defBody s_Settled__init_, defScope s_Settled__init_, [], []⟩
def d_Settled__eq_ : He.DefD := ⟨("Settled", some "__eq__"), "__eq__", "Settled.__eq__", defArgs s_Settled__eq_, defBody s_Settled__eq_, defScope s_Settled__eq_, [], []⟩
def d_Shape__init_ : He.DefD := ⟨("Shape", some "__init__"), "__init__", "Shape.__init__", defArgs s_Shape__init_, defBody s_Shape__init_, defScope s_Shape__init_, [], []⟩
def d_Shape__eq_ : He.DefD := ⟨("Shape", some "__eq__"), "__eq__", "Shape.__eq__", defArgs s_Shape__eq_, defBody s_Shape__eq_, defScope s_Shape__eq_, [], []⟩
def d_Answer__init_ : He.DefD := ⟨("Answer", some "__init__"), "__init__", "Answer.__init__", defArgs s_Answer__init_, defBody s_Answer__init_, defScope s_Answer__init_, [], []⟩
def d_Answer__eq_ : He.DefD := ⟨("Answer", some "__eq__"), "__eq__", "Answer.__eq__", defArgs s_Answer__eq_, defBody s_Answer__eq_, defScope s_Answer__eq_, [], []⟩
def d_Carries__init_ : He.DefD := ⟨("Carries", some "__init__"), "__init__", "Carries.__init__", defArgs s_Carries__init_, defBody s_Carries__init_, defScope s_Carries__init_, [], []⟩
def d_Carries__eq_ : He.DefD := ⟨("Carries", some "__eq__"), "__eq__", "Carries.__eq__", defArgs s_Carries__eq_, defBody s_Carries__eq_, defScope s_Carries__eq_, [], []⟩
def d_Case__init_ : He.DefD := ⟨("Case", some "__init__"), "__init__", "Case.__init__", defArgs s_Case__init_, defBody s_Case__init_, defScope s_Case__init_, [], []⟩
def d_Case__eq_ : He.DefD := ⟨("Case", some "__eq__"), "__eq__", "Case.__eq__", defArgs s_Case__eq_, defBody s_Case__eq_, defScope s_Case__eq_, [], []⟩
def d_Look__init_ : He.DefD := ⟨("Look", some "__init__"), "__init__", "Look.__init__", defArgs s_Look__init_, defBody s_Look__init_, defScope s_Look__init_, [], []⟩
def d_Look__eq_ : He.DefD := ⟨("Look", some "__eq__"), "__eq__", "Look.__eq__", defArgs s_Look__eq_, defBody s_Look__eq_, defScope s_Look__eq_, [], []⟩
def d_Entry__init_ : He.DefD := ⟨("Entry", some "__init__"), "__init__", "Entry.__init__", defArgs s_Entry__init_, defBody s_Entry__init_, defScope s_Entry__init_, [], []⟩
def d_Entry__eq_ : He.DefD := ⟨("Entry", some "__eq__"), "__eq__", "Entry.__eq__", defArgs s_Entry__eq_, defBody s_Entry__eq_, defScope s_Entry__eq_, [], []⟩
def d_Paper__init_ : He.DefD := ⟨("Paper", some "__init__"), "__init__", "Paper.__init__", defArgs s_Paper__init_, defBody s_Paper__init_, defScope s_Paper__init_, [], []⟩
def d_Paper__eq_ : He.DefD := ⟨("Paper", some "__eq__"), "__eq__", "Paper.__eq__", defArgs s_Paper__eq_, defBody s_Paper__eq_, defScope s_Paper__eq_, [], []⟩
def d_Shut__init_ : He.DefD := ⟨("Shut", some "__init__"), "__init__", "Shut.__init__", defArgs s_Shut__init_, defBody s_Shut__init_, defScope s_Shut__init_, [], []⟩
def d_Shut__eq_ : He.DefD := ⟨("Shut", some "__eq__"), "__eq__", "Shut.__eq__", defArgs s_Shut__eq_, defBody s_Shut__eq_, defScope s_Shut__eq_, [], []⟩
def d_is_outer_text : He.DefD := ⟨("is_outer_text", none), "is_outer_text", "is_outer_text", defArgs s_is_outer_text, defBody s_is_outer_text, defScope s_is_outer_text, [], []⟩
def d_is_earlier : He.DefD := ⟨("is_earlier", none), "is_earlier", "is_earlier", defArgs s_is_earlier, defBody s_is_earlier, defScope s_is_earlier, [], []⟩
def d_checked_rule : He.DefD := ⟨("checked_rule", none), "checked_rule", "checked_rule", defArgs s_checked_rule, defBody s_checked_rule, defScope s_checked_rule, [], []⟩
def d_checked_word : He.DefD := ⟨("checked_word", none), "checked_word", "checked_word", defArgs s_checked_word, defBody s_checked_word, defScope s_checked_word, [], []⟩
def d_rule_lengths : He.DefD := ⟨("rule_lengths", none), "rule_lengths", "rule_lengths", defArgs s_rule_lengths, defBody s_rule_lengths, defScope s_rule_lengths, [], []⟩
def d_Grammar__init_ : He.DefD := ⟨("Grammar", some "__init__"), "__init__", "Grammar.__init__", defArgs s_Grammar__init_, defBody s_Grammar__init_, defScope s_Grammar__init_, [], []⟩
def d_Grammar__eq_ : He.DefD := ⟨("Grammar", some "__eq__"), "__eq__", "Grammar.__eq__", defArgs s_Grammar__eq_, defBody s_Grammar__eq_, defScope s_Grammar__eq_, [], []⟩
def d_Pressed__init_ : He.DefD := ⟨("Pressed", some "__init__"), "__init__", "Pressed.__init__", defArgs s_Pressed__init_, defBody s_Pressed__init_, defScope s_Pressed__init_, [], []⟩
def d_Pressed__eq_ : He.DefD := ⟨("Pressed", some "__eq__"), "__eq__", "Pressed.__eq__", defArgs s_Pressed__eq_, defBody s_Pressed__eq_, defScope s_Pressed__eq_, [], []⟩
def d_is_filled_name : He.DefD := ⟨("is_filled_name", none), "is_filled_name", "is_filled_name", defArgs s_is_filled_name, defBody s_is_filled_name, defScope s_is_filled_name, [], []⟩
def d_checked_couple : He.DefD := ⟨("checked_couple", none), "checked_couple", "checked_couple", defArgs s_checked_couple, defBody s_checked_couple, defScope s_checked_couple, [], []⟩
def d_Filling__init_ : He.DefD := ⟨("Filling", some "__init__"), "__init__", "Filling.__init__", defArgs s_Filling__init_, defBody s_Filling__init_, defScope s_Filling__init_, [], []⟩
def d_Filling__eq_ : He.DefD := ⟨("Filling", some "__eq__"), "__eq__", "Filling.__eq__", defArgs s_Filling__eq_, defBody s_Filling__eq_, defScope s_Filling__eq_, [], []⟩
def d_filling_of : He.DefD := ⟨("filling_of", none), "filling_of", "filling_of", defArgs s_filling_of, defBody s_filling_of, defScope s_filling_of, [], []⟩
def d_Root__init_ : He.DefD := ⟨("Root", some "__init__"), "__init__", "Root.__init__", defArgs s_Root__init_, defBody s_Root__init_, defScope s_Root__init_, [], []⟩
def d_Root__eq_ : He.DefD := ⟨("Root", some "__eq__"), "__eq__", "Root.__eq__", defArgs s_Root__eq_, defBody s_Root__eq_, defScope s_Root__eq_, [], []⟩
def d_Trail__init_ : He.DefD := ⟨("Trail", some "__init__"), "__init__", "Trail.__init__", defArgs s_Trail__init_, defBody s_Trail__init_, defScope s_Trail__init_, [], []⟩
def d_Trail__eq_ : He.DefD := ⟨("Trail", some "__eq__"), "__eq__", "Trail.__eq__", defArgs s_Trail__eq_, defBody s_Trail__eq_, defScope s_Trail__eq_, [], []⟩
def d_Stages__init_ : He.DefD := ⟨("Stages", some "__init__"), "__init__", "Stages.__init__", defArgs s_Stages__init_, defBody s_Stages__init_, defScope s_Stages__init_, [], []⟩
def d_Stages__eq_ : He.DefD := ⟨("Stages", some "__eq__"), "__eq__", "Stages.__eq__", defArgs s_Stages__eq_, defBody s_Stages__eq_, defScope s_Stages__eq_, [], []⟩
def d_Run__init_ : He.DefD := ⟨("Run", some "__init__"), "__init__", "Run.__init__", defArgs s_Run__init_, defBody s_Run__init_, defScope s_Run__init_, [], []⟩
def d_Run__eq_ : He.DefD := ⟨("Run", some "__eq__"), "__eq__", "Run.__eq__", defArgs s_Run__eq_, defBody s_Run__eq_, defScope s_Run__eq_, [], []⟩
def d_Way__init_ : He.DefD := ⟨("Way", some "__init__"), "__init__", "Way.__init__", defArgs s_Way__init_, defBody s_Way__init_, defScope s_Way__init_, [], []⟩
def d_Way__eq_ : He.DefD := ⟨("Way", some "__eq__"), "__eq__", "Way.__eq__", defArgs s_Way__eq_, defBody s_Way__eq_, defScope s_Way__eq_, [], []⟩
def d_Found__init_ : He.DefD := ⟨("Found", some "__init__"), "__init__", "Found.__init__", defArgs s_Found__init_, defBody s_Found__init_, defScope s_Found__init_, [], []⟩
def d_Found__eq_ : He.DefD := ⟨("Found", some "__eq__"), "__eq__", "Found.__eq__", defArgs s_Found__eq_, defBody s_Found__eq_, defScope s_Found__eq_, [], []⟩
def d_Never__init_ : He.DefD := ⟨("Never", some "__init__"), "__init__", "Never.__init__", defArgs s_Never__init_, defBody s_Never__init_, defScope s_Never__init_, [], []⟩
def d_Never__eq_ : He.DefD := ⟨("Never", some "__eq__"), "__eq__", "Never.__eq__", defArgs s_Never__eq_, defBody s_Never__eq_, defScope s_Never__eq_, [], []⟩
def d_Trial__init_ : He.DefD := ⟨("Trial", some "__init__"), "__init__", "Trial.__init__", defArgs s_Trial__init_, defBody s_Trial__init_, defScope s_Trial__init_, [], []⟩
def d_Trial__eq_ : He.DefD := ⟨("Trial", some "__eq__"), "__eq__", "Trial.__eq__", defArgs s_Trial__eq_, defBody s_Trial__eq_, defScope s_Trial__eq_, [], []⟩
def d__law_source : He.DefD := ⟨("_law_source", none), "_law_source", "_law_source", defArgs s__law_source, defBody s__law_source, defScope s__law_source, [], []⟩
def d__law_take : He.DefD := ⟨("_law_take", none), "_law_take", "_law_take", defArgs s__law_take, defBody s__law_take, defScope s__law_take, [], []⟩
def d__law_book : He.DefD := ⟨("_law_book", none), "_law_book", "_law_book", defArgs s__law_book, defBody s__law_book, defScope s__law_book, [], []⟩
def d__law_part : He.DefD := ⟨("_law_part", none), "_law_part", "_law_part", defArgs s__law_part, defBody s__law_part, defScope s__law_part, [], []⟩
def d__law_made : He.DefD := ⟨("_law_made", none), "_law_made", "_law_made", defArgs s__law_made, defBody s__law_made, defScope s__law_made, [], []⟩
def d__law_made_later : He.DefD := ⟨("_law_made_later", none), "_law_made_later", "_law_made_later", defArgs s__law_made_later, defBody s__law_made_later, defScope s__law_made_later, [], []⟩
def d__law_told : He.DefD := ⟨("_law_told", none), "_law_told", "_law_told", defArgs s__law_told, defBody s__law_told, defScope s__law_told, [], []⟩
def d__law_told_later : He.DefD := ⟨("_law_told_later", none), "_law_told_later", "_law_told_later", defArgs s__law_told_later, defBody s__law_told_later, defScope s__law_told_later, [], []⟩
def d__law_result_right : He.DefD := ⟨("_law_result_right", none), "_law_result_right", "_law_result_right", defArgs s__law_result_right, defBody s__law_result_right, defScope s__law_result_right, [], []⟩
def d_law : He.DefD := ⟨("law", none), "law", "law", defArgs s_law, defBody s_law, defScope s_law, [], []⟩
def fn : List He.DefD := [d_is_whole, d_is_sequence, d_is_state, d_checked_deeds, d_are_goals, d_checked_ends, d_checked_rows, d_check_signs, d_Book__init_, d_Book__eq_, d_Clash__init_, d_Clash__eq_, d_Guess__init_, d_Guess__eq_, d_Canon__init_, d_Canon__eq_, d_Settled__init_, d_Settled__eq_, d_Shape__init_, d_Shape__eq_, d_Answer__init_, d_Answer__eq_, d_Carries__init_, d_Carries__eq_, d_Case__init_, d_Case__eq_, d_Look__init_, d_Look__eq_, d_Entry__init_, d_Entry__eq_, d_Paper__init_, d_Paper__eq_, d_Shut__init_, d_Shut__eq_, d_is_outer_text, d_is_earlier, d_checked_rule, d_checked_word, d_rule_lengths, d_Grammar__init_, d_Grammar__eq_, d_Pressed__init_, d_Pressed__eq_, d_is_filled_name, d_checked_couple, d_Filling__init_, d_Filling__eq_, d_filling_of, d_Root__init_, d_Root__eq_, d_Trail__init_, d_Trail__eq_, d_Stages__init_, d_Stages__eq_, d_Run__init_, d_Run__eq_, d_Way__init_, d_Way__eq_, d_Found__init_, d_Found__eq_, d_Never__init_, d_Never__eq_, d_Trial__init_, d_Trial__eq_, d__law_source, d__law_take, d__law_book, d__law_part, d__law_made, d__law_made_later, d__law_told, d__law_told_later, d__law_result_right, d_law]
def cn : List Str := ((["PressError", "BadBook", "BadGrammar", "NoSymbol", "TooLong", "BadFilling", "Book", "Clash", "Guess", "Canon", "Settled", "Shape", "Answer", "Carries", "Case", "Look", "Entry", "Paper", "Shut", "Grammar"] : List Str) ++ (["Pressed", "Filling", "Root", "Trail", "Stages", "Run", "Way", "Found", "Never", "Trial"] : List Str))
def isOk : List Nat := [6, 7, 8, 9, 10, 11, 12, 13, 14, 15, 16, 17, 18, 19, 20, 21, 22, 23, 24, 25, 26, 27, 28, 29]
def isBt : List String := []
def isCs : List Nat := [6, 7, 8, 9, 10, 11, 12, 13, 14, 15, 16, 17, 18, 19, 20, 21, 22, 23, 24, 25, 26, 27, 28, 29]
def eqTab : List (Nat × Nat) := [(6, 9), (7, 11), (8, 13), (9, 15), (10, 17), (11, 19), (12, 21), (13, 23), (14, 25), (15, 27), (16, 29), (17, 31), (18, 33), (19, 40), (20, 42), (21, 46), (22, 49), (23, 51), (24, 53), (25, 55), (26, 57), (27, 59), (28, 61), (29, 63)]
def fa : List He.Fa := [.glo "Answer", .glo "BadBook", .glo "BadFilling", .glo "BadGrammar", .glo "Book", .glo "Canon", .glo "Carries", .glo "Case", .glo "Clash", .glo "Entry", .glo "Filling", .glo "Found", .glo "Grammar", .glo "Guess", .glo "Look", .glo "Never", .glo "NoSymbol", .glo "Paper", .glo "PressError", .glo "Pressed", .glo "Root", .glo "Run", .glo "Settled", .glo "Shape", .glo "Shut", .glo "Stages", .glo "TooLong", .glo "Trail", .glo "Trial", .glo "Way", .glo "_law_book", .glo "_law_made", .glo "_law_made_later", .glo "_law_part", .glo "_law_result_right", .glo "_law_source", .glo "_law_take", .glo "_law_told", .glo "_law_told_later", .glo "are_goals", .glo "check_signs", .glo "checked_couple", .glo "checked_deeds", .glo "checked_ends", .glo "checked_rows", .glo "checked_rule", .glo "checked_word", .glo "filling_of", .glo "is_earlier", .glo "is_filled_name", .glo "is_outer_text", .glo "is_sequence", .glo "is_state", .glo "is_whole", .glo "law", .glo "rule_lengths", .free "all", .free "bool", .free "enumerate", .free "int", .free "isinstance", .free "len", .free "list", .free "range", .free "str", .free "tuple", .cls "Answer", .cls "Book", .cls "Canon", .cls "Carries", .cls "Case", .cls "Clash", .cls "Entry", .cls "Filling", .cls "Found", .cls "Grammar", .cls "Guess", .cls "Look", .cls "Never", .cls "Paper", .cls "Pressed", .cls "Root", .cls "Run", .cls "Settled", .cls "Shape", .cls "Shut", .cls "Stages", .cls "Trail", .cls "Trial", .cls "Way", .noat "Answer" "numbers", .noat "Book" "deeds", .noat "Book" "ends", .noat "Book" "rows", .noat "Book" "states", .noat "Canon" "book", .noat "Canon" "letters", .noat "Canon" "unknowns", .noat "Carries" "rows", .noat "Case" "full", .noat "Case" "rows", .noat "Case" "sets", .noat "Clash" "at", .noat "Clash" "why", .noat "Entry" "book", .noat "Entry" "lots", .noat "Entry" "step", .noat "Filling" "grammar", .noat "Filling" "words", .noat "Found" "filling", .noat "Found" "turns", .noat "Grammar" "lengths", .noat "Grammar" "rules", .noat "Guess" "equations", .noat "Guess" "letters", .noat "Guess" "news", .noat "Guess" "parts", .noat "Guess" "spares", .noat "Guess" "told", .noat "Guess" "unknowns", .noat "Look" "outcomes", .noat "Look" "step", .noat "Never" "papers", .noat "Paper" "deeds", .noat "Paper" "entries", .noat "Pressed" "ends", .noat "Pressed" "table", .noat "Root" "empties", .noat "Root" "letters", .noat "Root" "spares", .noat "Root" "told", .noat "Root" "unknowns", .noat "Run" "ends", .noat "Run" "stop", .noat "Run" "turns", .noat "Run" "used", .noat "Settled" "letters", .noat "Settled" "spares", .noat "Settled" "told", .noat "Settled" "unknowns", .noat "Shape" "back", .noat "Shape" "ends", .noat "Shape" "front", .noat "Shape" "stays", .noat "Shut" "paper", .noat "Stages" "grammar", .noat "Stages" "stages", .noat "Trail" "root", .noat "Trail" "turns", .noat "Trial" "refused", .noat "Trial" "tolds", .noat "Way" "ends", .noat "Way" "reads", .noat "Way" "sayings", .noat "Way" "stop", .noat "Way" "turns", .mkr "Answer", .mkr "Book", .mkr "Canon", .mkr "Carries", .mkr "Case", .mkr "Clash", .mkr "Entry", .mkr "Filling", .mkr "Found", .mkr "Grammar", .mkr "Guess", .mkr "Look", .mkr "Never", .mkr "Paper", .mkr "Pressed", .mkr "Root", .mkr "Run", .mkr "Settled", .mkr "Shape", .mkr "Shut", .mkr "Stages", .mkr "Trail", .mkr "Trial", .mkr "Way", .meth "Book" "__eq__", .meth "Clash" "__eq__", .meth "Guess" "__eq__", .meth "Canon" "__eq__", .meth "Settled" "__eq__", .meth "Shape" "__eq__", .meth "Answer" "__eq__", .meth "Carries" "__eq__", .meth "Case" "__eq__", .meth "Look" "__eq__", .meth "Entry" "__eq__", .meth "Paper" "__eq__", .meth "Shut" "__eq__", .meth "Grammar" "__eq__", .meth "Pressed" "__eq__", .meth "Filling" "__eq__", .meth "Root" "__eq__", .meth "Trail" "__eq__", .meth "Stages" "__eq__", .meth "Run" "__eq__", .meth "Way" "__eq__", .meth "Found" "__eq__", .meth "Never" "__eq__", .meth "Trial" "__eq__", .str "FIGURES" "0123456789", .int "MOST_SIGNS" 400, .int "MOST_TIMES" 100000000000000000000000000000000000000000000000000000000000000, .str "OUTER" "abc", .str "SMALL" "abcdefghijklmnopqrstuvwxyz"]
def xf (K : PySem.W.Frag) : List Bool := [isiAllB K cn isOk, kitAllB K cn isOk isBt isCs, nfAllB K cn (eqTab.map (·.1))]
abbrev R : PySem.W.OpenRow := PySem.W.OpenLaw.row PySem.Challenge.rw_pressedwords_k99_results_equal_by_all_at
abbrev xfa (K : PySem.W.Frag) : Bool := (xf K).all id
abbrev hk : PySem.W.Hook := hookB 5 xfa fa fn
def ob (s : PySem.W.SharedT) : Bool × He.AlD := obsB 5 xfa fa fn (HandSHeadRun.getT s)
theorem ob_eq (s : PySem.W.SharedT) : ob s = hk.obs s.abs := obsB_eq (HandSHeadRun.getT_eq s)
abbrev LL : List PySem.Str := ((["_wall", "PressError", "BadBook", "BadGrammar", "NoSymbol", "TooLong", "BadFilling", "is_whole", "is_sequence", "is_state", "checked_deeds", "are_goals", "checked_ends", "checked_rows", "check_signs", "Book", "Clash", "Guess", "Canon", "Settled"] : List Str) ++ (["Shape", "Answer", "Carries", "Case", "Look", "Entry", "Paper", "Shut", "OUTER", "MOST_SIGNS", "MOST_TIMES", "is_outer_text", "is_earlier", "checked_rule", "checked_word", "rule_lengths", "needed_rules", "parts_of", "Grammar", "Pressed"] : List Str) ++ (["SMALL", "FIGURES", "is_filled_name", "checked_couple", "Filling", "filling_of", "Root", "Trail", "Stages", "Run", "Way", "Found", "Never", "Trial", "_law_source", "_law_take", "_law_book", "_law_part", "_law_made", "_law_made_later"] : List Str) ++ (["_law_told", "_law_told_later", "_law_result_right"] : List Str))
open PySem.W PySem.Calls PyProof.Rows HandSHeadRun in
theorem runA (w : World) : ∀ os : OsState, (endF (stepQ (denQ tabQ) R.prog w) 15000 R.prog w os).map (fun s => (looksF R.prog (boot_heap w.params) s.abs, seenQ (PySem.W.view R.prog [83]) LL (importedModules R.prog.main.body) (fun s => xlAt (PySem.W.view R.prog [83]) [] s && recOk R.toRowW.records s) s.abs)) = some (true, openGood (PySem.W.view R.prog [83]) LL) := by
  intro os
  kernel_rfl
open PySem.W PySem.Calls PyProof.Rows HandSHeadRun in
theorem runB (w : World) : ∀ os : OsState, (endF (stepQ (denQ tabQ) R.prog w) 15000 R.prog w os).map (fun s => ob s) = some (hk.val w) := by
  intro os
  kernel_rfl
theorem map3 {α β γ δ : Type} {f : α → β} {g : α → γ} {h : α → δ} {b : β} {c : γ} {d : δ} : ∀ {o : Option α}, o.map (fun s => (f s, g s)) = some (b, c) → o.map (fun s => h s) = some d → o.map (fun s => (f s, g s, h s)) = some (b, c, d)
  | none, q, _ => by cases q
  | some x, q, r => by
    have q' := Option.some.inj q
    have r' : h x = d := Option.some.inj r
    have q1 : f x = b := congrArg Prod.fst q'
    have q2 : g x = c := congrArg Prod.snd q'
    subst r' q1 q2
    rfl
theorem run (w : World) : HandSHeadRun.RunEq R (PySem.W.view R.prog [83]) hk ob 15000 LL w := fun os => map3 (runA w os) (runB w os)
end K99
/-! Mi0: data, objects, the relation to the abstract heap -/
namespace Mi
open PySem PySem.Spec L2

/-- data: never changed once it is made -/
inductive D where
  | non | bl (b : Bool) | int (i : Int) | str (x : Str)
  | tup (xs : List D) | lv (xs : List D) | scr (xs : List D)
  | dk (kvs : List (Key × D)) | dt (kvs : List (List Key × D))
  | ins (C : Nat) (fs : List (Nat × D))
/-- a changeable object, flat -/
inductive O where
  | lst (xs : List D) | dk (kvs : List (Key × D)) | dt (kvs : List (List Key × D))
  | ins (C : Nat) (fs : List (Nat × D)) | dead
inductive Vl where
  | d (x : D) | r (k : Nat)
abbrev Hs := List O
abbrev Lo := List (Option Vl)
structure Ex where
  C : Nat
  fs : List (Nat × D)
inductive Res (α : Type) where
  | ok (a : α) (h : Hs) | exc (e : Ex) (h : Hs) | bad

/-- the program's names: where the classes stand, what the attributes are called -/
structure CT where
  ca : Nat → Addr
  nm : Nat → Str
  inj : ∀ a b, nm a = nm b → a = b

def TupW (K : PySem.W.Frag) (a : Addr) (xs : List V) : Prop :=
  ∃ (o : Obj) (its : Array Value) (n : Nat), K.lookup a = some o ∧ o.cls = .type "tuple" ∧ o.data = .seq its n ∧ its.size ≤ sizeLine ∧ Vals xs its.toList
def LstW (K : PySem.W.Frag) (a : Addr) (xs : List V) : Prop :=
  ∃ (o : Obj) (its : Array Value) (n : Nat), K.lookup a = some o ∧ o.cls = .type "list" ∧ o.dict = none ∧ o.data = .seq its n ∧ its.size ≤ sizeLine ∧ Vals xs its.toList
mutual
inductive DR (K : PySem.W.Frag) (ct : CT) (S : Addr → Prop) (H : Hp) : D → V → Prop
  | non : DR K ct S H .non .non
  | bl (b) : DR K ct S H (.bl b) (.bl b)
  | int (i) : DR K ct S H (.int i) (.int i)
  | str (x) : DR K ct S H (.str x) (.str x)
  | tup {a xs vs} : (Rd H a (.tup vs) ∧ S a) ∨ TupW K a vs → DRs K ct S H xs vs → DR K ct S H (.tup xs) (.ref a)
  | lv {a xs vs} : H a = some (.lst vs) → S a → DRs K ct S H xs vs → DR K ct S H (.lv xs) (.ref a)
  | scr {a xs vs} : ((∃ o, H a = some (.frz o (.lst vs))) ∧ S a) ∨ LstW K a vs → DRs K ct S H xs vs → DR K ct S H (.scr xs) (.ref a)
  | dk {a kvs vs} : H a = some (.dK vs) → S a → DRk K ct S H kvs vs → DR K ct S H (.dk kvs) (.ref a)
  | dt {a kvs vs} : H a = some (.dT vs) → S a → DRt K ct S H kvs vs → DR K ct S H (.dt kvs) (.ref a)
  | ins {a C dx fs vs} : H a = some (.ins (ct.ca C) dx vs) → S a → DRf K ct S H fs vs → DR K ct S H (.ins C fs) (.ref a)
inductive DRs (K : PySem.W.Frag) (ct : CT) (S : Addr → Prop) (H : Hp) : List D → List V → Prop
  | nil : DRs K ct S H [] []
  | cons {d v ds vs} : DR K ct S H d v → DRs K ct S H ds vs → DRs K ct S H (d :: ds) (v :: vs)
inductive DRk (K : PySem.W.Frag) (ct : CT) (S : Addr → Prop) (H : Hp) : List (Key × D) → List (Key × V) → Prop
  | nil : DRk K ct S H [] []
  | cons {k d v ds vs} : DR K ct S H d v → DRk K ct S H ds vs → DRk K ct S H ((k, d) :: ds) ((k, v) :: vs)
inductive DRt (K : PySem.W.Frag) (ct : CT) (S : Addr → Prop) (H : Hp) : List (List Key × D) → List (List Key × V) → Prop
  | nil : DRt K ct S H [] []
  | cons {k d v ds vs} : DR K ct S H d v → DRt K ct S H ds vs → DRt K ct S H ((k, d) :: ds) ((k, v) :: vs)
inductive DRf (K : PySem.W.Frag) (ct : CT) (S : Addr → Prop) (H : Hp) : List (Nat × D) → List (Str × V) → Prop
  | nil : DRf K ct S H [] []
  | cons {n d v ds vs} : DR K ct S H d v → DRf K ct S H ds vs → DRf K ct S H ((n, d) :: ds) ((ct.nm n, v) :: vs)
end

/-- all that is tracked and safe stays and stays safe -/
def Kp (S : Addr → Prop) (H : Hp) (S' : Addr → Prop) (H' : Hp) : Prop := ∀ a o, H a = some o → S a → H' a = some o ∧ S' a
theorem Kp.refl (S : Addr → Prop) (H : Hp) : Kp S H S H := fun _ _ h s => ⟨h, s⟩
theorem Kp.trans {S S1 S2 : Addr → Prop} {H H1 H2 : Hp} (a : Kp S H S1 H1) (b : Kp S1 H1 S2 H2) : Kp S H S2 H2 := fun c o h s => let ⟨h1, s1⟩ := a c o h s; b c o h1 s1
theorem Kp.rd {S S' : Addr → Prop} {H H' : Hp} (k : Kp S H S' H') {a : Addr} {u : HO} (r : Rd H a u) (s : S a) : Rd H' a u ∧ S' a := by
  rcases r with r | ⟨o, r⟩
  · obtain ⟨h, s'⟩ := k _ _ r s
    exact ⟨.inl h, s'⟩
  · obtain ⟨h, s'⟩ := k _ _ r s
    exact ⟨.inr ⟨o, h⟩, s'⟩

section
variable {K : PySem.W.Frag} {ct : CT} {S S' : Addr → Prop} {H H' : Hp}
mutual
theorem DR.mono (k : Kp S H S' H') : ∀ {d v}, DR K ct S H d v → DR K ct S' H' d v
  | _, _, .non => .non
  | _, _, .bl b => .bl b
  | _, _, .int i => .int i
  | _, _, .str x => .str x
  | _, _, .tup h r => .tup (h.imp (fun ⟨a, b⟩ => k.rd a b) id) (DRs.mono k r)
  | _, _, .lv h s r => .lv (k _ _ h s).1 (k _ _ h s).2 (DRs.mono k r)
  | _, _, .scr h r => .scr (h.imp (fun ⟨⟨o, h⟩, s⟩ => ⟨⟨o, (k _ _ h s).1⟩, (k _ _ h s).2⟩) id) (DRs.mono k r)
  | _, _, .dk h s r => .dk (k _ _ h s).1 (k _ _ h s).2 (DRk.mono k r)
  | _, _, .dt h s r => .dt (k _ _ h s).1 (k _ _ h s).2 (DRt.mono k r)
  | _, _, .ins h s r => .ins (k _ _ h s).1 (k _ _ h s).2 (DRf.mono k r)
theorem DRs.mono (k : Kp S H S' H') : ∀ {d v}, DRs K ct S H d v → DRs K ct S' H' d v
  | _, _, .nil => .nil
  | _, _, .cons r t => .cons (DR.mono k r) (DRs.mono k t)
theorem DRk.mono (k : Kp S H S' H') : ∀ {d v}, DRk K ct S H d v → DRk K ct S' H' d v
  | _, _, .nil => .nil
  | _, _, .cons r t => .cons (DR.mono k r) (DRk.mono k t)
theorem DRt.mono (k : Kp S H S' H') : ∀ {d v}, DRt K ct S H d v → DRt K ct S' H' d v
  | _, _, .nil => .nil
  | _, _, .cons r t => .cons (DR.mono k r) (DRt.mono k t)
theorem DRf.mono (k : Kp S H S' H') : ∀ {d v}, DRf K ct S H d v → DRf K ct S' H' d v
  | _, _, .nil => .nil
  | _, _, .cons r t => .cons (DR.mono k r) (DRf.mono k t)
end
theorem DRs.length : ∀ {d v}, DRs K ct S H d v → d.length = v.length
  | _, _, .nil => rfl
  | _, _, .cons _ t => congrArg (· + 1) (DRs.length t)
theorem DRk.length : ∀ {d v}, DRk K ct S H d v → d.length = v.length
  | _, _, .nil => rfl
  | _, _, .cons _ t => congrArg (· + 1) (DRk.length t)
theorem DRt.length : ∀ {d v}, DRt K ct S H d v → d.length = v.length
  | _, _, .nil => rfl
  | _, _, .cons _ t => congrArg (· + 1) (DRt.length t)
theorem DRf.length : ∀ {d v}, DRf K ct S H d v → d.length = v.length
  | _, _, .nil => rfl
  | _, _, .cons _ t => congrArg (· + 1) (DRf.length t)
theorem DRs.append : ∀ {d v d' v'}, DRs K ct S H d v → DRs K ct S H d' v' → DRs K ct S H (d ++ d') (v ++ v')
  | _, _, _, _, .nil, s => s
  | _, _, _, _, .cons r t, s => .cons r (DRs.append t s)
theorem DRs.get : ∀ {d v} {i : Nat} {x : D}, DRs K ct S H d v → d[i]? = some x → ∃ y, v[i]? = some y ∧ DR K ct S H x y
  | _, _, _, _, .nil, e => by simp at e
  | _, _, 0, _, .cons r _, e => by simp at e; subst e; exact ⟨_, rfl, r⟩
  | _, _, i + 1, x, .cons _ t, e => by
    obtain ⟨y, h1, h2⟩ := DRs.get (i := i) (x := x) t (by simpa using e)
    exact ⟨y, by simpa using h1, h2⟩
theorem DRs.getV : ∀ {d v} {i : Nat} {y : V}, DRs K ct S H d v → v[i]? = some y → ∃ x, d[i]? = some x ∧ DR K ct S H x y
  | _, _, _, _, .nil, e => by simp at e
  | _, _, 0, _, .cons r _, e => by simp at e; subst e; exact ⟨_, rfl, r⟩
  | _, _, i + 1, y, .cons _ t, e => by
    obtain ⟨x, h1, h2⟩ := DRs.getV (i := i) (y := y) t (by simpa using e)
    exact ⟨x, by simpa using h1, h2⟩
theorem DRs.set {x : D} {y : V} (r : DR K ct S H x y) : ∀ {d v} (i : Nat), DRs K ct S H d v → DRs K ct S H (d.set i x) (v.set i y)
  | _, _, _, .nil => .nil
  | _, _, 0, .cons _ t => .cons r t
  | _, _, i + 1, .cons q t => .cons q (DRs.set r i t)
theorem DRs.take : ∀ {d v} (n : Nat), DRs K ct S H d v → DRs K ct S H (d.take n) (v.take n)
  | _, _, 0, _ => .nil
  | _, _, _ + 1, .nil => .nil
  | _, _, n + 1, .cons r t => .cons r (DRs.take n t)
theorem DRs.drop : ∀ {d v} (n : Nat), DRs K ct S H d v → DRs K ct S H (d.drop n) (v.drop n)
  | _, _, 0, r => r
  | _, _, _ + 1, .nil => .nil
  | _, _, n + 1, .cons _ t => DRs.drop n t
theorem DRs.eraseIdx : ∀ {d v} (i : Nat), DRs K ct S H d v → DRs K ct S H (d.eraseIdx i) (v.eraseIdx i)
  | _, _, _, .nil => .nil
  | _, _, 0, .cons _ t => t
  | _, _, n + 1, .cons r t => .cons r (DRs.eraseIdx n t)
theorem DRs.reverse {d v} (h : DRs K ct S H d v) : DRs K ct S H d.reverse v.reverse := by
  induction d generalizing v with
  | nil => cases h; exact .nil
  | cons x d ih =>
    cases h with
    | cons r t =>
      rw [List.reverse_cons, List.reverse_cons]
      exact (ih t).append (.cons r .nil)
theorem DRs.dropLast {d v} (h : DRs K ct S H d v) : DRs K ct S H d.dropLast v.dropLast := by
  rw [List.dropLast_eq_take, List.dropLast_eq_take, h.length]; exact h.take _
end

/-! ### live objects -/
def Lv (m : List Addr) (ah : Hs) (a : Addr) : Prop := ∃ (k : Nat) (o : O), m[k]? = some a ∧ ah[k]? = some o ∧ o ≠ O.dead
def Sf (m : List Addr) (ah : Hs) (a : Addr) : Prop := ¬ Lv m ah a
inductive OR (K : PySem.W.Frag) (ct : CT) (S : Addr → Prop) (H : Hp) : O → HO → Prop
  | lst {xs vs} : DRs K ct S H xs vs → OR K ct S H (.lst xs) (.lst vs)
  | dk {xs vs} : DRk K ct S H xs vs → OR K ct S H (.dk xs) (.dK vs)
  | dt {xs vs} : DRt K ct S H xs vs → OR K ct S H (.dt xs) (.dT vs)
  | ins {C dx fs vs} : DRf K ct S H fs vs → OR K ct S H (.ins C fs) (.ins (ct.ca C) dx vs)
  | dead (u) : OR K ct S H .dead u
theorem OR.mono {K : PySem.W.Frag} {ct : CT} {S S' : Addr → Prop} {H H' : Hp} (k : Kp S H S' H') {o u} (h : OR K ct S H o u) : OR K ct S' H' o u := by
  cases h with
  | lst r => exact .lst (r.mono k)
  | dk r => exact .dk (r.mono k)
  | dt r => exact .dt (r.mono k)
  | ins r => exact .ins (r.mono k)
  | dead u => exact .dead u
structure HR (K : PySem.W.Frag) (ct : CT) (m : List Addr) (ah : Hs) (H : Hp) : Prop where
  len : m.length = ah.length
  inj : ∀ (i j : Nat) (a : Addr), m[i]? = some a → m[j]? = some a → i = j
  ob : ∀ (k : Nat) a o, m[k]? = some a → ah[k]? = some o → ∃ u, H a = some u ∧ OR K ct (Sf m ah) H o u
structure Ext (m : List Addr) (ah : Hs) (H : Hp) (m' : List Addr) (ah' : Hs) (H' : Hp) : Prop where
  pre : ∃ t, m' = m ++ t
  kp : Kp (Sf m ah) H (Sf m' ah') H'
theorem Ext.refl (m : List Addr) (ah : Hs) (H : Hp) : Ext m ah H m ah H := ⟨⟨[], by simp⟩, Kp.refl _ _⟩
theorem Ext.trans {m m1 m2 : List Addr} {ah ah1 ah2 : Hs} {H H1 H2 : Hp} (a : Ext m ah H m1 ah1 H1) (b : Ext m1 ah1 H1 m2 ah2 H2) : Ext m ah H m2 ah2 H2 := by
  obtain ⟨t, rfl⟩ := a.pre
  obtain ⟨t', rfl⟩ := b.pre
  exact ⟨⟨t ++ t', by rw [List.append_assoc]⟩, a.kp.trans b.kp⟩
theorem Ext.at {m m1 : List Addr} {ah ah1 : Hs} {H H1 : Hp} (a : Ext m ah H m1 ah1 H1) {k : Nat} {x : Addr} (h : m[k]? = some x) : m1[k]? = some x := by
  obtain ⟨t, rfl⟩ := a.pre
  rw [List.getElem?_append_left (List.getElem?_eq_some_iff.mp h).1]
  exact h
def VlR (K : PySem.W.Frag) (ct : CT) (m : List Addr) (ah : Hs) (H : Hp) : Vl → V → Prop
  | .d x, v => DR K ct (Sf m ah) H x v
  | .r k, v => ∃ a, m[k]? = some a ∧ v = .ref a
inductive VlRs (K : PySem.W.Frag) (ct : CT) (m : List Addr) (ah : Hs) (H : Hp) : List Vl → List V → Prop
  | nil : VlRs K ct m ah H [] []
  | cons {d v ds vs} : VlR K ct m ah H d v → VlRs K ct m ah H ds vs → VlRs K ct m ah H (d :: ds) (v :: vs)
structure LR (K : PySem.W.Frag) (ct : CT) (m : List Addr) (ah : Hs) (H : Hp) (σ : Lo) (σV : St) : Prop where
  len : σ.length = σV.length
  at_ : ∀ (i : Nat) x, σ[i]? = some (some x) → ∃ v, σV[i]? = some (some v) ∧ VlR K ct m ah H x v
section
variable {K : PySem.W.Frag} {ct : CT} {m m' : List Addr} {ah ah' : Hs} {H H' : Hp}
theorem VlR.ext (e : Ext m ah H m' ah' H') {x v} (h : VlR K ct m ah H x v) : VlR K ct m' ah' H' x v := by
  cases x with
  | d x => exact DR.mono e.kp h
  | r k => obtain ⟨a, h1, h2⟩ := h; exact ⟨a, e.at h1, h2⟩
theorem VlRs.ext (e : Ext m ah H m' ah' H') : ∀ {xs vs}, VlRs K ct m ah H xs vs → VlRs K ct m' ah' H' xs vs
  | _, _, .nil => .nil
  | _, _, .cons r t => .cons (r.ext e) (VlRs.ext e t)
theorem VlRs.length : ∀ {d v}, VlRs K ct m ah H d v → d.length = v.length
  | _, _, .nil => rfl
  | _, _, .cons _ t => congrArg (· + 1) (VlRs.length t)
theorem LR.ext (e : Ext m ah H m' ah' H') {σ σV} (h : LR K ct m ah H σ σV) : LR K ct m' ah' H' σ σV :=
  ⟨h.len, fun i x hx => let ⟨v, h1, h2⟩ := h.at_ i x hx; ⟨v, h1, h2.ext e⟩⟩
theorem LR.set {σ σV} (h : LR K ct m ah H σ σV) {x v} (r : VlR K ct m ah H x v) (i : Nat) : LR K ct m ah H (σ.set i (some x)) (σV.set i (some v)) := by
  refine ⟨by rw [List.length_set, List.length_set, h.len], fun j y hy => ?_⟩
  by_cases e : i = j
  · subst e
    by_cases hi : i < σ.length
    · rw [List.getElem?_set_self hi] at hy
      cases hy
      exact ⟨v, by rw [List.getElem?_set_self (by rw [← h.len]; exact hi)], r⟩
    · rw [List.getElem?_eq_none (by rw [List.length_set]; omega)] at hy; cases hy
  · rw [List.getElem?_set_ne e] at hy ⊢
    exact h.at_ j y hy
theorem LR.forget {σ σ' σV} (h : LR K ct m ah H σ σV) (hl : σ'.length = σ.length) (hw : ∀ (i : Nat) x, σ'[i]? = some (some x) → σ[i]? = some (some x)) : LR K ct m ah H σ' σV :=
  ⟨hl.trans h.len, fun i x hx => h.at_ i x (hw i x hx)⟩

/-! ### how states go on -/
theorem HR.there (h : HR K ct m ah H) {k : Nat} {a : Addr} (e : m[k]? = some a) : ∃ o u, ah[k]? = some o ∧ H a = some u ∧ OR K ct (Sf m ah) H o u := by
  have hk : k < ah.length := by rw [← h.len]; exact (List.getElem?_eq_some_iff.mp e).1
  obtain ⟨u, h1, h2⟩ := h.ob k a ah[k] e (List.getElem?_eq_getElem hk)
  exact ⟨_, u, List.getElem?_eq_getElem hk, h1, h2⟩
theorem HR.fresh (h : HR K ct m ah H) {p : Addr} (hp : H p = none) (k : Nat) : m[k]? ≠ some p := fun e => by
  obtain ⟨_, u, _, h1, _⟩ := h.there e
  rw [hp] at h1; cases h1
theorem HR.freshS (h : HR K ct m ah H) {p : Addr} (hp : H p = none) : Sf m ah p := fun ⟨k, _, e, _⟩ => h.fresh hp k e
/-- H goes on at new places alone -/
theorem HR.more (h : HR K ct m ah H) (hH : ∀ a o, H a = some o → H' a = some o) : HR K ct m ah H' ∧ Ext m ah H m ah H' := by
  have kp : Kp (Sf m ah) H (Sf m ah) H' := fun a o e s => ⟨hH a o e, s⟩
  refine ⟨⟨h.len, h.inj, fun k a o e1 e2 => ?_⟩, ⟨⟨[], by simp⟩, kp⟩⟩
  obtain ⟨u, h1, h2⟩ := h.ob k a o e1 e2
  exact ⟨u, hH _ _ h1, h2.mono kp⟩
theorem upd_more {p : Addr} {o : HO} (hp : H p = none) : ∀ a u, H a = some u → upd H p o a = some u := fun a u e => by
  rw [upd_ne (ne_of_none e hp)]; exact e
/-- a new object, never to be changed -/
theorem HR.pure (h : HR K ct m ah H) {p : Addr} {o : HO} (hp : H p = none) : HR K ct m ah (upd H p o) ∧ Ext m ah H m ah (upd H p o) ∧ Sf m ah p :=
  ⟨(h.more (upd_more hp)).1, (h.more (upd_more hp)).2, h.freshS hp⟩
/-- a new object, to be changed -/
theorem HR.alloc (h : HR K ct m ah H) {p : Addr} {o : O} {u : HO} (hp : H p = none) (ho : OR K ct (Sf m ah) H o u) :
    HR K ct (m ++ [p]) (ah ++ [o]) (upd H p u) ∧ Ext m ah H (m ++ [p]) (ah ++ [o]) (upd H p u) := by
  have lv : ∀ a, Lv (m ++ [p]) (ah ++ [o]) a → Lv m ah a ∨ a = p := fun a ⟨k, q, e1, e2, e3⟩ => by
    by_cases hk : k < m.length
    · rw [List.getElem?_append_left hk] at e1
      rw [List.getElem?_append_left (by rw [← h.len]; exact hk)] at e2
      exact .inl ⟨k, q, e1, e2, e3⟩
    · rw [List.getElem?_append_right (by omega)] at e1
      have := (List.getElem?_eq_some_iff.mp e1).1
      have : k - m.length = 0 := by simpa using this
      rw [this] at e1
      exact .inr (by simpa using e1.symm)
  have kp : Kp (Sf m ah) H (Sf (m ++ [p]) (ah ++ [o])) (upd H p u) := fun a q e s =>
    ⟨upd_more hp a q e, fun l => (lv a l).elim s fun z => ne_of_none e hp z⟩
  refine ⟨⟨by rw [List.length_append, List.length_append, h.len]; rfl, fun i j a e1 e2 => ?_, fun k a q e1 e2 => ?_⟩, ⟨⟨[p], rfl⟩, kp⟩⟩
  · by_cases hi : i < m.length
    · rw [List.getElem?_append_left hi] at e1
      by_cases hj : j < m.length
      · rw [List.getElem?_append_left hj] at e2
        exact h.inj i j a e1 e2
      · rw [List.getElem?_append_right (by omega)] at e2
        have hz : a = p := by
          have := (List.getElem?_eq_some_iff.mp e2).1
          have z : j - m.length = 0 := by simpa using this
          rw [z] at e2; simpa using e2.symm
        subst hz
        exact absurd e1 (h.fresh hp i)
    · rw [List.getElem?_append_right (by omega)] at e1
      have hz : a = p ∧ i = m.length := by
        have := (List.getElem?_eq_some_iff.mp e1).1
        have z : i - m.length = 0 := by simpa using this
        rw [z] at e1; exact ⟨by simpa using e1.symm, by omega⟩
      obtain ⟨rfl, rfl⟩ := hz
      by_cases hj : j < m.length
      · rw [List.getElem?_append_left hj] at e2
        exact absurd e2 (h.fresh hp j)
      · have := (List.getElem?_eq_some_iff.mp e2).1
        rw [List.length_append, List.length_singleton] at this
        omega
  · by_cases hk : k < m.length
    · rw [List.getElem?_append_left hk] at e1
      rw [List.getElem?_append_left (by rw [← h.len]; exact hk)] at e2
      obtain ⟨v, h1, h2⟩ := h.ob k a q e1 e2
      exact ⟨v, upd_more hp _ _ h1, h2.mono kp⟩
    · rw [List.getElem?_append_right (by omega)] at e1
      rw [List.getElem?_append_right (by rw [← h.len]; omega)] at e2
      have z : k - m.length = 0 := by
        have := (List.getElem?_eq_some_iff.mp e1).1
        simpa using this
      rw [z] at e1
      rw [← h.len, z] at e2
      have ea : a = p := by simpa using e1.symm
      have eo : q = o := by simpa using e2.symm
      subst ea eo
      exact ⟨u, upd_same, ho.mono kp⟩
/-- an object changed -/
theorem HR.write (h : HR K ct m ah H) {k : Nat} {a : Addr} {o o' : O} {u' : HO} (e1 : m[k]? = some a) (e2 : ah[k]? = some o) (nd : o ≠ .dead) (ho : OR K ct (Sf m ah) H o' u') :
    HR K ct m (ah.set k o') (upd H a u') ∧ Ext m ah H m (ah.set k o') (upd H a u') := by
  have la : Lv m ah a := ⟨k, o, e1, e2, nd⟩
  have hk : k < ah.length := (List.getElem?_eq_some_iff.mp e2).1
  have kp : Kp (Sf m ah) H (Sf m (ah.set k o')) (upd H a u') := fun b q e s => by
    have hb : b ≠ a := fun z => s (z ▸ la)
    refine ⟨by rw [upd_ne hb]; exact e, fun ⟨j, q', f1, f2, f3⟩ => ?_⟩
    by_cases hj : k = j
    · subst hj; rw [e1] at f1; cases f1; exact hb rfl
    · rw [List.getElem?_set_ne hj] at f2
      exact s ⟨j, q', f1, f2, f3⟩
  refine ⟨⟨by rw [List.length_set]; exact h.len, h.inj, fun j b q f1 f2 => ?_⟩, ⟨⟨[], by simp⟩, kp⟩⟩
  by_cases hj : k = j
  · subst hj
    rw [List.getElem?_set_self hk] at f2
    cases f2
    rw [e1] at f1; cases f1
    exact ⟨u', upd_same, ho.mono kp⟩
  · rw [List.getElem?_set_ne hj] at f2
    obtain ⟨v, h1, h2⟩ := h.ob j b q f1 f2
    have hb : b ≠ a := fun z => by subst z; exact hj (h.inj _ _ _ e1 f1)
    exact ⟨v, by rw [upd_ne hb]; exact h1, h2.mono kp⟩
/-- an object that is never changed from here on -/
theorem HR.freeze (h : HR K ct m ah H) {k : Nat} {a : Addr} (e1 : m[k]? = some a) :
    HR K ct m (ah.set k .dead) H ∧ Ext m ah H m (ah.set k .dead) H ∧ Sf m (ah.set k .dead) a := by
  obtain ⟨o, u, e2, _, _⟩ := h.there e1
  have hk : k < ah.length := (List.getElem?_eq_some_iff.mp e2).1
  have lv : ∀ b, Lv m (ah.set k .dead) b → Lv m ah b ∧ b ≠ a := fun b ⟨j, q', f1, f2, f3⟩ => by
    by_cases hj : k = j
    · subst hj; rw [List.getElem?_set_self hk] at f2; cases f2; exact absurd rfl f3
    · rw [List.getElem?_set_ne hj] at f2
      exact ⟨⟨j, q', f1, f2, f3⟩, fun z => by subst z; exact hj (h.inj _ _ _ e1 f1)⟩
  have kp : Kp (Sf m ah) H (Sf m (ah.set k .dead)) H := fun b q e s => ⟨e, fun l => s (lv b l).1⟩
  refine ⟨⟨by rw [List.length_set]; exact h.len, h.inj, fun j b q f1 f2 => ?_⟩, ⟨⟨[], by simp⟩, kp⟩, fun l => (lv a l).2 rfl⟩
  by_cases hj : k = j
  · subst hj
    rw [List.getElem?_set_self hk] at f2
    cases f2
    obtain ⟨v, h1, h2⟩ := h.ob k b o f1 e2
    exact ⟨v, h1, .dead v⟩
  · rw [List.getElem?_set_ne hj] at f2
    obtain ⟨v, h1, h2⟩ := h.ob j b q f1 f2
    exact ⟨v, h1, h2.mono kp⟩
/-- objects forgotten -/
theorem HR.trim (h : HR K ct m ah H) (n : Nat) : HR K ct (m.take n) (ah.take n) H ∧ Kp (Sf m ah) H (Sf (m.take n) (ah.take n)) H := by
  have lv : ∀ b, Lv (m.take n) (ah.take n) b → Lv m ah b := fun b ⟨j, q', f1, f2, f3⟩ => by
    rw [List.getElem?_take] at f1 f2
    split at f1
    · rename_i hj
      rw [if_pos hj] at f2
      exact ⟨j, q', f1, f2, f3⟩
    · cases f1
  have kp : Kp (Sf m ah) H (Sf (m.take n) (ah.take n)) H := fun b q e s => ⟨e, fun l => s (lv b l)⟩
  refine ⟨⟨by rw [List.length_take, List.length_take, h.len], fun i j a f1 f2 => ?_, fun j b q f1 f2 => ?_⟩, kp⟩
  · rw [List.getElem?_take] at f1 f2
    split at f1
    · split at f2
      · exact h.inj _ _ _ f1 f2
      · cases f2
    · cases f1
  · rw [List.getElem?_take] at f1 f2
    split at f1
    · rename_i hj
      rw [if_pos hj] at f2
      obtain ⟨v, h1, h2⟩ := h.ob j b q f1 f2
      exact ⟨v, h1, h2.mono kp⟩
    · cases f1
/-- back to what stood ahead -/
theorem Ext.trimmed (h : HR K ct m' ah' H') (e : Ext m ah H m' ah' H') : Ext m ah H m (ah'.take m.length) H' := by
  obtain ⟨t, rfl⟩ := e.pre
  refine ⟨⟨[], by simp⟩, e.kp.trans ?_⟩
  have := (h.trim m.length).2
  rw [List.take_left'] at this
  · exact this
  · rfl
theorem HR.trimmed (h : HR K ct m' ah' H') (e : Ext m ah H m' ah' H') : HR K ct m (ah'.take m.length) H' := by
  obtain ⟨t, rfl⟩ := e.pre
  have := (h.trim m.length).1
  rw [List.take_left'] at this
  · exact this
  · rfl
end
end Mi

/-! Mi1: what an expression means over data; the judgements -/
namespace Mi
open PySem PySem.Spec L2

abbrev WX' := WX
/-- an exception as it lies in the heap -/
def XR (K : PySem.W.Frag) (ct : CT) (S : Addr → Prop) (H : Hp) (e : Ex) (cls : Value) (d : Option Addr) : Prop :=
  cls = .ref (ct.ca e.C) ∧ ∃ vs, DRf K ct S H e.fs vs ∧ (e.fs = [] ∨ ∃ dx, d = some dx ∧ H dx = some (.xd vs) ∧ S dx)

/-- what is wanted of a result -/
def Po {α β : Type} (K : PySem.W.Frag) (ct : CT) (W : WX) (σV : L2.St) (R : List Addr → Hs → Hp → α → β → Prop) (m : List Addr) (ah : Hs) (H : Hp) (r : Res α) (Q : β → Hp → Prop) : Prop :=
  match r with
  | .ok x h => ∀ m' H' v, HR K ct m' h H' → Ext m ah H m' h H' → R m' h H' x v → Q v H'
  | .exc e h => ∀ m' H' cls d, HR K ct m' h H' → Ext m ah H m' h H' → XR K ct (Sf m' h) H' e cls d → W cls d σV H'
  | .bad => False
def rb {α β : Type} (r : Res α) (f : α → Hs → Res β) : Res β := match r with
  | .ok a h => f a h
  | .exc e h => .exc e h
  | .bad => .bad
@[simp] theorem rb_ok {α β : Type} (a : α) (h : Hs) (f : α → Hs → Res β) : rb (.ok a h) f = f a h := rfl
@[simp] theorem rb_exc {α β : Type} (e : Ex) (h : Hs) (f : α → Hs → Res β) : rb (.exc e h) f = .exc e h := rfl
@[simp] theorem rb_bad {α β : Type} (f : α → Hs → Res β) : rb .bad f = .bad := rfl
section
variable {α β γ δ : Type} {K : PySem.W.Frag} {ct : CT} {W : WX} {σV : L2.St} {m m' : List Addr} {ah ah' : Hs} {H H' : Hp}
theorem Po.ext {R : List Addr → Hs → Hp → α → β → Prop} {r : Res α} {Q : β → Hp → Prop} (p : Po K ct W σV R m ah H r Q) (e : Ext m ah H m' ah' H') : Po K ct W σV R m' ah' H' r Q := by
  cases r with
  | ok x h => exact fun m2 H2 v h2 e2 r2 => p m2 H2 v h2 (e.trans e2) r2
  | exc x h => exact fun m2 H2 c d h2 e2 r2 => p m2 H2 c d h2 (e.trans e2) r2
  | bad => exact p
theorem Po.imp {R : List Addr → Hs → Hp → α → β → Prop} {r : Res α} {Q Q' : β → Hp → Prop} (p : Po K ct W σV R m ah H r Q) (hq : ∀ v H', Q v H' → Q' v H') : Po K ct W σV R m ah H r Q' := by
  cases r with
  | ok x h => exact fun m2 H2 v h2 e2 r2 => hq _ _ (p m2 H2 v h2 e2 r2)
  | exc x h => exact p
  | bad => exact p
/-- what is told of a value on the way -/
def Mid (K : PySem.W.Frag) (ct : CT) (m : List Addr) (ah : Hs) (H : Hp) (R : List Addr → Hs → Hp → α → β → Prop) (P : List Addr → Hs → Hp → α → Prop) (v : β) (H1 : Hp) : Prop :=
  ∃ m1 h1 x, HR K ct m1 h1 H1 ∧ Ext m ah H m1 h1 H1 ∧ R m1 h1 H1 x v ∧ P m1 h1 H1 x
theorem Po.bind {R : List Addr → Hs → Hp → α → β → Prop} {T : List Addr → Hs → Hp → γ → δ → Prop} {r : Res α} {g : α → Hs → Res γ} {Q : δ → Hp → Prop} (p : Po K ct W σV T m ah H (rb r g) Q) :
    Po K ct W σV R m ah H r (Mid K ct m ah H R fun m1 h1 H1 x => Po K ct W σV T m1 h1 H1 (g x h1) Q) := by
  cases r with
  | ok x h => exact fun m2 H2 v h2 e2 r2 => ⟨m2, h, x, h2, e2, r2, Po.ext (r := g x h) p e2⟩
  | exc x h => exact p
  | bad => exact p
end

abbrev SemE := Lo → Hs → Res Vl
abbrev SemT := Lo → Hs → Res Bool
abbrev SemA := Lo → Hs → Res (List Vl)
section
variable (K : PySem.W.Frag) (ct : CT) (W : WX)
def rdE (f : SemE) : TE := fun σV H Q => ∃ m ah σ, HR K ct m ah H ∧ LR K ct m ah H σ σV ∧ Po K ct W σV (VlR K ct) m ah H (f σ ah) Q
def rdT (f : SemT) : TT := fun σV H Q => ∃ m ah σ, HR K ct m ah H ∧ LR K ct m ah H σ σV ∧ Po K ct W σV (fun _ _ _ b c => b = c) m ah H (f σ ah) Q
def rdA (f : SemA) : TA := fun σV H Q => ∃ m ah σ, HR K ct m ah H ∧ LR K ct m ah H σ σV ∧ Po K ct W σV (VlRs K ct) m ah H (f σ ah) Q
end
abbrev SE (X : Cx) (ct : CT) (W : WX) (e : Expr) (f : SemE) : Prop := PE X e (rdE X.K ct W f)
abbrev ST (X : Cx) (ct : CT) (W : WX) (e : Expr) (f : SemT) : Prop := PT X e (rdT X.K ct W f)
abbrev SA (X : Cx) (ct : CT) (W : WX) (es : List Expr) (f : SemA) : Prop := PA X es (rdA X.K ct W f)

theorem PE.imp {X : Cx} {e : Expr} {t t' : TE} (h : PE X e t) (i : ∀ σ H Q, t' σ H Q → t σ H Q) : PE X e t' := ⟨fun pins s σ H Q I q => h.run pins s σ H Q I (i _ _ _ q)⟩
theorem PT.imp {X : Cx} {e : Expr} {t t' : TT} (h : PT X e t) (i : ∀ σ H Q, t' σ H Q → t σ H Q) : PT X e t' := ⟨fun pins s σ H Q I q => h.run pins s σ H Q I (i _ _ _ q)⟩
theorem PW.imp {X : Cx} {e : Expr} {t t' : TT} (h : PW X e t) (i : ∀ σ H Q, t' σ H Q → t σ H Q) : PW X e t' := ⟨fun w pins s σ H Q I q => h.run w pins s σ H Q I (i _ _ _ q)⟩
theorem PA.imp {X : Cx} {e : List Expr} {t t' : TA} (h : PA X e t) (i : ∀ σ H Q, t' σ H Q → t σ H Q) : PA X e t' := ⟨fun pos pins s σ H Q I q => h.run pos pins s σ H Q I (i _ _ _ q)⟩
theorem PS.imp {X : Cx} {e : Stmt} {t t' : TS} (h : PS X e t) (i : ∀ D σ H, t' D σ H → t D σ H) : PS X e t' := ⟨fun pins s σ H Q I q => h.run pins s σ H Q I (i _ _ _ q)⟩
theorem PSs.imp {X : Cx} {e : List Stmt} {t t' : TS} (h : PSs X e t) (i : ∀ D σ H, t' D σ H → t D σ H) : PSs X e t' := ⟨fun pins s σ H Q I q => h.run pins s σ H Q I (i _ _ _ q)⟩

/-! ### names, constants -/
def eVar (i : Nat) : SemE := fun σ h => match σ[i]? with
  | some (some v) => .ok v h
  | _ => .bad
def eK (d : D) : SemE := fun _ h => .ok (.d d) h
section
variable {X : Cx} {ct : CT} {W : WX} {pos : Pos}
theorem se_var (i : Nat) {x : Str} (hN : X.N[i]? = some x := by rfl) (hv : Vis X.env.scope x := by first | exact Or.inl rfl | exact Or.inr (Or.inl rfl) | exact Or.inr (Or.inr rfl)) (hd : (x == ("__debug__" : Str)) = false := by decide)
    (hcd : (x == ("__classdict__" : Str)) = false := by decide) : SE X ct W (.Name x pos) (eVar i) :=
  PE.imp (pe_var hN hv hd hcd) fun σV H Q ⟨m, ah, σ, hr, lr, p⟩ => by
    unfold eVar at p
    cases e : σ[i]? with
    | none => rw [e] at p; exact p.elim
    | some o =>
      cases o with
      | none => rw [e] at p; exact p.elim
      | some x =>
        rw [e] at p
        obtain ⟨v, h1, h2⟩ := lr.at_ i x e
        exact ⟨v, h1, p m H v hr (Ext.refl _ _ _) h2⟩
theorem se_const {e : Expr} {v : V} {d : D} (h : PE X e (tC v)) (r : ∀ S H, DR X.K ct S H d v) : SE X ct W e (eK d) :=
  PE.imp h fun σV H Q ⟨m, ah, σ, hr, lr, p⟩ => p m H v hr (Ext.refl _ _ _) (r _ _)
theorem se_int {i : Int} {j} : SE X ct W (.Constant (.int i) j pos) (eK (.int i)) := se_const pe_int fun _ _ => .int i
theorem se_bl {b : Bool} {j} : SE X ct W (.Constant (.bool b) j pos) (eK (.bl b)) := se_const pe_bl fun _ _ => .bl b
theorem se_non {j} : SE X ct W (.Constant .none j pos) (eK .non) := se_const pe_non fun _ _ => .non
theorem se_str {x : Str} {j} : SE X ct W (.Constant (.str x) j pos) (eK (.str x)) := se_const pe_str fun _ _ => .str x
theorem se_globI {x : Str} {i : Int} {t : Tok} (hg : Gl X x) (hm : X.mg x = some (.int i t)) (hd : (x == ("__debug__" : Str)) = false := by decide) : SE X ct W (.Name x pos) (eK (.int i)) := se_const (pe_glob hg hm (v := .int i) ⟨_, rfl⟩ hd) fun _ _ => .int i
theorem se_globS {x : Str} {i : Str} {t : Tok} (hg : Gl X x) (hm : X.mg x = some (.str i t)) (hd : (x == ("__debug__" : Str)) = false := by decide) : SE X ct W (.Name x pos) (eK (.str i)) := se_const (pe_glob hg hm (v := .str i) ⟨_, rfl⟩ hd) fun _ _ => .str i
theorem se_globT {x : Str} {i : D} {a : Addr} (hg : Gl X x) (hm : X.mg x = some (.ref a)) (r : ∀ S H, DR X.K ct S H i (.ref a)) (hd : (x == ("__debug__" : Str)) = false := by decide) : SE X ct W (.Name x pos) (eK i) := se_const (pe_glob hg hm (v := .ref a) rfl hd) r
end

/-! ### operations on values -/
abbrev Op1 := Vl → Hs → Option (Vl × Hs)
abbrev Op2 := Vl → Vl → Hs → Option (Vl × Hs)
def ro (o : Option (Vl × Hs)) : Res Vl := match o with
  | some (x, h) => .ok x h
  | none => .bad
@[simp] theorem ro_some (x : Vl) (h : Hs) : ro (some (x, h)) = .ok x h := rfl
@[simp] theorem ro_none : ro none = .bad := rfl
def Pp (K : PySem.W.Frag) (ct : CT) (m : List Addr) (ah : Hs) (H : Hp) (o : Option (Vl × Hs)) (Q : VK) : Prop := match o with
  | some (x, h) => ∀ m' H' v, HR K ct m' h H' → Ext m ah H m' h H' → VlR K ct m' h H' x v → Q v H'
  | none => False
theorem Pp.of {K : PySem.W.Frag} {ct : CT} {W : WX} {σV : L2.St} {m : List Addr} {ah : Hs} {H : Hp} {o : Option (Vl × Hs)} {Q : VK} (p : Po K ct W σV (VlR K ct) m ah H (ro o) Q) : Pp K ct m ah H o Q := by
  cases o with
  | none => exact p
  | some x => exact p
/-- the state stays -/
theorem Pp.same {K : PySem.W.Frag} {ct : CT} {m : List Addr} {ah : Hs} {H : Hp} {x : Vl} {v : V} {Q : VK} (p : Pp K ct m ah H (some (x, ah)) Q) (h : HR K ct m ah H) (r : VlR K ct m ah H x v) : Q v H := p m H v h (Ext.refl _ _ _) r
/-- a new object that is never changed -/
theorem Pp.new {K : PySem.W.Frag} {ct : CT} {m : List Addr} {ah : Hs} {H : Hp} {x : D} {o : HO} {Q : VK} (p : Pp K ct m ah H (some (.d x, ah)) Q) (h : HR K ct m ah H)
    (r : ∀ a, H a = none → Kp (Sf m ah) H (Sf m ah) (upd H a o) → Sf m ah a → DR K ct (Sf m ah) (upd H a o) x (.ref a)) : ∀ a, H a = none → Q (.ref a) (upd H a o) := fun a ha =>
  p m _ _ (h.pure (o := o) ha).1 (h.pure (o := o) ha).2.1 (r a ha (h.pure (o := o) ha).2.1.kp (h.freshS ha))
def rOp (K : PySem.W.Frag) (ct : CT) (op : Op2) : R2 := fun x y H Q => ∃ m ah a b, HR K ct m ah H ∧ VlR K ct m ah H a x ∧ VlR K ct m ah H b y ∧ Pp K ct m ah H (op a b ah) Q
def rUn (K : PySem.W.Frag) (ct : CT) (op : Op1) : V → Hp → VK → Prop := fun x H Q => ∃ m ah a, HR K ct m ah H ∧ VlR K ct m ah H a x ∧ Pp K ct m ah H (op a ah) Q
def eBin (op : Op2) (f g : SemE) : SemE := fun σ h => rb (f σ h) fun x h1 => rb (g σ h1) fun y h2 => ro (op x y h2)
def eUn (op : Op1) (f : SemE) : SemE := fun σ h => rb (f σ h) fun x h1 => ro (op x h1)
section
variable {X : Cx} {ct : CT} {W : WX} {pos : Pos} {a b c : Expr} {f g k : SemE}
theorem rd_bin {op : Op2} {σV : L2.St} {H : Hp} {Q : VK} (h : rdE X.K ct W (eBin op f g) σV H Q) : tOp (rOp X.K ct op) (rdE X.K ct W f) (rdE X.K ct W g) σV H Q := by
  obtain ⟨m, ah, σ, hr, lr, p⟩ := h
  refine ⟨m, ah, σ, hr, lr, (Po.bind (R := VlR X.K ct) p).imp fun v H1 ⟨m1, h1, x, hr1, e1, r1, p1⟩ => ?_⟩
  refine ⟨m1, h1, σ, hr1, lr.ext e1, (Po.bind (R := VlR X.K ct) p1).imp fun u H2 ⟨m2, h2, y, hr2, e2, r2, p2⟩ => ?_⟩
  exact ⟨m2, h2, x, y, hr2, r1.ext e2, r2, Pp.of p2⟩
theorem rd_un {op : Op1} {σV : L2.St} {H : Hp} {Q : VK} (h : rdE X.K ct W (eUn op f) σV H Q) : tUn (rUn X.K ct op) (rdE X.K ct W f) σV H Q := by
  obtain ⟨m, ah, σ, hr, lr, p⟩ := h
  refine ⟨m, ah, σ, hr, lr, (Po.bind (R := VlR X.K ct) p).imp fun v H1 ⟨m1, h1, x, hr1, e1, r1, p1⟩ => ?_⟩
  exact ⟨m1, h1, x, hr1, r1, Pp.of p1⟩
theorem se_bin {op : Operator} {o : Op2} (ho : OpR X (binaryOp op) (rOp X.K ct o)) (ha : SE X ct W a f) (hb : SE X ct W b g) : SE X ct W (.BinOp a op b pos) (eBin o f g) := PE.imp (pe_op ho ha hb) fun _ _ _ h => rd_bin h
theorem se_un {op : UnaryOp} {o : Op1} (ho : UnR X (unaryOp op) (rUn X.K ct o)) (ha : SE X ct W a f) : SE X ct W (.UnaryOp op a pos) (eUn o f) := PE.imp (pe_un ho ha) fun _ _ _ h => rd_un h
theorem se_cmp {op : CmpOp} {o : Op2} (ho : OpR X (compareOp op) (rOp X.K ct o)) (ha : SE X ct W a f) (hb : SE X ct W b g) (hm : behindInMarks op b = false := by first | exact nomark _ | rfl | with_unfolding_all rfl) : SE X ct W (.Compare a [op] [b] pos) (eBin o f g) :=
  PE.imp (pe_cmpR ho ha hb hm) fun _ _ _ h => rd_bin h
theorem se_ix {o : Op2} (ho : IxR X (rOp X.K ct o)) (ha : SE X ct W a f) (hb : SE X ct W b g) (hs : PlainIx b := by exact fun _ _ => rfl) : SE X ct W (.Subscript a b pos) (eBin o f g) := PE.imp (pe_ix ho ha hb hs) fun _ _ _ h => rd_bin h
end
theorem OpR.imp {X : Cx} {f : Value → Value → Sem Value} {r r' : R2} (h : OpR X f r) (i : ∀ x y H Q, r' x y H Q → r x y H Q) : OpR X f r' := fun pins s σ H x y v u Q I rx ry q => h pins s σ H x y v u Q I rx ry (i _ _ _ _ q)
theorem UnR.imp {X : Cx} {f : Value → Sem Value} {r r' : V → Hp → VK → Prop} (h : UnR X f r) (i : ∀ x H Q, r' x H Q → r x H Q) : UnR X f r' := fun pins s σ H x v Q I rx q => h pins s σ H x v Q I rx (i _ _ _ q)
theorem IxR.imp {X : Cx} {r r' : R2} (h : IxR X r) (i : ∀ x y H Q, r' x y H Q → r x y H Q) : IxR X r' := fun a b pins s σ H x y v u Q I rx ry q => h a b pins s σ H x y v u Q I rx ry (i _ _ _ _ q)
theorem MtR.imp {X : Cx} {id : String} {r r' : V → List V → Hp → VK → Prop} (h : MtR X id r) (i : ∀ x xs H Q, r' x xs H Q → r x xs H Q) : MtR X id r' := fun pins s σ H x xs v us Q I rx rs q => h pins s σ H x xs v us Q I rx rs (i _ _ _ _ q)
theorem SlR.imp {X : Cx} {r r' : V → Option Int → Option Int → Hp → VK → Prop} (h : SlR X r) (i : ∀ x lo hi H Q, r' x lo hi H Q → r x lo hi H Q) : SlR X r' := fun pins s σ H x v vl vu lo hi sl Q I rx hs p1 p2 q => h pins s σ H x v vl vu lo hi sl Q I rx hs p1 p2 (i _ _ _ _ _ q)
theorem CallR.imp {X : Cx} {f : Value} {r r' : List V → Hp → VK → Prop} (h : CallR X f r) (i : ∀ x H Q, r' x H Q → r x H Q) : CallR X f r' := fun pins s σ H x v Q I rx q => h pins s σ H x v Q I rx (i _ _ _ q)

/-- the pure list or tuple behind a value -/
def seqOf (v : Vl) (h : Hs) : Option (List D) := match v with
  | .d (.tup xs) => some xs
  | .d (.lv xs) => some xs
  | .r k => (match h[k]? with
    | some (.lst xs) => some xs
    | _ => none)
  | _ => none
def lstOf (v : Vl) (h : Hs) : Option (List D) := match v with
  | .d (.lv xs) => some xs
  | .r k => (match h[k]? with
    | some (.lst xs) => some xs
    | _ => none)
  | _ => none
section
variable {K : PySem.W.Frag} {ct : CT} {m : List Addr} {ah : Hs} {H : Hp}
theorem HR.lstK (h : HR K ct m ah H) {k : Nat} {xs : List D} (e : ah[k]? = some (.lst xs)) {v : V} (r : VlR K ct m ah H (.r k) v) : ∃ a vs, m[k]? = some a ∧ v = .ref a ∧ H a = some (.lst vs) ∧ DRs K ct (Sf m ah) H xs vs := by
  obtain ⟨a, h1, rfl⟩ := r
  obtain ⟨u, h2, h3⟩ := h.ob k a _ h1 e
  cases h3 with
  | lst r => exact ⟨a, _, h1, rfl, h2, r⟩
theorem lst_of (h : HR K ct m ah H) {x : Vl} {xs : List D} {v : V} (e : lstOf x ah = some xs) (r : VlR K ct m ah H x v) : ∃ a vs, v = .ref a ∧ H a = some (.lst vs) ∧ DRs K ct (Sf m ah) H xs vs := by
  unfold lstOf at e
  split at e
  · cases e
    cases r with
    | lv h1 _ h2 => exact ⟨_, _, rfl, h1, h2⟩
  · rename_i k
    split at e
    · rename_i ys hk
      cases e
      obtain ⟨a, vs, _, rfl, h1, h2⟩ := h.lstK hk r
      exact ⟨a, vs, rfl, h1, h2⟩
    · cases e
  · cases e
theorem tup_of {xs : List D} {v : V} {S : Addr → Prop} (r : DR K ct S H (.tup xs) v) : ∃ a vs, v = .ref a ∧ SqT K H a vs ∧ DRs K ct S H xs vs := by
  cases r with
  | tup h1 h2 => exact ⟨_, _, rfl, h1.imp (fun z => z.1) id, h2⟩
theorem seq_of (h : HR K ct m ah H) {x : Vl} {xs : List D} {v : V} (e : seqOf x ah = some xs) (r : VlR K ct m ah H x v) : ∃ a vs, v = .ref a ∧ (SqL K H a vs ∨ SqT K H a vs) ∧ DRs K ct (Sf m ah) H xs vs := by
  unfold seqOf at e
  split at e
  · cases e
    obtain ⟨a, vs, rfl, h1, h2⟩ := tup_of r
    exact ⟨a, vs, rfl, .inr h1, h2⟩
  · cases e
    cases r with
    | lv h1 _ h2 => exact ⟨_, _, rfl, .inl (.of h1), h2⟩
  · rename_i k
    split at e
    · rename_i ys hk
      cases e
      obtain ⟨a, vs, _, rfl, h1, h2⟩ := h.lstK hk r
      exact ⟨a, vs, rfl, .inl (.of h1), h2⟩
    · cases e
  · cases e
theorem new_tup {S : Addr → Prop} {xs : List D} {vs : List V} {a : Addr} (r : DRs K ct S H xs vs) (k : Kp S H S (upd H a (.tup vs))) (s : S a) : DR K ct S (upd H a (.tup vs)) (.tup xs) (.ref a) := .tup (.inl ⟨.inl upd_same, s⟩) (r.mono k)
theorem new_lv {S : Addr → Prop} {xs : List D} {vs : List V} {a : Addr} (r : DRs K ct S H xs vs) (k : Kp S H S (upd H a (.lst vs))) (s : S a) : DR K ct S (upd H a (.lst vs)) (.lv xs) (.ref a) := .lv upd_same s (r.mono k)
end
end Mi

/-! Mi2: the operations -/
namespace Mi
open PySem PySem.Spec L2

/-! ### data as the library compares it -/
mutual
def D.pd : D → PyData
  | .non => .none | .bl b => .bool b | .int i => .int i | .str x => .str x
  | .tup xs => .tuple (D.pds xs) | .lv xs => .list (D.pds xs)
  | .scr _ => .dict [] | .dk _ => .dict [] | .dt _ => .dict [] | .ins _ _ => .dict []
def D.pds : List D → List PyData
  | [] => []
  | x :: xs => D.pd x :: D.pds xs
end
@[simp] theorem pds_eq_map : ∀ xs : List D, D.pds xs = xs.map D.pd
  | [] => by simp [D.pds]
  | x :: xs => by simp [D.pds, pds_eq_map xs]
def viewD (v : Vl) (h : Hs) : Option D := match v with
  | .d x => some x
  | .r k => (match h[k]? with
    | some (.lst xs) => some (.lv xs)
    | _ => none)
def shp (d : D) : Bool := SeqAt.shaped d.pd
section
variable {K : PySem.W.Frag} {ct : CT} {S : Addr → Prop} {m : List Addr} {ah : Hs} {H : Hp}
theorem canLayAll0_mem {d : D} : ∀ {xs : List D}, PyData.canLayAll0 (D.pds xs) = true → d ∈ xs → d.pd.canLay0 = true
  | x :: xs, h, hm => by
    simp only [D.pds, PyData.canLayAll0, Bool.and_eq_true] at h
    rcases List.mem_cons.mp hm with rfl | hm
    · exact h.1
    · exact canLayAll0_mem h.2 hm
mutual
theorem dp_of : ∀ {d : D} {v : V}, DR K ct S H d v → d.pd.canLay0 = true → Dp K H v d.pd
  | _, _, .non, _ => .non
  | _, _, .bl b, _ => .bl b
  | _, _, .int i, _ => .int i
  | _, _, .str x, _ => .str x
  | _, _, .tup h r, c => by
    simp only [D.pd, PyData.canLay0] at c ⊢
    exact .tup (h.imp (fun z => z.1) id) (dps_of r c)
  | _, _, .lv h s r, c => by
    simp only [D.pd, PyData.canLay0] at c ⊢
    exact .lst (.of h) (dps_of r c)
  | _, _, .scr h r, c => by simp [D.pd, PyData.canLay0] at c
  | _, _, .dk h s r, c => by simp [D.pd, PyData.canLay0] at c
  | _, _, .dt h s r, c => by simp [D.pd, PyData.canLay0] at c
  | _, _, .ins h s r, c => by simp [D.pd, PyData.canLay0] at c
theorem dps_of : ∀ {d : List D} {v : List V}, DRs K ct S H d v → PyData.canLayAll0 (D.pds d) = true → DpAll K H v (D.pds d)
  | _, _, .nil, _ => by simp only [D.pds]; exact .nil
  | _, _, .cons r t, c => by
    simp only [D.pds, PyData.canLayAll0, Bool.and_eq_true] at c ⊢
    exact .cons (dp_of r c.1) (dps_of t c.2)
end
theorem view_dp (h : HR K ct m ah H) {x : Vl} {d : D} {v : V} (e : viewD x ah = some d) (r : VlR K ct m ah H x v) (c : shp d = true) : Dp K H v d.pd := by
  have c' := SeqAt.canLay_of_shaped c
  unfold viewD at e
  split at e
  · cases e; exact dp_of r c'
  · rename_i k
    split at e
    · rename_i xs hk
      cases e
      obtain ⟨a, vs, _, rfl, h1, h2⟩ := h.lstK hk r
      simp only [D.pd, PyData.canLay0] at c' ⊢
      exact .lst (.of h1) (dps_of h2 c')
    · cases e
end

/-! ### the operations -/
def oAdd : Op2 := fun x y h => match x, y with
  | .d (.int i), .d (.int j) => some (.d (.int (i + j)), h)
  | .d (.str a), .d (.str b) => if a.length + b.length ≤ sizeLine then some (.d (.str (a ++ b)), h) else none
  | .d (.tup a), .d (.tup b) => if a.length + b.length ≤ sizeLine then some (.d (.tup (a ++ b)), h) else none
  | x, y => match lstOf x h, lstOf y h with
    | some a, some b => if a.length + b.length ≤ sizeLine then some (.d (.lv (a ++ b)), h) else none
    | _, _ => none
def oI (g : Int → Int → Int) (c : Int → Int → Bool) : Op2 := fun x y h => match x, y with
  | .d (.int i), .d (.int j) => if c i j then some (.d (.int (g i j)), h) else none
  | _, _ => none
def oSub : Op2 := oI (· - ·) fun _ _ => true
def cMulW (i j : Int) : Bool := decide (i.natAbs.log2 + j.natAbs.log2 < 1000000)
def cDivW (_ j : Int) : Bool := decide (0 < j) && decide (j.natAbs.log2 < 9000)
def cPow (i j : Int) : Bool := decide (0 ≤ j) && (decide (j ≤ 1000000) && decide (i.natAbs < 2 ^ 64))
def oMulI : Op2 := oI (· * ·) cMulW
def oMul : Op2 := fun x y h => match x, y with
  | .d (.int i), .d (.int j) => if cMulW i j then some (.d (.int (i * j)), h) else none
  | x, .d (.int k) => (match lstOf x h with
    | some a => if decide (-(2 ^ 63) ≤ k) && (decide (k < 2 ^ 63) && decide (a.length * k.toNat ≤ sizeLine)) then some (.d (.lv (List.replicate k.toNat a).flatten), h) else none
    | none => none)
  | _, _ => none
def oDiv : Op2 := oI (· / ·) cDivW
def oMod : Op2 := oI (· % ·) fun _ j => decide (0 < j)
def oPow : Op2 := oI (fun i j => i ^ j.toNat) cPow
def oAnd : Op2 := oI (fun i j => Builtin.bitAnd i j) fun _ _ => true
def oNeg : Op1 := fun x h => match x with
  | .d (.int i) => some (.d (.int (-i)), h)
  | _ => none
def oB (g : Int → Int → Bool) : Op2 := fun x y h => match x, y with
  | .d (.int i), .d (.int j) => some (.d (.bl (g i j)), h)
  | _, _ => none
def oLtS : Op2 := fun x y h => match x, y with
  | .d (.int i), .d (.int j) => some (.d (.bl (decide (i < j))), h)
  | .d (.str i), .d (.str j) => some (.d (.bl (decide (i.cps.toList < j.cps.toList))), h)
  | _, _ => none
def oLt : Op2 := oB fun i j => decide (i < j)
def oLe : Op2 := oB fun i j => decide (i ≤ j)
def oGt : Op2 := oB fun i j => decide (j < i)
def oGe : Op2 := oB fun i j => decide (j ≤ i)
def deq (a b : D) : Option Bool := if shp a && shp b then some (PyData.eqv a.pd b.pd) else none
def oEq : Op2 := fun x y h => match viewD x h, viewD y h with
  | some a, some b => (deq a b).map fun c => (.d (.bl c), h)
  | _, _ => none
def oNe : Op2 := fun x y h => match viewD x h, viewD y h with
  | some a, some b => (deq a b).map fun c => (.d (.bl (!c)), h)
  | _, _ => none
def isNon (x : Vl) : Bool := match x with
  | .d .non => true
  | _ => false
def oIsN : Op2 := fun x y h => match y with
  | .d .non => some (.d (.bl (isNon x)), h)
  | _ => none
def oNotN : Op2 := fun x y h => match y with
  | .d .non => some (.d (.bl (!isNon x)), h)
  | _ => none
/-- x in y: a list of data, a text -/
def inO (x y : Vl) (h : Hs) : Option Bool := match x, y with
  | .d (.str a), .d (.str b) => some (!(Builtin.Str.occurrences b a 0 b.length 1).isEmpty)
  | x, y => match viewD x h, lstOf y h with
    | some a, some ds => if shp a && shp (.lv ds) then some (ds.any fun z => PyData.eqv z.pd a.pd) else none
    | _, _ => none
def oIn : Op2 := fun x y h => (inO x y h).map fun c => (.d (.bl c), h)
def oNotIn : Op2 := fun x y h => (inO x y h).map fun c => (.d (.bl (!c)), h)
def oIx : Op2 := fun x y h => match x, y with
  | .d (.str z), .d (.int i) => if z.length ≤ sizeLine then (atI z.cps.toList i).map fun c => (.d (.str ⟨#[c]⟩), h) else none
  | x, .d (.int i) => (match seqOf x h with
    | some xs => (atI xs i).map fun d => (.d d, h)
    | none => none)
  | _, _ => none
def truO (x : Vl) (h : Hs) : Option Bool := match x with
  | .d .non => some false
  | .d (.bl b) => some b
  | .d (.int i) => some (i != 0)
  | .d (.str y) => if y.length ≤ sizeLine then some ((y.length : Int) != 0) else none
  | .d (.dk kvs) => some (!kvs.isEmpty)
  | .r k => (match h[k]? with
    | some (.lst xs) => some (!xs.isEmpty)
    | some (.dk kvs) => some (!kvs.isEmpty)
    | _ => none)
  | x => (match seqOf x h with
    | some xs => some (!xs.isEmpty)
    | none => none)
section
variable {X : Cx} {ct : CT}
theorem isEmpty_drs {K : PySem.W.Frag} {S : Addr → Prop} {H : Hp} {d : List D} {v : List V} (r : DRs K ct S H d v) : d.isEmpty = v.isEmpty := by
  cases r <;> rfl
theorem isEmpty_drk {K : PySem.W.Frag} {S : Addr → Prop} {H : Hp} {d : List (Key × D)} {v : List (Key × V)} (r : DRk K ct S H d v) : d.isEmpty = v.isEmpty := by
  cases r <;> rfl
theorem opI_sound {op : Operator} {g : Int → Int → Int} {C : Int → Int → Prop} {c : Int → Int → Bool} (ho : OpR X (binaryOp op) (rI C fun i j => .int (g i j))) (hc : ∀ i j, c i j = true → C i j) : OpR X (binaryOp op) (rOp X.K ct (oI g c)) :=
  OpR.imp ho fun x y H Q ⟨m, ah, a, b, hr, ra, rb, p⟩ => by
    unfold oI at p
    split at p
    · cases ra; cases rb
      split at p
      · rename_i hcc
        exact ⟨_, _, rfl, rfl, hc _ _ hcc, p.same hr (.int _)⟩
      · exact p.elim
    · exact p.elim
theorem op_ofI0 {f : Value → Value → Sem Value} {g : Int → Int → V} (h : OpR X f (rI0 g)) : OpR X f (rI (fun _ _ => True) g) := OpR.imp h fun x y H Q ⟨i, j, e1, e2, _, q⟩ => ⟨i, j, e1, e2, q⟩
theorem sub_sound : OpR X (binaryOp .Sub) (rOp X.K ct oSub) := opI_sound (op_ofI0 op_sub) fun _ _ _ => trivial
theorem mulI_sound : OpR X (binaryOp .Mult) (rOp X.K ct oMulI) := opI_sound op_mulW fun i j h => by unfold cMulW at h; unfold CMulW; exact of_decide_eq_true h
theorem div_sound : OpR X (binaryOp .FloorDiv) (rOp X.K ct oDiv) := opI_sound op_fdivW fun i j h => by unfold cDivW at h; exact ⟨of_decide_eq_true (Bool.and_eq_true_iff.mp h).1, of_decide_eq_true (Bool.and_eq_true_iff.mp h).2⟩
theorem mod_sound : OpR X (binaryOp .Mod) (rOp X.K ct oMod) := opI_sound op_mod fun i j h => by simpa using h
theorem pow_sound : OpR X (binaryOp .Pow) (rOp X.K ct oPow) := opI_sound op_pow fun i j h => by unfold cPow at h; simp only [Bool.and_eq_true, decide_eq_true_eq] at h; exact h
theorem and_sound : OpR X (binaryOp .BitAnd) (rOp X.K ct oAnd) := opI_sound (op_ofI0 op_and) fun _ _ _ => trivial
theorem mul_sound : OpR X (binaryOp .Mult) (rOp X.K ct oMul) := by
  refine OpR.imp (op_mulW.or op_rep) fun x y H Q ⟨m, ah, a, b, hr, ra, rb, p⟩ => ?_
  unfold oMul at p
  split at p
  · cases ra; cases rb
    split at p
    · rename_i hcc
      exact .inl ⟨_, _, rfl, rfl, by unfold cMulW at hcc; unfold CMulW; exact of_decide_eq_true hcc, p.same hr (.int _)⟩
    · exact p.elim
  · cases rb
    split at p
    · rename_i xs e
      obtain ⟨l, vs, rfl, h1, h2⟩ := lst_of hr e ra
      split at p
      · rename_i hc
        simp only [Bool.and_eq_true, decide_eq_true_eq] at hc
        refine .inr ⟨l, _, vs, rfl, rfl, h1, hc.1, hc.2.1, by rw [← h2.length]; exact hc.2.2, p.new hr fun a ha k s => new_lv ?_ k s⟩
        generalize Int.toNat _ = n
        induction n with
        | zero => exact .nil
        | succ n ih =>
          rw [List.replicate_succ, List.replicate_succ, List.flatten_cons, List.flatten_cons]
          exact h2.append ih
      · exact p.elim
    · exact p.elim
  · exact p.elim
theorem neg_sound : UnR X (unaryOp .USub) (rUn X.K ct oNeg) := UnR.imp un_neg fun x H Q ⟨m, ah, a, hr, ra, p⟩ => by
  unfold oNeg at p
  split at p
  · cases ra; exact ⟨_, rfl, p.same hr (.int _)⟩
  · exact p.elim
theorem opB_sound {op : CmpOp} {g : Int → Int → Bool} (ho : OpR X (compareOp op) (rI0 fun i j => .bl (g i j))) : OpR X (compareOp op) (rOp X.K ct (oB g)) :=
  OpR.imp ho fun x y H Q ⟨m, ah, a, b, hr, ra, rb, p⟩ => by
    unfold oB at p
    split at p
    · cases ra; cases rb
      exact ⟨_, _, rfl, rfl, p.same hr (.bl _)⟩
    · exact p.elim
theorem lt_sound : OpR X (compareOp .Lt) (rOp X.K ct oLt) := opB_sound op_lt
theorem le_sound : OpR X (compareOp .LtE) (rOp X.K ct oLe) := opB_sound op_le
theorem gt_sound : OpR X (compareOp .Gt) (rOp X.K ct oGt) := opB_sound op_gt
theorem ge_sound : OpR X (compareOp .GtE) (rOp X.K ct oGe) := opB_sound op_ge
theorem add_sound : OpR X (binaryOp .Add) (rOp X.K ct oAdd) := by
  refine OpR.imp (op_add.or (op_add_str.or (op_catA.or op_cat))) fun x y H Q ⟨m, ah, a, b, hr, ra, rb, p⟩ => ?_
  unfold oAdd at p
  split at p
  · cases ra; cases rb
    exact .inl ⟨_, _, rfl, rfl, p.same hr (.int _)⟩
  · cases ra; cases rb
    split at p
    · rename_i hc
      exact .inr (.inl ⟨_, _, rfl, rfl, hc, p.same hr (.str _)⟩)
    · exact p.elim
  · obtain ⟨l1, v1, rfl, h1, r1⟩ := tup_of ra
    obtain ⟨l2, v2, rfl, h2, r2⟩ := tup_of rb
    split at p
    · rename_i hc
      refine .inr (.inr (.inl ⟨l1, l2, v1, v2, rfl, rfl, h1, h2, by rw [← r1.length, ← r2.length]; exact hc, fun e => ?_, fun e1 e2 => ?_, fun _ _ => p.new hr fun a ha k s => new_tup (r1.append r2) k s⟩))
      · subst e
        cases r1
        exact p.same hr (by simpa using rb)
      · subst e2
        cases r2
        exact p.same hr (by simpa using ra)
    · exact p.elim
  · split at p
    · rename_i _ _ xs ys e1 e2
      obtain ⟨l1, v1, rfl, h1, r1⟩ := lst_of hr e1 ra
      obtain ⟨l2, v2, rfl, h2, r2⟩ := lst_of hr e2 rb
      split at p
      · rename_i hc
        exact .inr (.inr (.inr ⟨l1, l2, v1, v2, rfl, rfl, h1, h2, by rw [← r1.length, ← r2.length]; exact hc, p.new hr fun a ha k s => new_lv (r1.append r2) k s⟩))
      · exact p.elim
    · exact p.elim
theorem eq_sound (hu : X.A.units + 64 < cLine) : OpR X (compareOp .Eq) (rOp X.K ct oEq) := by
  refine OpR.imp (op_eqD hu) fun x y H Q ⟨m, ah, a, b, hr, ra, rb, p⟩ => ?_
  unfold oEq at p
  split at p
  · rename_i d e h1 h2
    unfold deq at p
    by_cases hc : (shp d && shp e) = true
    · rw [if_pos hc] at p
      have hc' := Bool.and_eq_true_iff.mp hc
      exact ⟨d.pd, e.pd, view_dp hr h1 ra hc'.1, view_dp hr h2 rb hc'.2, hc'.1, hc'.2, p.same hr (.bl _)⟩
    · rw [if_neg hc] at p; exact p.elim
  · exact p.elim
theorem ne_sound (hu : X.A.units + 64 < cLine) : OpR X (compareOp .NotEq) (rOp X.K ct oNe) := by
  refine OpR.imp (op_neD hu) fun x y H Q ⟨m, ah, a, b, hr, ra, rb, p⟩ => ?_
  unfold oNe at p
  split at p
  · rename_i d e h1 h2
    unfold deq at p
    by_cases hc : (shp d && shp e) = true
    · rw [if_pos hc] at p
      have hc' := Bool.and_eq_true_iff.mp hc
      exact ⟨d.pd, e.pd, view_dp hr h1 ra hc'.1, view_dp hr h2 rb hc'.2, hc'.1, hc'.2, p.same hr (.bl _)⟩
    · rw [if_neg hc] at p; exact p.elim
  · exact p.elim
theorem isNon_V {K : PySem.W.Frag} {m : List Addr} {ah : Hs} {H : Hp} {x : Vl} {v : V} (r : VlR K ct m ah H x v) : isNon x = decide (v = .non) := by
  cases x with
  | r k => obtain ⟨a, _, rfl⟩ := r; simp [isNon]
  | d x => cases r <;> simp [isNon]
theorem isN_sound : OpR X (compareOp .Is) (rOp X.K ct oIsN) := by
  refine OpR.imp op_isN fun x y H Q ⟨m, ah, a, b, hr, ra, rb, p⟩ => ?_
  unfold oIsN at p
  split at p
  · cases rb
    refine ⟨rfl, ?_⟩
    rw [isNon_V ra] at p
    exact p.same hr (.bl _)
  · exact p.elim
theorem notN_sound : OpR X (compareOp .IsNot) (rOp X.K ct oNotN) := by
  refine OpR.imp op_notN fun x y H Q ⟨m, ah, a, b, hr, ra, rb, p⟩ => ?_
  unfold oNotN at p
  split at p
  · cases rb
    refine ⟨rfl, ?_⟩
    rw [isNon_V ra] at p
    exact p.same hr (.bl _)
  · exact p.elim
theorem any_pds (a : PyData) : ∀ ds : List D, (D.pds ds).any (fun z => PyData.eqv z a) = ds.any fun z => PyData.eqv z.pd a
  | [] => by simp [D.pds]
  | d :: ds => by rw [D.pds, List.any_cons, List.any_cons, any_pds a ds]
theorem in_sound (hu : X.A.units + 65 < cLine) : OpR X (compareOp .In) (rOp X.K ct oIn) := by
  refine OpR.imp (op_in_str.or (op_inD hu)) fun x y H Q ⟨m, ah, a, b, hr, ra, rb, p⟩ => ?_
  unfold oIn inO at p
  split at p
  · cases ra; cases rb
    exact .inl ⟨_, _, rfl, rfl, p.same hr (.bl _)⟩
  · split at p
    · rename_i d ds h1 h2
      by_cases hc : (shp d && shp (.lv ds)) = true
      · rw [if_pos hc] at p
        have hc' := Bool.and_eq_true_iff.mp hc
        obtain ⟨l, vs, rfl, h3, r3⟩ := lst_of hr h2 rb
        have c2 := hc'.2
        unfold shp at c2
        simp only [D.pd] at c2
        have c3 := SeqAt.canLay_of_shaped c2
        simp only [PyData.canLay0] at c3
        refine .inr ⟨d.pd, D.pds ds, view_dp hr h1 ra hc'.1, .lst (.of h3) (dps_of r3 c3), hc'.1, c2, ?_⟩
        rw [any_pds]
        exact p.same hr (.bl _)
      · rw [if_neg hc] at p; exact p.elim
    · exact p.elim
theorem notIn_sound (hu : X.A.units + 65 < cLine) : OpR X (compareOp .NotIn) (rOp X.K ct oNotIn) := by
  refine OpR.imp (op_notIn_str.or (op_notInD hu)) fun x y H Q ⟨m, ah, a, b, hr, ra, rb, p⟩ => ?_
  unfold oNotIn inO at p
  split at p
  · cases ra; cases rb
    exact .inl ⟨_, _, rfl, rfl, p.same hr (.bl _)⟩
  · split at p
    · rename_i d ds h1 h2
      by_cases hc : (shp d && shp (.lv ds)) = true
      · rw [if_pos hc] at p
        have hc' := Bool.and_eq_true_iff.mp hc
        obtain ⟨l, vs, rfl, h3, r3⟩ := lst_of hr h2 rb
        have c2 := hc'.2
        unfold shp at c2
        simp only [D.pd] at c2
        have c3 := SeqAt.canLay_of_shaped c2
        simp only [PyData.canLay0] at c3
        refine .inr ⟨d.pd, D.pds ds, view_dp hr h1 ra hc'.1, .lst (.of h3) (dps_of r3 c3), hc'.1, c2, ?_⟩
        rw [any_pds]
        exact p.same hr (.bl _)
      · rw [if_neg hc] at p; exact p.elim
    · exact p.elim
theorem atI_drs {K : PySem.W.Frag} {S : Addr → Prop} {H : Hp} {d : List D} {v : List V} {i : Int} {x : D} (r : DRs K ct S H d v) (e : atI d i = some x) : ∃ y, atI v i = some y ∧ DR K ct S H x y := by
  unfold atI at e ⊢
  rw [← r.length]
  cases q : ixN d.length i with
  | none => rw [q] at e; cases e
  | some j =>
    rw [q] at e
    exact r.get e
theorem ix_sound : IxR X (rOp X.K ct oIx) := by
  refine IxR.imp ix_seq fun x y H Q ⟨m, ah, a, b, hr, ra, rb, p⟩ => ?_
  unfold oIx at p
  split at p
  · cases ra; cases rb
    split at p
    · rename_i hz
      generalize e : atI _ _ = q at p
      cases q with
      | none => exact p.elim
      | some c => exact .inr (.inr ⟨_, _, c, rfl, rfl, hz, e, p.same hr (.str _)⟩)
    · exact p.elim
  · cases rb
    split at p
    · rename_i xs e
      obtain ⟨l, vs, rfl, h1, r1⟩ := seq_of hr e ra
      generalize q : atI _ _ = z at p
      cases z with
      | none => exact p.elim
      | some d =>
        obtain ⟨y, h2, r2⟩ := atI_drs r1 q
        rcases h1 with h1 | h1
        · exact .inl ⟨l, vs, _, y, rfl, rfl, h1, h2, p.same hr r2⟩
        · exact .inr (.inl ⟨l, vs, _, y, rfl, rfl, h1, h2, p.same hr r2⟩)
    · exact p.elim
  · exact p.elim
/-- the truth of a value -/
theorem tru_of {K : PySem.W.Frag} {m : List Addr} {ah : Hs} {H : Hp} (hr : HR K ct m ah H) {x : Vl} {v : V} {b : Bool} (r : VlR K ct m ah H x v) (e : truO x ah = some b) : TruV K v H b := by
  unfold truO at e
  split at e
  · cases r; cases e; rfl
  · cases r; cases e; rfl
  · cases r; cases e; rfl
  · cases r
    split at e
    · rename_i hl
      cases e; exact ⟨hl, rfl⟩
    · cases e
  · cases e
    cases r with
    | dk h s t => exact .inr (.inr ⟨_, h, by rw [isEmpty_drk t]⟩)
  · rename_i k
    split at e
    · rename_i xs hk
      cases e
      obtain ⟨a, vs, _, rfl, h1, h2⟩ := hr.lstK hk r
      exact .inl ⟨vs, .of h1, by rw [isEmpty_drs h2]⟩
    · rename_i kvs hk
      cases e
      obtain ⟨a, h1, rfl⟩ := r
      obtain ⟨u, h2, h3⟩ := hr.ob k a _ h1 hk
      cases h3 with
      | dk t => exact .inr (.inr ⟨_, h2, by rw [isEmpty_drk t]⟩)
    · cases e
  · split at e
    · rename_i xs hx
      cases e
      obtain ⟨l, vs, rfl, h1, r1⟩ := seq_of hr hx r
      rw [isEmpty_drs r1]
      rcases h1 with h1 | h1
      · exact .inl ⟨vs, h1, rfl⟩
      · exact .inr (.inl ⟨vs, h1, rfl⟩)
    · cases e
end
end Mi

/-! Mi3: tests, argument lists, displays, slices, calls of built-in functions -/
namespace Mi
open PySem PySem.Spec L2

/-! ### tests -/
def tTru (f : SemE) : SemT := fun σ h => rb (f σ h) fun x h1 => match truO x h1 with
  | some b => .ok b h1
  | none => .bad
def tBl (f : SemE) : SemT := fun σ h => rb (f σ h) fun x h1 => match x with
  | .d (.bl b) => .ok b h1
  | _ => .bad
def tAn (f g : SemT) : SemT := fun σ h => rb (f σ h) fun b h1 => if b = true then g σ h1 else .ok false h1
def tOr' (f g : SemT) : SemT := fun σ h => rb (f σ h) fun b h1 => if b = true then .ok true h1 else g σ h1
def tNo (f : SemT) : SemT := fun σ h => rb (f σ h) fun b h1 => .ok (!b) h1
def eChain (o o' : Op2) (f g k : SemE) : SemE := fun σ h => rb (f σ h) fun x h1 => rb (g σ h1) fun y h2 => rb (ro (o x y h2)) fun z h3 => match z with
  | .d (.bl b) => if b = true then rb (k σ h3) fun w h4 => ro (o' y w h4) else .ok (.d (.bl false)) h3
  | _ => .bad
def eIf (t : SemT) (f g : SemE) : SemE := fun σ h => rb (t σ h) fun b h1 => if b = true then f σ h1 else g σ h1
def eAn (f g : SemE) : SemE := fun σ h => rb (f σ h) fun x h1 => match truO x h1 with
  | some b => if b = true then g σ h1 else .ok x h1
  | none => .bad
def eOr (f g : SemE) : SemE := fun σ h => rb (f σ h) fun x h1 => match truO x h1 with
  | some b => if b = true then .ok x h1 else g σ h1
  | none => .bad
def eNo (f : SemE) : SemE := fun σ h => rb (f σ h) fun x h1 => match truO x h1 with
  | some b => .ok (.d (.bl (!b))) h1
  | none => .bad
abbrev SW (X : Cx) (ct : CT) (W : WX) (e : Expr) (f : SemT) : Prop := PW X e (rdT X.K ct W f)
/-- the bool behind a value -/
theorem bl_of {K : PySem.W.Frag} {ct : CT} {m : List Addr} {ah : Hs} {H : Hp} {b : Bool} {v : V} (r : VlR K ct m ah H (.d (.bl b)) v) : v = .bl b := by
  cases r; rfl
section
variable {X : Cx} {ct : CT} {W : WX} {pos : Pos} {a b c : Expr} {f g k : SemE} {t u : SemT} {rest : List Expr}
theorem st_truth (ha : SE X ct W a f) (he : ∀ whole, isTrue a X.env whole = (do let v ← whole; standAt a.pos; holding [v] (truthy v)) := by intro _; rfl) : ST X ct W a (tTru f) :=
  PT.imp (pt_truth ha he) fun σV H Q ⟨m, ah, σ, hr, lr, p⟩ => ⟨m, ah, σ, hr, lr, (Po.bind (R := VlR X.K ct) p).imp fun v H1 ⟨m1, h1, x, hr1, e1, r1, p1⟩ => by
    dsimp only at p1
    cases e : truO x h1 with
    | none => rw [e] at p1; exact p1.elim
    | some k => rw [e] at p1; exact ⟨k, tru_of hr1 r1 e, p1 m1 H1 k hr1 (Ext.refl _ _ _) rfl⟩⟩
theorem tB_of {f : SemE} {σV : L2.St} {H : Hp} {Q : Bool → Hp → Prop} (h : rdT X.K ct W (tBl f) σV H Q) : rdE X.K ct W f σV H fun x H' => ∃ k, x = .bl k ∧ Q k H' := by
  obtain ⟨m, ah, σ, hr, lr, p⟩ := h
  refine ⟨m, ah, σ, hr, lr, (Po.bind (R := VlR X.K ct) p).imp fun v H1 ⟨m1, h1, x, hr1, e1, r1, p1⟩ => ?_⟩
  dsimp only at p1
  split at p1
  · rename_i b
    exact ⟨b, bl_of r1, p1 m1 H1 b hr1 (Ext.refl _ _ _) rfl⟩
  · exact p1.elim
theorem st_val (ha : SE X ct W a f) (he : ∀ whole, isTrue a X.env whole = (do let v ← whole; standAt a.pos; holding [v] (truthy v)) := by intro _; rfl) : ST X ct W a (tBl f) :=
  PT.imp (pt_val ha he) fun σV H Q h => tB_of h
theorem st_cmp {op : CmpOp} {o : Op2} (ho : OpR X (compareOp op) (rOp X.K ct o)) (ha : SE X ct W a f) (hb : SE X ct W b g) (hm : behindInMarks op b = false := by first | exact nomark _ | rfl | with_unfolding_all rfl) : ST X ct W (.Compare a [op] [b] pos) (tBl (eBin o f g)) :=
  PT.imp (pt_cmpR ho ha hb hm) fun σV H Q h => rd_bin (tB_of h)
theorem rd_chain {o o' : Op2} {σV : L2.St} {H : Hp} {Q : VK} (h : rdE X.K ct W (eChain o o' f g k) σV H Q) : tChain (rOp X.K ct o) (rOp X.K ct o') (rdE X.K ct W f) (rdE X.K ct W g) (rdE X.K ct W k) σV H Q := by
  obtain ⟨m, ah, σ, hr, lr, p⟩ := h
  refine ⟨m, ah, σ, hr, lr, (Po.bind (R := VlR X.K ct) p).imp fun v H1 ⟨m1, h1, x, hr1, e1, r1, p1⟩ => ?_⟩
  refine ⟨m1, h1, σ, hr1, lr.ext e1, (Po.bind (R := VlR X.K ct) p1).imp fun y H2 ⟨m2, h2, y', hr2, e2, r2, p2⟩ => ?_⟩
  refine ⟨m2, h2, x, y', hr2, r1.ext e2, r2, Pp.of (W := W) (σV := σV) ((Po.bind (R := VlR X.K ct) p2).imp fun z H3 ⟨m3, h3, z', hr3, e3, r3, p3⟩ => ?_)⟩
  dsimp only at p3
  split at p3
  · rename_i b
    refine ⟨b, bl_of r3, ?_⟩
    cases b with
    | false => exact p3 m3 H3 (.bl false) hr3 (Ext.refl _ _ _) (.bl false)
    | true =>
      refine ⟨m3, h3, σ, hr3, ((lr.ext e1).ext e2).ext e3, (Po.bind (R := VlR X.K ct) p3).imp fun w H4 ⟨m4, h4, w', hr4, e4, r4, p4⟩ => ?_⟩
      exact ⟨m4, h4, y', w', hr4, (r2.ext e3).ext e4, r4, Pp.of p4⟩
  · exact p3.elim
theorem se_chain {op op' : CmpOp} {o o' : Op2} (ho : OpR X (compareOp op) (rOp X.K ct o)) (ho' : OpR X (compareOp op') (rOp X.K ct o')) (ha : SE X ct W a f) (hb : SE X ct W b g) (hc : SE X ct W c k)
    (hm : lastMarks [op, op'] [b, c] = false := by with_unfolding_all rfl) : SE X ct W (.Compare a [op, op'] [b, c] pos) (eChain o o' f g k) := PE.imp (pe_chain ho ho' ha hb hc hm) fun _ _ _ h => rd_chain h
theorem st_chain {op op' : CmpOp} {o o' : Op2} (ho : OpR X (compareOp op) (rOp X.K ct o)) (ho' : OpR X (compareOp op') (rOp X.K ct o')) (ha : SE X ct W a f) (hb : SE X ct W b g) (hc : SE X ct W c k)
    (hm : lastMarks [op, op'] [b, c] = false := by with_unfolding_all rfl) : ST X ct W (.Compare a [op, op'] [b, c] pos) (tBl (eChain o o' f g k)) := PT.imp (pt_chain ho ho' ha hb hc hm) fun _ _ _ h => rd_chain (tB_of h)
theorem sw_and1 (ha : ST X ct W a t) : SW X ct W (.BoolOp .And [a] pos) t := pw_and1 ha
theorem sw_or1 (ha : ST X ct W a t) : SW X ct W (.BoolOp .Or [a] pos) t := pw_or1 ha
theorem sw_and (ha : ST X ct W a t) (hb : SW X ct W (.BoolOp .And (b :: rest) pos) u) : SW X ct W (.BoolOp .And (a :: b :: rest) pos) (tAn t u) :=
  PW.imp (pw_and ha hb) fun σV H Q ⟨m, ah, σ, hr, lr, p⟩ => ⟨m, ah, σ, hr, lr, (Po.bind (R := fun _ _ _ b c => b = c) p).imp fun v H1 ⟨m1, h1, x, hr1, e1, r1, p1⟩ => by
    subst r1
    dsimp only at p1
    cases x with
    | true => exact ⟨m1, h1, σ, hr1, lr.ext e1, p1⟩
    | false => exact p1 m1 H1 false hr1 (Ext.refl _ _ _) rfl⟩
theorem sw_or (ha : ST X ct W a t) (hb : SW X ct W (.BoolOp .Or (b :: rest) pos) u) : SW X ct W (.BoolOp .Or (a :: b :: rest) pos) (tOr' t u) :=
  PW.imp (pw_or ha hb) fun σV H Q ⟨m, ah, σ, hr, lr, p⟩ => ⟨m, ah, σ, hr, lr, (Po.bind (R := fun _ _ _ b c => b = c) p).imp fun v H1 ⟨m1, h1, x, hr1, e1, r1, p1⟩ => by
    subst r1
    dsimp only at p1
    cases x with
    | false => exact ⟨m1, h1, σ, hr1, lr.ext e1, p1⟩
    | true => exact p1 m1 H1 true hr1 (Ext.refl _ _ _) rfl⟩
theorem st_bool (h : SW X ct W a t) : ST X ct W a t := PW.pt h
theorem st_not (ha : ST X ct W a t) : ST X ct W (.UnaryOp .Not a pos) (tNo t) :=
  PT.imp (pt_not ha) fun σV H Q ⟨m, ah, σ, hr, lr, p⟩ => ⟨m, ah, σ, hr, lr, (Po.bind (R := fun _ _ _ b c => b = c) p).imp fun v H1 ⟨m1, h1, x, hr1, e1, r1, p1⟩ => by
    subst r1
    exact p1 m1 H1 _ hr1 (Ext.refl _ _ _) rfl⟩
theorem se_if (hc : ST X ct W c t) (ha : SE X ct W a f) (hb : SE X ct W b g) : SE X ct W (.IfExp c a b pos) (eIf t f g) :=
  PE.imp (pe_ifExp hc ha hb) fun σV H Q ⟨m, ah, σ, hr, lr, p⟩ => ⟨m, ah, σ, hr, lr, (Po.bind (R := fun _ _ _ b c => b = c) p).imp fun v H1 ⟨m1, h1, x, hr1, e1, r1, p1⟩ => by
    subst r1
    dsimp only at p1
    cases x with
    | true => exact ⟨m1, h1, σ, hr1, lr.ext e1, p1⟩
    | false => exact ⟨m1, h1, σ, hr1, lr.ext e1, p1⟩⟩
theorem se_one {op} (ha : SE X ct W a f) : SE X ct W (.BoolOp op [a] pos) f := pe_one ha
theorem se_and (ha : SE X ct W a f) (hb : SE X ct W (.BoolOp .And (b :: rest) pos) g) : SE X ct W (.BoolOp .And (a :: b :: rest) pos) (eAn f g) :=
  PE.imp (pe_andT ha hb) fun σV H Q ⟨m, ah, σ, hr, lr, p⟩ => ⟨m, ah, σ, hr, lr, (Po.bind (R := VlR X.K ct) p).imp fun v H1 ⟨m1, h1, x, hr1, e1, r1, p1⟩ => by
    dsimp only at p1
    cases e : truO x h1 with
    | none => rw [e] at p1; exact p1.elim
    | some k =>
      rw [e] at p1
      refine ⟨k, tru_of hr1 r1 e, ?_⟩
      cases k with
      | true => exact ⟨m1, h1, σ, hr1, lr.ext e1, p1⟩
      | false => exact p1 m1 H1 v hr1 (Ext.refl _ _ _) r1⟩
theorem se_or (ha : SE X ct W a f) (hb : SE X ct W (.BoolOp .Or (b :: rest) pos) g) : SE X ct W (.BoolOp .Or (a :: b :: rest) pos) (eOr f g) :=
  PE.imp (pe_orT ha hb) fun σV H Q ⟨m, ah, σ, hr, lr, p⟩ => ⟨m, ah, σ, hr, lr, (Po.bind (R := VlR X.K ct) p).imp fun v H1 ⟨m1, h1, x, hr1, e1, r1, p1⟩ => by
    dsimp only at p1
    cases e : truO x h1 with
    | none => rw [e] at p1; exact p1.elim
    | some k =>
      rw [e] at p1
      refine ⟨k, tru_of hr1 r1 e, ?_⟩
      cases k with
      | false => exact ⟨m1, h1, σ, hr1, lr.ext e1, p1⟩
      | true => exact p1 m1 H1 v hr1 (Ext.refl _ _ _) r1⟩
theorem se_not (ha : SE X ct W a f) : SE X ct W (.UnaryOp .Not a pos) (eNo f) :=
  PE.imp (pe_notT ha) fun σV H Q ⟨m, ah, σ, hr, lr, p⟩ => ⟨m, ah, σ, hr, lr, (Po.bind (R := VlR X.K ct) p).imp fun v H1 ⟨m1, h1, x, hr1, e1, r1, p1⟩ => by
    dsimp only at p1
    cases e : truO x h1 with
    | none => rw [e] at p1; exact p1.elim
    | some k =>
      rw [e] at p1
      exact ⟨k, tru_of hr1 r1 e, p1 m1 H1 _ hr1 (Ext.refl _ _ _) (.bl _)⟩⟩
end

/-! ### argument lists -/
def aNil : SemA := fun _ h => .ok [] h
def aCons (f : SemE) (g : SemA) : SemA := fun σ h => rb (f σ h) fun x h1 => rb (g σ h1) fun xs h2 => .ok (x :: xs) h2
section
variable {X : Cx} {ct : CT} {W : WX} {pos : Pos} {e : Expr} {es : List Expr} {f : SemE} {fs : SemA}
theorem sa_nil : SA X ct W [] aNil := PA.imp pa_nil fun σV H Q ⟨m, ah, σ, hr, lr, p⟩ => p m H [] hr (Ext.refl _ _ _) .nil
theorem sa_cons (ha : SE X ct W e f) (hb : SA X ct W es fs) (hs : starEach (e :: es) X.env = (false, eval e X.env) :: starEach es X.env := by rfl) : SA X ct W (e :: es) (aCons f fs) :=
  PA.imp (pa_cons ha hb hs) fun σV H Q ⟨m, ah, σ, hr, lr, p⟩ => ⟨m, ah, σ, hr, lr, (Po.bind (R := VlR X.K ct) p).imp fun v H1 ⟨m1, h1, x, hr1, e1, r1, p1⟩ =>
    ⟨m1, h1, σ, hr1, lr.ext e1, (Po.bind (R := VlRs X.K ct) p1).imp fun vs H2 ⟨m2, h2, xs, hr2, e2, r2, p2⟩ => p2 m2 H2 (v :: vs) hr2 (Ext.refl _ _ _) (.cons (r1.ext e2) r2)⟩⟩
end

/-! ### values become data -/
def toD (x : Vl) (h : Hs) : Option (D × Hs) := match x with
  | .d d => some (d, h)
  | .r k => (match h[k]? with
    | some (.lst xs) => some (.lv xs, h.set k .dead)
    | some (.dk xs) => some (.dk xs, h.set k .dead)
    | some (.dt xs) => some (.dt xs, h.set k .dead)
    | some (.ins C fs) => some (.ins C fs, h.set k .dead)
    | _ => none)
def toDs : List Vl → Hs → Option (List D × Hs)
  | [], h => some ([], h)
  | x :: xs, h => (toD x h).bind fun p => (toDs xs p.2).map fun q => (p.1 :: q.1, q.2)
section
variable {K : PySem.W.Frag} {ct : CT} {m : List Addr} {ah : Hs} {H : Hp}
theorem toD_sound (h : HR K ct m ah H) {x : Vl} {d : D} {ah' : Hs} {v : V} (e : toD x ah = some (d, ah')) (r : VlR K ct m ah H x v) : HR K ct m ah' H ∧ Ext m ah H m ah' H ∧ DR K ct (Sf m ah') H d v := by
  unfold toD at e
  split at e
  · cases e
    exact ⟨h, Ext.refl _ _ _, r⟩
  · rename_i k
    obtain ⟨a, h1, rfl⟩ := r
    obtain ⟨hr2, ex, s⟩ := h.freeze h1
    split at e
    · rename_i xs hk
      cases e
      obtain ⟨u, h2, h3⟩ := h.ob k a _ h1 hk
      cases h3 with
      | lst t => exact ⟨hr2, ex, .lv h2 s (t.mono ex.kp)⟩
    · rename_i xs hk
      cases e
      obtain ⟨u, h2, h3⟩ := h.ob k a _ h1 hk
      cases h3 with
      | dk t => exact ⟨hr2, ex, .dk h2 s (t.mono ex.kp)⟩
    · rename_i xs hk
      cases e
      obtain ⟨u, h2, h3⟩ := h.ob k a _ h1 hk
      cases h3 with
      | dt t => exact ⟨hr2, ex, .dt h2 s (t.mono ex.kp)⟩
    · rename_i C fs hk
      cases e
      obtain ⟨u, h2, h3⟩ := h.ob k a _ h1 hk
      cases h3 with
      | ins t => exact ⟨hr2, ex, .ins h2 s (t.mono ex.kp)⟩
    · cases e
theorem toDs_sound : ∀ {xs : List Vl} {ah : Hs} {ds : List D} {ah' : Hs} {vs : List V}, HR K ct m ah H → toDs xs ah = some (ds, ah') → VlRs K ct m ah H xs vs → HR K ct m ah' H ∧ Ext m ah H m ah' H ∧ DRs K ct (Sf m ah') H ds vs
  | [], ah, ds, ah', vs, h, e, r => by
    cases e
    cases r
    exact ⟨h, Ext.refl _ _ _, .nil⟩
  | x :: xs, ah, ds, ah', vs, h, e, r => by
    cases r with
    | cons r1 r2 =>
      unfold toDs at e
      cases e1 : toD x ah with
      | none => rw [e1] at e; cases e
      | some p =>
        obtain ⟨d, h1⟩ := p
        rw [e1] at e
        obtain ⟨hr1, ex1, t1⟩ := toD_sound h e1 r1
        cases e2 : toDs xs h1 with
        | none => rw [show ((some (d, h1)).bind fun p => (toDs xs p.2).map fun q => (p.1 :: q.1, q.2)) = ((toDs xs h1).map fun q => (d :: q.1, q.2)) from rfl, e2] at e; cases e
        | some q =>
          obtain ⟨qs, h2⟩ := q
          rw [show ((some (d, h1)).bind fun p => (toDs xs p.2).map fun q => (p.1 :: q.1, q.2)) = ((toDs xs h1).map fun q => (d :: q.1, q.2)) from rfl, e2] at e
          cases e
          obtain ⟨hr2, ex2, t2⟩ := toDs_sound hr1 e2 (r2.ext ex1)
          exact ⟨hr2, ex1.trans ex2, .cons (t1.mono ex2.kp) t2⟩
end
def eTup (fs : SemA) : SemE := fun σ h => rb (fs σ h) fun xs h1 => match toDs xs h1 with
  | some (ds, h2) => if ds.length ≤ 1000 then .ok (.d (.tup ds)) h2 else .bad
  | none => .bad
/-- a list that is never changed -/
def eLv (fs : SemA) : SemE := fun σ h => rb (fs σ h) fun xs h1 => match toDs xs h1 with
  | some (ds, h2) => if ds.length ≤ 1000 then .ok (.d (.lv ds)) h2 else .bad
  | none => .bad
/-- a list that may be changed -/
def eLst (fs : SemA) : SemE := fun σ h => rb (fs σ h) fun xs h1 => match toDs xs h1 with
  | some (ds, h2) => if ds.length ≤ 1000 then .ok (.r h2.length) (h2 ++ [.lst ds]) else .bad
  | none => .bad
def eDk0 : SemE := fun _ h => .ok (.r h.length) (h ++ [.dk []])
def eDt0 : SemE := fun _ h => .ok (.r h.length) (h ++ [.dt []])
section
variable {X : Cx} {ct : CT} {W : WX} {pos : Pos} {e : Expr} {es : List Expr} {f : SemE} {fs : SemA}
theorem le1000 {n : Nat} (h : n ≤ 1000) : n ≤ sizeLine := Nat.le_of_lt (small1000 h)
theorem se_tup {x1} (ha : SA X ct W es fs) : SE X ct W (.Tuple es x1 pos) (eTup fs) :=
  PE.imp (pe_tup ha) fun σV H Q ⟨m, ah, σ, hr, lr, p⟩ => ⟨m, ah, σ, hr, lr, (Po.bind (R := VlRs X.K ct) p).imp fun vs H1 ⟨m1, h1, xs, hr1, e1, r1, p1⟩ => by
    dsimp only at p1
    split at p1
    · rename_i ds h2 e2
      obtain ⟨hr2, ex2, t2⟩ := toDs_sound hr1 e2 r1
      split at p1
      · rename_i hl
        refine ⟨by rw [← t2.length]; exact le1000 hl, fun a ha => p1 m1 _ _ (hr2.pure (o := .tup vs) ha).1 (ex2.trans (hr2.pure (o := .tup vs) ha).2.1) (new_tup t2 (hr2.pure (o := .tup vs) ha).2.1.kp (hr2.freshS ha))⟩
      · exact p1.elim
    · exact p1.elim⟩
theorem se_lv (ha : SA X ct W es fs) : SE X ct W (.List es pos) (eLv fs) :=
  PE.imp (pe_lst ha) fun σV H Q ⟨m, ah, σ, hr, lr, p⟩ => ⟨m, ah, σ, hr, lr, (Po.bind (R := VlRs X.K ct) p).imp fun vs H1 ⟨m1, h1, xs, hr1, e1, r1, p1⟩ => by
    dsimp only at p1
    split at p1
    · rename_i ds h2 e2
      obtain ⟨hr2, ex2, t2⟩ := toDs_sound hr1 e2 r1
      split at p1
      · rename_i hl
        refine ⟨by rw [← t2.length]; exact le1000 hl, fun a ha => p1 m1 _ _ (hr2.pure (o := .lst vs) ha).1 (ex2.trans (hr2.pure (o := .lst vs) ha).2.1) (new_lv t2 (hr2.pure (o := .lst vs) ha).2.1.kp (hr2.freshS ha))⟩
      · exact p1.elim
    · exact p1.elim⟩
theorem at_new {K : PySem.W.Frag} {m : List Addr} {ah : Hs} {H : Hp} (h : HR K ct m ah H) {a : Addr} : (m ++ [a])[ah.length]? = some a := by
  rw [← h.len, List.getElem?_append_right (Nat.le_refl _), Nat.sub_self]; rfl
theorem se_lst (ha : SA X ct W es fs) : SE X ct W (.List es pos) (eLst fs) :=
  PE.imp (pe_lst ha) fun σV H Q ⟨m, ah, σ, hr, lr, p⟩ => ⟨m, ah, σ, hr, lr, (Po.bind (R := VlRs X.K ct) p).imp fun vs H1 ⟨m1, h1, xs, hr1, e1, r1, p1⟩ => by
    dsimp only at p1
    split at p1
    · rename_i ds h2 e2
      obtain ⟨hr2, ex2, t2⟩ := toDs_sound hr1 e2 r1
      split at p1
      · rename_i hl
        refine ⟨by rw [← t2.length]; exact le1000 hl, fun a ha => ?_⟩
        obtain ⟨hr3, ex3⟩ := hr2.alloc ha (OR.lst t2)
        exact p1 _ _ _ hr3 (ex2.trans ex3) ⟨a, at_new hr2, rfl⟩
      · exact p1.elim
    · exact p1.elim⟩
theorem se_dk0 : SE X ct W (.Dict [] [] pos) eDk0 :=
  PE.imp pe_dnewK fun σV H Q ⟨m, ah, σ, hr, lr, p⟩ a ha => by
    obtain ⟨hr3, ex3⟩ := hr.alloc ha (OR.dk (ct := ct) .nil)
    exact p _ _ _ hr3 ex3 ⟨a, at_new hr, rfl⟩
theorem se_dt0 : SE X ct W (.Dict [] [] pos) eDt0 :=
  PE.imp pe_dnewT fun σV H Q ⟨m, ah, σ, hr, lr, p⟩ a ha => by
    obtain ⟨hr3, ex3⟩ := hr.alloc ha (OR.dt (ct := ct) .nil)
    exact p _ _ _ hr3 ex3 ⟨a, at_new hr, rfl⟩
end

/-! ### slices -/
abbrev SemO := Lo → Hs → Res (Option Int)
def rdO (K : PySem.W.Frag) (ct : CT) (W : WX) (f : SemO) : TO := fun σV H Q => ∃ m ah σ, HR K ct m ah H ∧ LR K ct m ah H σ σV ∧ Po K ct W σV (fun _ _ _ b c => b = c) m ah H (f σ ah) Q
theorem PO.imp {X : Cx} {e : Option Expr} {t t' : TO} (h : PO X e t) (i : ∀ σ H Q, t' σ H Q → t σ H Q) : PO X e t' := ⟨fun pins s σ H Q I q => h.run pins s σ H Q I (i _ _ _ q)⟩
abbrev SO (X : Cx) (ct : CT) (W : WX) (e : Option Expr) (f : SemO) : Prop := PO X e (rdO X.K ct W f)
def oNone : SemO := fun _ h => .ok none h
def oSome (f : SemE) : SemO := fun σ h => rb (f σ h) fun x h1 => match x with
  | .d (.int i) => .ok (some i) h1
  | _ => .bad
def cutL {α : Type} (xs : List α) (lo hi : Option Int) : List α := (xs.drop (HT.sIx xs.length 0 lo)).take (HT.sIx xs.length xs.length hi - HT.sIx xs.length 0 lo)
def slO (x : Vl) (lo hi : Option Int) (h : Hs) : Option (Vl × Hs) := match x with
  | .d (.tup xs) => some (.d (.tup (cutL xs lo hi)), h)
  | .d (.str z) => if z.length ≤ sizeLine then some (.d (.str (Txt.slice z lo hi)), h) else none
  | x => (match lstOf x h with
    | some xs => some (.d (.lv (cutL xs lo hi)), h)
    | none => none)
def eSl (f : SemE) (lo hi : SemO) : SemE := fun σ h => rb (f σ h) fun x h1 => rb (lo σ h1) fun a h2 => rb (hi σ h2) fun b h3 => ro (slO x a b h3)
section
variable {X : Cx} {ct : CT} {W : WX} {pos p2 : Pos} {e : Expr} {lo hi : Option Expr} {f : SemE} {l u : SemO}
theorem so_none : SO X ct W none oNone := PO.imp po_none fun σV H Q ⟨m, ah, σ, hr, lr, p⟩ => p m H none hr (Ext.refl _ _ _) rfl
theorem so_some (h : SE X ct W e f) : SO X ct W (some e) (oSome f) := PO.imp (po_some h) fun σV H Q ⟨m, ah, σ, hr, lr, p⟩ => ⟨m, ah, σ, hr, lr, (Po.bind (R := VlR X.K ct) p).imp fun v H1 ⟨m1, h1, x, hr1, e1, r1, p1⟩ => by
  dsimp only at p1
  split at p1
  · cases r1
    exact ⟨_, rfl, p1 m1 H1 _ hr1 (Ext.refl _ _ _) rfl⟩
  · exact p1.elim⟩
theorem cut_drs {K : PySem.W.Frag} {S : Addr → Prop} {H : Hp} {d : List D} {v : List V} (r : DRs K ct S H d v) (lo hi : Option Int) : DRs K ct S H (cutL d lo hi) (cutV v lo hi) := by
  unfold cutL cutV
  rw [r.length]
  exact (r.drop _).take _
theorem cut_whole {α : Type} {xs : List α} {lo hi : Option Int} (h : HT.sIx xs.length 0 lo = 0 ∧ HT.sIx xs.length xs.length hi = xs.length) : cutL xs lo hi = xs := by
  unfold cutL
  rw [h.1, h.2]; simp
def rSlO (K : PySem.W.Frag) (ct : CT) : V → Option Int → Option Int → Hp → VK → Prop := fun x lo hi H Q => ∃ m ah a, HR K ct m ah H ∧ VlR K ct m ah H a x ∧ Pp K ct m ah H (slO a lo hi ah) Q
theorem sl_sound : SlR X (rSlO X.K ct) := by
  refine SlR.imp (sl_tupA.or (SlR.or C8.sl_txt sl_list)) fun x lo hi H Q ⟨m, ah, a, hr, ra, p⟩ => ?_
  unfold slO at p
  split at p
  · obtain ⟨l, vs, rfl, h1, r1⟩ := tup_of ra
    refine .inl ⟨l, vs, rfl, h1, fun hw => ?_, fun hw => p.new hr fun a ha k s => new_tup (cut_drs r1 _ _) k s⟩
    rw [← r1.length] at hw
    rw [cut_whole hw] at p
    exact p.same hr ra
  · cases ra
    split at p
    · rename_i hz
      exact .inr (.inl ⟨_, rfl, hz, p.same hr (.str _)⟩)
    · exact p.elim
  · split at p
    · rename_i xs e
      obtain ⟨l, vs, rfl, h1, r1⟩ := lst_of hr e ra
      exact .inr (.inr ⟨l, vs, rfl, .of h1, p.new hr fun a ha k s => new_lv (cut_drs r1 _ _) k s⟩)
    · exact p.elim
theorem se_slice (he : SE X ct W e f) (hl : SO X ct W lo l) (hh : SO X ct W hi u) : SE X ct W (.Subscript e (.Slice lo hi none p2) pos) (eSl f l u) :=
  PE.imp (pe_slice sl_sound he hl hh) fun σV H Q ⟨m, ah, σ, hr, lr, p⟩ => ⟨m, ah, σ, hr, lr, (Po.bind (R := VlR X.K ct) p).imp fun v H1 ⟨m1, h1, x, hr1, e1, r1, p1⟩ =>
    ⟨m1, h1, σ, hr1, lr.ext e1, (Po.bind (R := fun _ _ _ b c => b = c) p1).imp fun y H2 ⟨m2, h2, y', hr2, e2, r2, p2⟩ =>
      ⟨m2, h2, σ, hr2, (lr.ext e1).ext e2, (Po.bind (R := fun _ _ _ b c => b = c) p2).imp fun z H3 ⟨m3, h3, z', hr3, e3, r3, p3⟩ => by
        subst r2 r3
        exact ⟨m3, h3, x, hr3, (r1.ext e2).ext e3, Pp.of p3⟩⟩⟩⟩
end

/-! ### calls of what is built in -/
abbrev OpN := List Vl → Hs → Option (Vl × Hs)
def rN (K : PySem.W.Frag) (ct : CT) (op : OpN) : List V → Hp → VK → Prop := fun vs H Q => ∃ m ah xs, HR K ct m ah H ∧ VlRs K ct m ah H xs vs ∧ Pp K ct m ah H (op xs ah) Q
def eN (op : OpN) (fs : SemA) : SemE := fun σ h => rb (fs σ h) fun xs h1 => ro (op xs h1)
section
variable {X : Cx} {ct : CT} {W : WX} {pos p : Pos} {e : Expr} {es : List Expr} {fs : SemA} {op : OpN} {x : Str} {id T : String}
theorem rd_n {σV : L2.St} {H : Hp} {Q : VK} (h : rdE X.K ct W (eN op fs) σV H Q) : tCB (rN X.K ct op) (rdA X.K ct W fs) σV H Q := by
  obtain ⟨m, ah, σ, hr, lr, p⟩ := h
  refine ⟨m, ah, σ, hr, lr, (Po.bind (R := VlRs X.K ct) p).imp fun vs H1 ⟨m1, h1, xs, hr1, e1, r1, p1⟩ => ?_⟩
  exact ⟨m1, h1, xs, hr1, r1, Pp.of p1⟩
theorem se_callB (hc : CallR X (.builtin id) (rN X.K ct op)) (hg : Gl X x) (hm : X.mg x = none) (hv : bootBuiltins x = some (.builtin id)) (ha : SA X ct W (e :: es) fs) (hn : x ≠ "__name__" := by decide) (hdb : (x == ("__debug__" : Str)) = false := by decide)
    (he : starEach (e :: es) X.env = (false, eval e X.env) :: starEach es X.env := by rfl) (hpl : (backTo pos (starEach es X.env)).any (·.1) = false := by rfl) : SE X ct W (.Call (.Name x p) (e :: es) [] pos) (eN op fs) := PE.imp (pe_callB hc hg hm hv ha hn hdb he hpl) fun _ _ _ h => rd_n h
theorem se_callTy (hc : CallR X (.type T) (rN X.K ct op)) (hg : Gl X x) (hm : X.mg x = none) (hv : bootBuiltins x = some (.type T)) (ha : SA X ct W (e :: es) fs) (hn : x ≠ "__name__" := by decide) (hdb : (x == ("__debug__" : Str)) = false := by decide)
    (he : starEach (e :: es) X.env = (false, eval e X.env) :: starEach es X.env := by rfl) (hpl : (backTo pos (starEach es X.env)).any (·.1) = false := by rfl) : SE X ct W (.Call (.Name x p) (e :: es) [] pos) (eN op fs) := PE.imp (pe_callTy hc hg hm hv ha hn hdb he hpl) fun _ _ _ h => rd_n h
def nLen : OpN := fun xs h => match xs with
  | [.d (.str y)] => if y.length ≤ sizeLine then some (.d (.int y.length), h) else none
  | [x] => (match seqOf x h with
    | some ys => some (.d (.int ys.length), h)
    | none => none)
  | _ => none
theorem len_sound : CallR X (.builtin "len") (rN X.K ct nLen) := by
  refine CallR.imp call_len fun vs H Q ⟨m, ah, xs, hr, rs, p⟩ => ?_
  unfold nLen at p
  split at p
  · cases rs with
    | cons r t =>
      cases t
      cases r
      split at p
      · rename_i hl
        exact ⟨_, _, rfl, ⟨hl, rfl⟩, p.same hr (.int _)⟩
      · exact p.elim
  · cases rs with
    | cons r t =>
      cases t
      split at p
      · rename_i ys e
        obtain ⟨l, ws, rfl, h1, r1⟩ := seq_of hr e r
        refine ⟨_, _, rfl, h1.imp (fun z => ⟨ws, z, rfl⟩) (fun z => ⟨ws, z, rfl⟩), ?_⟩
        rw [← r1.length]
        exact p.same hr (.int _)
      · exact p.elim
  · exact p.elim
/-- list(x) that is never changed, that may be changed -/
def nListV : OpN := fun xs h => match xs with
  | [x] => (match seqOf x h with
    | some ys => some (.d (.lv ys), h)
    | none => (match x with
      | .d (.scr ys) => some (.d (.lv ys), h)
      | _ => none))
  | _ => none
def nListM : OpN := fun xs h => match xs with
  | [x] => (match seqOf x h with
    | some ys => some (.r h.length, h ++ [.lst ys])
    | none => none)
  | _ => none
theorem listV_sound : CallR X (.type "list") (rN X.K ct nListV) := by
  refine CallR.imp call_list_of fun vs H Q ⟨m, ah, xs, hr, rs, p⟩ => ?_
  unfold nListV at p
  split at p
  · cases rs with
    | cons r t =>
      cases t
      split at p
      · rename_i ys e
        obtain ⟨l, ws, rfl, h1, r1⟩ := seq_of hr e r
        exact ⟨l, ws, rfl, h1, p.new hr fun a ha k s => new_lv r1 k s⟩
      · split at p
        · cases r with
          | scr h1 r1 => exact ⟨_, _, rfl, .inl (h1.imp (fun ⟨⟨o, h⟩, _⟩ => .inr ⟨o, h⟩) id), p.new hr fun a ha k s => new_lv r1 k s⟩
        · exact p.elim
  · exact p.elim
theorem listM_sound : CallR X (.type "list") (rN X.K ct nListM) := by
  refine CallR.imp call_list_of fun vs H Q ⟨m, ah, xs, hr, rs, p⟩ => ?_
  unfold nListM at p
  split at p
  · cases rs with
    | cons r t =>
      cases t
      split at p
      · rename_i ys e
        obtain ⟨l, ws, rfl, h1, r1⟩ := seq_of hr e r
        refine ⟨l, ws, rfl, h1, fun a ha => ?_⟩
        obtain ⟨hr3, ex3⟩ := hr.alloc ha (OR.lst r1)
        exact p _ _ _ hr3 ex3 ⟨a, at_new hr, rfl⟩
      · exact p.elim
  · exact p.elim
def nTuple : OpN := fun xs h => match xs with
  | [x] => (match seqOf x h with
    | some ys => some (.d (.tup ys), h)
    | none => none)
  | _ => none
theorem tuple_sound : CallR X (.type "tuple") (rN X.K ct nTuple) := by
  refine CallR.imp call_tuple_of fun vs H Q ⟨m, ah, xs, hr, rs, p⟩ => ?_
  unfold nTuple at p
  split at p
  · cases rs with
    | cons r t =>
      cases t
      split at p
      · rename_i ys e
        unfold seqOf at e
        split at e
        · cases e
          obtain ⟨l, ws, rfl, h1, r1⟩ := tup_of r
          exact ⟨l, ws, rfl, .inr ⟨h1, p.same hr r⟩⟩
        · cases e
          cases r with
          | lv h1 s1 r1 => exact ⟨_, _, rfl, .inl ⟨.of h1, p.new hr fun a ha k s => new_tup r1 k s⟩⟩
        · rename_i k
          split at e
          · rename_i zs hk
            cases e
            obtain ⟨a, ws, _, rfl, h1, r1⟩ := hr.lstK hk r
            exact ⟨a, ws, rfl, .inl ⟨.of h1, p.new hr fun a ha k s => new_tup r1 k s⟩⟩
          · cases e
        · cases e
      · exact p.elim
  · exact p.elim
def nInt : OpN := fun xs h => match xs with
  | [.d (.int i)] => some (.d (.int i), h)
  | [.d (.bl k)] => some (.d (.int (if k then 1 else 0)), h)
  | _ => none
theorem int_sound : CallR X (.type "int") (rN X.K ct nInt) := by
  refine CallR.imp call_int1 fun vs H Q ⟨m, ah, xs, hr, rs, p⟩ => ?_
  unfold nInt at p
  split at p
  · cases rs with
    | cons r t => cases t; cases r; exact .inl ⟨_, rfl, p.same hr (.int _)⟩
  · cases rs with
    | cons r t => cases t; cases r; exact .inr ⟨_, rfl, p.same hr (.int _)⟩
  · exact p.elim
def nAbs : OpN := fun xs h => match xs with
  | [.d (.int i)] => some (.d (.int (if i < 0 then -i else i)), h)
  | _ => none
theorem abs_sound : CallR X (.builtin "abs") (rN X.K ct nAbs) := by
  refine CallR.imp call_abs fun vs H Q ⟨m, ah, xs, hr, rs, p⟩ => ?_
  unfold nAbs at p
  split at p
  · cases rs with
    | cons r t => cases t; cases r; exact ⟨_, rfl, p.same hr (.int _)⟩
  · exact p.elim
/-- the built-in type's name -/
def tyO (x : Vl) (h : Hs) : Option String := match x with
  | .d .non => some "NoneType" | .d (.bl _) => some "bool" | .d (.int _) => some "int" | .d (.str _) => some "str"
  | .d (.tup _) => some "tuple" | .d (.lv _) => some "list" | .d (.dk _) => some "dict" | .d (.dt _) => some "dict"
  | .r k => (match h[k]? with
    | some (.lst _) => some "list"
    | some (.dk _) => some "dict"
    | some (.dt _) => some "dict"
    | _ => none)
  | _ => none
theorem tyO_sound {K : PySem.W.Frag} {m : List Addr} {ah : Hs} {H : Hp} (hr : HR K ct m ah H) {x : Vl} {v : V} {t : String} (r : VlR K ct m ah H x v) (e : tyO x ah = some t) : TyX K H v (.type t) := by
  unfold tyO at e
  split at e
  · cases e; cases r; exact .base .non
  · cases e; cases r; exact .base (.bl _)
  · cases e; cases r; exact .base (.int _)
  · cases e; cases r; exact .base (.str _)
  · cases e
    cases r with
    | tup h1 h2 =>
      rcases h1 with ⟨h1, _⟩ | ⟨o, its, n, h1, h2, _⟩
      · rcases h1 with h1 | ⟨o, h1⟩
        · exact .base (.tup h1)
        · exact .fTuple h1
      · exact .kTuple h1 h2
  · cases e; cases r with | lv h1 _ _ => exact .base (.lst h1)
  · cases e; cases r with | dk h1 _ _ => exact .base (.dK h1)
  · cases e; cases r with | dt h1 _ _ => exact .base (.dT h1)
  · rename_i k
    obtain ⟨a, h1, rfl⟩ := r
    split at e
    · rename_i hk
      cases e
      obtain ⟨u, h2, h3⟩ := hr.ob k a _ h1 hk
      cases h3; exact .base (.lst h2)
    · rename_i hk
      cases e
      obtain ⟨u, h2, h3⟩ := hr.ob k a _ h1 hk
      cases h3; exact .base (.dK h2)
    · rename_i hk
      cases e
      obtain ⟨u, h2, h3⟩ := hr.ob k a _ h1 hk
      cases h3; exact .base (.dT h2)
    · cases e
  · cases e
end
end Mi

/-! Mi4: statements, targets, loops -/
namespace Mi
open PySem PySem.Spec L2

inductive Fl where
  | nx | ret (v : Vl) | brk | cnt
inductive RS where
  | ok (f : Fl) (σ : Lo) (h : Hs) | exc (e : Ex) (σ : Lo) (h : Hs) | bad
abbrev SemS := Lo → Hs → RS
def PoF (K : PySem.W.Frag) (ct : CT) (D : Ends) (f : Fl) (m : List Addr) (ah : Hs) (H : Hp) (σV : L2.St) : Prop := match f with
  | .nx => D.nx σV H
  | .brk => D.bk σV H
  | .cnt => D.ct σV H
  | .ret v => ∀ u, VlR K ct m ah H v u → D.rt u H
def PoS (K : PySem.W.Frag) (ct : CT) (W : WX) (D : Ends) (m : List Addr) (ah : Hs) (H : Hp) (r : RS) : Prop := match r with
  | .ok f σ' h => ∀ m' H' σV', HR K ct m' h H' → Ext m ah H m' h H' → LR K ct m' h H' σ' σV' → PoF K ct D f m' h H' σV'
  | .exc e σ' h => ∀ m' H' σV' cls d, HR K ct m' h H' → Ext m ah H m' h H' → LR K ct m' h H' σ' σV' → XR K ct (Sf m' h) H' e cls d → W cls d σV' H'
  | .bad => False
def rdS (K : PySem.W.Frag) (ct : CT) (W : WX) (f : SemS) : TS := fun D σV H => ∃ m ah σ, HR K ct m ah H ∧ LR K ct m ah H σ σV ∧ PoS K ct W D m ah H (f σ ah)
abbrev SS (X : Cx) (ct : CT) (W : WX) (st : Stmt) (f : SemS) : Prop := PS X st (rdS X.K ct W f)
abbrev SSs (X : Cx) (ct : CT) (W : WX) (st : List Stmt) (f : SemS) : Prop := PSs X st (rdS X.K ct W f)
/-- from an expression's result -/
def sb {α : Type} (r : Res α) (σ : Lo) (f : α → Hs → RS) : RS := match r with
  | .ok a h => f a h
  | .exc e h => .exc e σ h
  | .bad => .bad
@[simp] theorem sb_ok {α : Type} (a : α) (h : Hs) (σ : Lo) (f : α → Hs → RS) : sb (.ok a h) σ f = f a h := rfl
@[simp] theorem sb_exc {α : Type} (e : Ex) (h : Hs) (σ : Lo) (f : α → Hs → RS) : sb (.exc e h) σ f = .exc e σ h := rfl
@[simp] theorem sb_bad {α : Type} (σ : Lo) (f : α → Hs → RS) : sb .bad σ f = .bad := rfl
def ss (r : RS) (f : SemS) : RS := match r with
  | .ok .nx σ h => f σ h
  | r => r
@[simp] theorem ss_nx (σ : Lo) (h : Hs) (f : SemS) : ss (.ok .nx σ h) f = f σ h := rfl
@[simp] theorem ss_ret (v : Vl) (σ : Lo) (h : Hs) (f : SemS) : ss (.ok (.ret v) σ h) f = .ok (.ret v) σ h := rfl
@[simp] theorem ss_brk (σ : Lo) (h : Hs) (f : SemS) : ss (.ok .brk σ h) f = .ok .brk σ h := rfl
@[simp] theorem ss_cnt (σ : Lo) (h : Hs) (f : SemS) : ss (.ok .cnt σ h) f = .ok .cnt σ h := rfl
@[simp] theorem ss_exc (e : Ex) (σ : Lo) (h : Hs) (f : SemS) : ss (.exc e σ h) f = .exc e σ h := rfl
@[simp] theorem ss_bad (f : SemS) : ss .bad f = .bad := rfl
section
variable {K : PySem.W.Frag} {ct : CT} {W : WX} {D : Ends} {m m' : List Addr} {ah ah' : Hs} {H H' : Hp} {α β : Type}
theorem PoS.ext {r : RS} (p : PoS K ct W D m ah H r) (e : Ext m ah H m' ah' H') : PoS K ct W D m' ah' H' r := by
  cases r with
  | ok f σ h => exact fun m2 H2 σ2 h2 e2 l2 => p m2 H2 σ2 h2 (e.trans e2) l2
  | exc x σ h => exact fun m2 H2 σ2 c d h2 e2 l2 r2 => p m2 H2 σ2 c d h2 (e.trans e2) l2 r2
  | bad => exact p
/-- what a value is worth for the statement -/
theorem PoS.bind {R : List Addr → Hs → Hp → α → β → Prop} {r : Res α} {g : α → Hs → RS} {σ : Lo} {σV : L2.St} (lr : LR K ct m ah H σ σV) (p : PoS K ct W D m ah H (sb r σ g)) :
    Po K ct W σV R m ah H r (Mid K ct m ah H R fun m1 h1 H1 x => PoS K ct W D m1 h1 H1 (g x h1)) := by
  cases r with
  | ok x h => exact fun m2 H2 v h2 e2 r2 => ⟨m2, h, x, h2, e2, r2, PoS.ext (r := g x h) p e2⟩
  | exc x h => exact fun m2 H2 c d h2 e2 r2 => p m2 H2 σV c d h2 e2 (lr.ext e2) r2
  | bad => exact p
theorem PoS.nx {σ : Lo} {σV : L2.St} (hr : HR K ct m ah H) (lr : LR K ct m ah H σ σV) (p : PoS K ct W D m ah H (.ok .nx σ ah)) : D.nx σV H := p m H σV hr (Ext.refl _ _ _) lr
/-- another end, wherever the first one is met -/
theorem PoS.imp {D' : Ends} {r : RS} (p : PoS K ct W D m ah H r)
    (i : ∀ f σ' h m' H' σV', r = .ok f σ' h → HR K ct m' h H' → Ext m ah H m' h H' → LR K ct m' h H' σ' σV' → PoF K ct D f m' h H' σV' → PoF K ct D' f m' h H' σV') : PoS K ct W D' m ah H r := by
  cases r with
  | ok f σ h => exact fun m2 H2 σ2 h2 e2 l2 => i f σ h m2 H2 σ2 rfl h2 e2 l2 (p m2 H2 σ2 h2 e2 l2)
  | exc x σ h => exact p
  | bad => exact p
end

/-! ### blocks and small statements -/
def sNil : SemS := fun σ h => .ok .nx σ h
def sSq (f g : SemS) : SemS := fun σ h => ss (f σ h) g
def sEx (f : SemE) : SemS := fun σ h => sb (f σ h) σ fun _ h1 => .ok .nx σ h1
def sRt (f : SemE) : SemS := fun σ h => sb (f σ h) σ fun x h1 => .ok (.ret x) σ h1
def sRtN : SemS := fun σ h => .ok (.ret (.d .non)) σ h
def sIf (t : SemT) (f g : SemS) : SemS := fun σ h => sb (t σ h) σ fun b h1 => if b = true then f σ h1 else g σ h1
def sBrk : SemS := fun σ h => .ok .brk σ h
def sCnt : SemS := fun σ h => .ok .cnt σ h
def sBad : SemS := fun _ _ => .bad
/-- a list at a name is never changed from here on -/
def sFrz (i : Nat) : SemS := fun σ h => match σ[i]? with
  | some (some x) => (match toD x h with
    | some (d, h1) => .ok .nx (σ.set i (some (.d d))) h1
    | none => .bad)
  | _ => .bad
section
variable {X : Cx} {ct : CT} {W : WX} {pos : Pos} {e c : Expr} {f : SemE} {t : SemT} {st : Stmt} {rest a b : List Stmt} {u v : SemS}
theorem sss_nil : SSs X ct W [] sNil := PSs.imp pss_nil fun D σV H ⟨m, ah, σ, hr, lr, p⟩ => p.nx hr lr
theorem rd_seq {D : Ends} {σV : L2.St} {H : Hp} (h : rdS X.K ct W (sSq u v) D σV H) : tSeq (rdS X.K ct W u) (rdS X.K ct W v) D σV H := by
  obtain ⟨m, ah, σ, hr, lr, p⟩ := h
  refine ⟨m, ah, σ, hr, lr, ?_⟩
  unfold sSq at p
  cases e : u σ ah with
  | ok f σ' h =>
    rw [e] at p
    cases f with
    | nx => exact fun m2 H2 σ2 h2 e2 l2 => ⟨m2, h, σ', h2, l2, PoS.ext (r := v σ' h) p e2⟩
    | ret x => exact p
    | brk => exact p
    | cnt => exact p
  | exc x σ' h => rw [e] at p; exact p
  | bad => rw [e] at p; exact p.elim
theorem sss_cons (h1 : SS X ct W st u) (h2 : SSs X ct W rest v) : SSs X ct W (st :: rest) (sSq u v) := PSs.imp (pss_cons h1 h2) fun _ _ _ h => rd_seq h
theorem sss_one (h1 : SS X ct W st u) : SSs X ct W [st] u := pss_one h1
/-- a remark of ours ahead of a block: the list at slot i is frozen -/
theorem sss_frz {i : Nat} (h2 : SSs X ct W rest v) : SSs X ct W rest (sSq (sFrz i) v) := PSs.imp h2 fun D σV H ⟨m, ah, σ, hr, lr, p⟩ => by
  unfold sSq sFrz at p
  cases e : σ[i]? with
  | none => rw [e] at p; exact p.elim
  | some o =>
    cases o with
    | none => rw [e] at p; exact p.elim
    | some x =>
      rw [e] at p
      dsimp only at p
      cases e2 : toD x ah with
      | none => rw [e2] at p; exact p.elim
      | some q =>
        obtain ⟨d, h1⟩ := q
        rw [e2] at p
        obtain ⟨y, hy, r⟩ := lr.at_ i x e
        obtain ⟨hr1, ex1, r1⟩ := toD_sound hr e2 r
        have l1 : LR X.K ct m h1 H (σ.set i (some (.d d))) σV := by
          refine ⟨by rw [List.length_set]; exact lr.len, fun j z hz => ?_⟩
          by_cases q : i = j
          · subst q
            rw [List.getElem?_set_self (List.getElem?_eq_some_iff.mp e).1] at hz
            cases hz
            exact ⟨y, hy, r1⟩
          · rw [List.getElem?_set_ne q] at hz
            exact (lr.ext ex1).at_ j z hz
        exact ⟨m, h1, _, hr1, l1, PoS.ext (r := v (σ.set i (some (.d d))) h1) p ex1⟩
theorem sss_never {sts : List Stmt} : SSs X ct W sts sBad := PSs.imp pss_never fun D σV H ⟨m, ah, σ, hr, lr, p⟩ => p
theorem ss_never : SS X ct W st sBad := PS.imp ps_never fun D σV H ⟨m, ah, σ, hr, lr, p⟩ => p
theorem ss_pass : SS X ct W (.Pass pos) sNil := PS.imp ps_pass fun D σV H ⟨m, ah, σ, hr, lr, p⟩ => p.nx hr lr
theorem ss_break : SS X ct W (.Break pos) sBrk := PS.imp ps_break fun D σV H ⟨m, ah, σ, hr, lr, p⟩ => p m H σV hr (Ext.refl _ _ _) lr
theorem ss_continue : SS X ct W (.Continue pos) sCnt := PS.imp ps_continue fun D σV H ⟨m, ah, σ, hr, lr, p⟩ => p m H σV hr (Ext.refl _ _ _) lr
theorem ss_expr (he : SE X ct W e f) (hs : swapsWith e none pos.line X.env = pure false := by rfl) : SS X ct W (.Expr e pos) (sEx f) :=
  PS.imp (ps_expr he hs) fun D σV H ⟨m, ah, σ, hr, lr, p⟩ => ⟨m, ah, σ, hr, lr, (PoS.bind (R := VlR X.K ct) lr p).imp fun x H1 ⟨m1, h1, y, hr1, e1, r1, p1⟩ => PoS.nx hr1 (lr.ext e1) p1⟩
theorem ss_ret' (he : SE X ct W e f) : SS X ct W (.Return (some e) pos) (sRt f) :=
  PS.imp (ps_ret he) fun D σV H ⟨m, ah, σ, hr, lr, p⟩ => ⟨m, ah, σ, hr, lr, (PoS.bind (R := VlR X.K ct) lr p).imp fun x H1 ⟨m1, h1, y, hr1, e1, r1, p1⟩ => p1 m1 H1 σV hr1 (Ext.refl _ _ _) (lr.ext e1) x r1⟩
theorem ss_retN : SS X ct W (.Return none pos) sRtN := PS.imp ps_retN fun D σV H ⟨m, ah, σ, hr, lr, p⟩ => p m H σV hr (Ext.refl _ _ _) lr .non .non
theorem ss_if (hc : ST X ct W c t) (ha : SSs X ct W a u) (hb : SSs X ct W b v) : SS X ct W (.If c a b pos) (sIf t u v) :=
  PS.imp (ps_if hc ha hb) fun D σV H ⟨m, ah, σ, hr, lr, p⟩ => ⟨m, ah, σ, hr, lr, (PoS.bind (R := fun _ _ _ b c => b = c) lr p).imp fun x H1 ⟨m1, h1, y, hr1, e1, r1, p1⟩ => by
    subst r1
    dsimp only at p1
    cases y with
    | true => exact ⟨m1, h1, σ, hr1, lr.ext e1, p1⟩
    | false => exact ⟨m1, h1, σ, hr1, lr.ext e1, p1⟩⟩
end

/-! ### targets -/
abbrev SemG := Vl → Lo → Hs → Option (Lo × Hs)
abbrev SemGs := List D → Lo → Hs → Option (Lo × Hs)
def PoG (K : PySem.W.Frag) (ct : CT) (m : List Addr) (ah : Hs) (H : Hp) (o : Option (Lo × Hs)) (Q : L2.St → Hp → Prop) : Prop := match o with
  | some (σ', h) => ∀ m' H' σV', HR K ct m' h H' → Ext m ah H m' h H' → LR K ct m' h H' σ' σV' → Q σV' H'
  | none => False
def rdG (K : PySem.W.Frag) (ct : CT) (g : SemG) : TG := fun v σV H Q => ∃ m ah σ x, HR K ct m ah H ∧ LR K ct m ah H σ σV ∧ VlR K ct m ah H x v ∧ PoG K ct m ah H (g x σ ah) Q
def rdGs (K : PySem.W.Frag) (ct : CT) (g : SemGs) : TGs := fun vs σV H Q => ∃ m ah σ xs, HR K ct m ah H ∧ LR K ct m ah H σ σV ∧ DRs K ct (Sf m ah) H xs vs ∧ PoG K ct m ah H (g xs σ ah) Q
theorem PG.imp {X : Cx} {e : Expr} {t t' : TG} (h : PG X e t) (i : ∀ v σ H Q, t' v σ H Q → t v σ H Q) : PG X e t' := ⟨fun pins s σ H v u Q I r q => h.run pins s σ H v u Q I r (i _ _ _ _ q)⟩
theorem PGs.imp {X : Cx} {e : List Expr} {t t' : TGs} (h : PGs X e t) (i : ∀ v σ H Q, t' v σ H Q → t v σ H Q) : PGs X e t' := ⟨fun pins s σ H v u Q I r q => h.run pins s σ H v u Q I r (i _ _ _ _ q)⟩
abbrev SG (X : Cx) (ct : CT) (e : Expr) (g : SemG) : Prop := PG X e (rdG X.K ct g)
abbrev SGs (X : Cx) (ct : CT) (e : List Expr) (g : SemGs) : Prop := PGs X e (rdGs X.K ct g)
def gNm (i : Nat) : SemG := fun x σ h => some (σ.set i (some x), h)
def gNi : SemGs := fun xs σ h => match xs with
  | [] => some (σ, h)
  | _ => none
def gCo (g : SemG) (gs : SemGs) : SemGs := fun xs σ h => match xs with
  | x :: xs => (g (.d x) σ h).bind fun p => gs xs p.1 p.2
  | [] => none
def gTp (n : Nat) (gs : SemGs) : SemG := fun x σ h => match x with
  | .d (.tup xs) => if xs.length = n then gs xs σ h else none
  | _ => none
section
variable {X : Cx} {ct : CT} {W : WX} {pos : Pos} {e : Expr} {es : List Expr} {f : SemE} {g : SemG} {gs : SemGs}
theorem sg_name {i : Nat} {x : Str} (hN : X.N.Nodup) (hi : X.N[i]? = some x) (hx : Loc X.env.scope x) (hf : X.fn x = true ∨ X.env.scope.names.lookup x = some .local := by first | exact .inl rfl | exact .inr rfl | assumption) : SG X ct (.Name x pos) (gNm i) :=
  PG.imp (pg_name hN hi hx hf) fun v σV H Q ⟨m, ah, σ, x, hr, lr, r, p⟩ => p m H _ hr (Ext.refl _ _ _) (lr.set r i)
theorem sgs_nil : SGs X ct [] gNi := PGs.imp pgs_nil fun vs σV H Q ⟨m, ah, σ, xs, hr, lr, r, p⟩ => by
  unfold gNi at p
  split at p
  · cases r
    exact ⟨rfl, p m H _ hr (Ext.refl _ _ _) lr⟩
  · exact p.elim
theorem sgs_cons (h1 : SG X ct e g) (h2 : SGs X ct es gs) (hs : (assignEach (e :: es) X.env).map (·.2) = assign e X.env :: (assignEach es X.env).map (·.2) := by rfl) : SGs X ct (e :: es) (gCo g gs) :=
  PGs.imp (pgs_cons h1 h2 hs) fun vs σV H Q ⟨m, ah, σ, xs, hr, lr, r, p⟩ => by
    unfold gCo at p
    split at p
    · cases r with
      | cons r t =>
        refine ⟨_, _, rfl, m, ah, σ, .d _, hr, lr, r, ?_⟩
        cases q : g (.d _) σ ah with
        | none => rw [q] at p; exact p.elim
        | some z =>
          obtain ⟨σ', h'⟩ := z
          rw [q] at p
          refine fun m2 H2 σ2 h2 e2 l2 => ⟨m2, h', σ', _, h2, l2, t.mono e2.kp, ?_⟩
          dsimp only [Option.bind_some] at p
          revert p
          cases gs _ σ' h' with
          | none => exact fun p => p.elim
          | some z => exact fun p m3 H3 σ3 h3 e3 l3 => p m3 H3 σ3 h3 (e2.trans e3) l3
    · exact p.elim
theorem sg_tup {k n : Nat} (hc : X.calm = true) (h : SGs X ct es gs) (hn : (assignEach es X.env).length = n := by rfl) (hst : (assignEach es X.env).findIdx? (·.1) = none := by rfl) : SG X ct (.Tuple es k pos) (gTp n gs) :=
  PG.imp (pg_tup hc h hn hst) fun v σV H Q ⟨m, ah, σ, x, hr, lr, r, p⟩ => by
    unfold gTp at p
    split at p
    · obtain ⟨l, vs, rfl, h1, r1⟩ := tup_of r
      split at p
      · rename_i hl
        exact ⟨l, vs, rfl, h1, by rw [← r1.length]; exact hl, m, ah, σ, _, hr, lr, r1, p⟩
      · exact p.elim
    · exact p.elim
end
def sAs (f : SemE) (g : SemG) : SemS := fun σ h => sb (f σ h) σ fun x h1 => match g x σ h1 with
  | some (σ', h2) => .ok .nx σ' h2
  | none => .bad
section
variable {X : Cx} {ct : CT} {W : WX} {pos : Pos} {e tg : Expr} {es : List Expr} {f : SemE} {g : SemG} {gs : SemGs}
theorem rd_asg {D : Ends} {σV : L2.St} {H : Hp} (h : rdS X.K ct W (sAs f g) D σV H) : tAsg (rdE X.K ct W f) (rdG X.K ct g) D σV H := by
  obtain ⟨m, ah, σ, hr, lr, p⟩ := h
  refine ⟨m, ah, σ, hr, lr, (PoS.bind (R := VlR X.K ct) lr p).imp fun x H1 ⟨m1, h1, y, hr1, e1, r1, p1⟩ => ⟨m1, h1, σ, y, hr1, lr.ext e1, r1, ?_⟩⟩
  dsimp only at p1
  cases q : g y σ h1 with
  | none => rw [q] at p1; exact p1.elim
  | some z => rw [q] at p1; exact p1
theorem ss_asg (he : SE X ct W e f) (hg : SG X ct tg g) (hs : swapsWithSole [tg] e pos.line X.env = pure false := by rfl) (hw : swappedStores [tg] e X.env = pure none := by rfl)
    (h1 : (assignEach [tg] X.env).map (·.2) = [assign tg X.env] := by rfl) : SS X ct W (.Assign [tg] e pos) (sAs f g) := PS.imp (ps_asg he hg hs hw h1) fun _ _ _ h => rd_asg h
theorem ss_set {i : Nat} {x : Str} {pos' : Pos} (hN : X.N.Nodup) (hi : X.N[i]? = some x) (hx : Loc X.env.scope x) (he : SE X ct W e f) (hs : swapsWith e (some (.Name x pos')) pos.line X.env = pure false := by rfl) (hf : X.fn x = true ∨ X.env.scope.names.lookup x = some .local := by first | exact .inl rfl | exact .inr rfl | assumption) :
    SS X ct W (.Assign [.Name x pos'] e pos) (sAs f (gNm i)) := PS.imp (ps_set hN hi hx he hs hf) fun D σV H h => by
  obtain ⟨m, ah, σ, hr, lr, p⟩ := h
  exact ⟨m, ah, σ, hr, lr, (PoS.bind (R := VlR X.K ct) lr p).imp fun x H1 ⟨m1, h1, y, hr1, e1, r1, p1⟩ => p1 m1 H1 _ hr1 (Ext.refl _ _ _) ((lr.ext e1).set r1 i)⟩
end

/-! ### x op= e at a name -/
def rIp (K : PySem.W.Frag) (ct : CT) (op : Op2) : TIp := rOp K ct op
def sAu (i : Nat) (op : Op2) (f : SemE) : SemS := fun σ h => match σ[i]? with
  | some (some x) => sb (f σ h) σ fun y h1 => match op x y h1 with
    | some (z, h2) => .ok .nx (σ.set i (some z)) h2
    | none => .bad
  | _ => .bad
section
variable {X : Cx} {ct : CT} {W : WX} {pos pos' : Pos} {e : Expr} {f : SemE}
theorem ss_aug {i : Nat} {x : Str} {op : Operator} {o : Op2} (hN : X.N.Nodup) (hi : X.N[i]? = some x) (hx : Loc X.env.scope x) (he : SE X ct W e f) (ho : OpR X (inplaceOp op) (rOp X.K ct o))
    (hf : X.fn x = true ∨ X.env.scope.names.lookup x = some .local := by first | exact .inl rfl | exact .inr rfl | assumption) : SS X ct W (.AugAssign (.Name x pos') op e pos) (sAu i o f) :=
  PS.imp (ps_aug (ti := rOp X.K ct o) hN hi hx he ho hf) fun D σV H h => by
    obtain ⟨m, ah, σ, hr, lr, p⟩ := h
    unfold sAu at p
    cases q : σ[i]? with
    | none => rw [q] at p; exact p.elim
    | some z =>
      cases z with
      | none => rw [q] at p; exact p.elim
      | some z =>
        rw [q] at p
        obtain ⟨v, hv, rv⟩ := lr.at_ i z q
        refine ⟨v, hv, m, ah, σ, hr, lr, (PoS.bind (R := VlR X.K ct) lr p).imp fun y H1 ⟨m1, h1, y', hr1, e1, r1, p1⟩ => ⟨m1, h1, z, y', hr1, rv.ext e1, r1, ?_⟩⟩
        dsimp only at p1
        revert p1
        cases o z y' h1 with
        | none => exact fun p => p.elim
        | some w => exact fun p m2 H2 u h2 e2 r2 => p m2 H2 _ h2 e2 (((lr.ext e1).ext e2).set r2 i)
def oIAdd : Op2 := fun x y h => match x, y with
  | .d (.int i), .d (.int j) => some (.d (.int (i + j)), h)
  | .d (.str a), .d (.str b) => if a.length + b.length ≤ sizeLine then some (.d (.str (a ++ b)), h) else none
  | _, _ => none
theorem iadd_sound : OpR X (inplaceOp .Add) (rOp X.K ct oIAdd) := by
  refine OpR.imp (iop_add.or iop_add_str) fun x y H Q ⟨m, ah, a, b, hr, ra, rb, p⟩ => ?_
  unfold oIAdd at p
  split at p
  · cases ra; cases rb
    exact .inl ⟨_, _, rfl, rfl, p.same hr (.int _)⟩
  · cases ra; cases rb
    split at p
    · rename_i hc
      exact .inr ⟨_, _, rfl, rfl, hc, p.same hr (.str _)⟩
    · exact p.elim
  · exact p.elim
theorem isub_sound : OpR X (inplaceOp .Sub) (rOp X.K ct oSub) := OpR.imp iop_sub fun x y H Q ⟨m, ah, a, b, hr, ra, rb, p⟩ => by
  unfold oSub oI at p
  split at p
  · cases ra; cases rb
    exact ⟨_, _, rfl, rfl, p.same hr (.int _)⟩
  · exact p.elim
end

/-! ### what a for walks -/
abbrev SemI := Lo → Hs → Res (List D)
/-- the iterator hands out the data ds -/
def Wks (K : PySem.W.Frag) (ct : CT) (ds : List D) (m : List Addr) (ah : Hs) (H : Hp) (J : It) : Prop := ∀ m2 h2 H2, HR K ct m2 h2 H2 → Kp (Sf m ah) H (Sf m2 h2) H2 →
  (∀ i, ds.length ≤ i → J.stop i H2) ∧ ∀ (i : Nat) d, ds[i]? = some d → J.go i H2 ∧ ∀ x H3, J.yld i H2 x H3 → HR K ct m2 h2 H3 ∧ Ext m2 h2 H2 m2 h2 H3 ∧ DR K ct (Sf m2 h2) H3 d x
def rdI (K : PySem.W.Frag) (ct : CT) (W : WX) (f : SemI) : TI := fun σV H R => ∃ m ah σ, HR K ct m ah H ∧ LR K ct m ah H σ σV ∧ Po K ct W σV (fun m1 h1 H1 ds J => Wks K ct ds m1 h1 H1 J) m ah H (f σ ah) R
theorem PI.imp {X : Cx} {tg e : Expr} {t t' : TI} (h : PI X tg e t) (i : ∀ σ H Q, t' σ H Q → t σ H Q) : PI X tg e t' := ⟨fun pins s σ H R I q => h.run pins s σ H R I (i _ _ _ q)⟩
abbrev SI (X : Cx) (ct : CT) (W : WX) (tg e : Expr) (f : SemI) : Prop := PI X tg e (rdI X.K ct W f)
theorem Wks.ext {K : PySem.W.Frag} {ct : CT} {ds : List D} {m m' : List Addr} {ah ah' : Hs} {H H' : Hp} {J : It} (w : Wks K ct ds m ah H J) (e : Ext m ah H m' ah' H') : Wks K ct ds m' ah' H' J := fun m2 h2 H2 hr e2 => w m2 h2 H2 hr (e.kp.trans e2)
/-- the data of a list or tuple that is never changed -/
def pureSeq (x : Vl) : Option (List D) := match x with
  | .d (.tup xs) => some xs
  | .d (.lv xs) => some xs
  | _ => none
def pureLst (x : Vl) : Option (List D) := match x with
  | .d (.lv xs) => some xs
  | _ => none
def pureTup (x : Vl) : Option (List D) := match x with
  | .d (.tup xs) => some xs
  | _ => none
def iOf (p : Vl → Option (List D)) (f : SemE) : SemI := fun σ h => rb (f σ h) fun x h1 => match p x with
  | some xs => .ok xs h1
  | none => .bad
abbrev iLs (f : SemE) : SemI := iOf pureLst f
abbrev iTu (f : SemE) : SemI := iOf pureTup f
def rngD (lo : Int) (n : Nat) : List D := (List.range n).map fun (i : Nat) => D.int (lo + i)
def iR1 (f : SemE) : SemI := fun σ h => rb (f σ h) fun x h1 => match x with
  | .d (.int j) => if j < 2 ^ 62 ∧ -(2 ^ 62) ≤ j then .ok (rngD 0 j.toNat) h1 else .bad
  | _ => .bad
def iR2 (f g : SemE) : SemI := fun σ h => rb (f σ h) fun x h1 => rb (g σ h1) fun y h2 => match x, y with
  | .d (.int i), .d (.int j) => if (-(2 ^ 62) ≤ i ∧ i < 2 ^ 62) ∧ -(2 ^ 62) ≤ j ∧ j < 2 ^ 62 then .ok (rngD i (j - i).toNat) h2 else .bad
  | _, _ => .bad
theorem rngD_get (lo : Int) (n i : Nat) : (rngD lo n)[i]? = if i < n then some (D.int (lo + i)) else none := by
  unfold rngD
  rw [List.getElem?_map]
  by_cases h : i < n
  · rw [List.getElem?_range h, if_pos h]; rfl
  · rw [List.getElem?_eq_none (by simpa using h), if_neg h]; rfl
theorem rngD_len (lo : Int) (n : Nat) : (rngD lo n).length = n := by simp [rngD]
section
variable {K : PySem.W.Frag} {ct : CT} {m : List Addr} {ah : Hs} {H : Hp}
theorem wks_rng (lo : Int) (n : Nat) : Wks K ct (rngD lo n) m ah H (Itr lo n) := fun m2 h2 H2 hr ex => by
  refine ⟨fun i hi => by rw [rngD_len] at hi; exact hi, fun i d hd => ?_⟩
  rw [rngD_get] at hd
  split at hd
  · rename_i hi
    cases hd
    refine ⟨hi, fun x H3 hy => ?_⟩
    obtain ⟨rfl, rfl⟩ := hy
    exact ⟨hr, Ext.refl _ _ _, .int _⟩
  · cases hd
end
theorem pureLst_of {K : PySem.W.Frag} {ct : CT} {m : List Addr} {ah : Hs} {H : Hp} {x : Vl} {ds : List D} {v : V} (e : pureLst x = some ds) (r : VlR K ct m ah H x v) : ∃ a vs, v = .ref a ∧ (H a = some (.lst vs) ∨ ∃ o, H a = some (.frz o (.lst vs))) ∧ Sf m ah a ∧ DRs K ct (Sf m ah) H ds vs := by
  unfold pureLst at e
  split at e
  · cases e
    cases r with
    | lv h s t => exact ⟨_, _, rfl, .inl h, s, t⟩
  · cases e
end Mi

/-! Mi5: what a for walks; loops -/
namespace Mi
open PySem PySem.Spec L2

section
variable {K : PySem.W.Frag} {ct : CT} {m : List Addr} {ah : Hs} {H : Hp}
theorem sqL_uniq {a : Addr} {xs ys : List V} (h : H a = some (.lst xs) ∨ ∃ o, H a = some (.frz o (.lst xs))) : SqL K H a xs := h.elim (fun h => .of h) fun ⟨o, h⟩ => .inl (.inr ⟨o, h⟩)
/-- a yield that is told of every list that may be read there -/
theorem wks_list {a : Addr} {ds : List D} {vs : List V} (h : H a = some (.lst vs) ∨ ∃ o, H a = some (.frz o (.lst vs))) (s : Sf m ah a) (r : DRs K ct (Sf m ah) H ds vs) : Wks K ct ds m ah H (Itl K a) := fun m2 h2 H2 hr ex => by
  have h' : SqL K H2 a vs := sqL_uniq (ys := vs) (h.imp (fun h => (ex _ _ h s).1) fun ⟨o, h⟩ => ⟨o, (ex _ _ h s).1⟩)
  have r' := r.mono ex
  refine ⟨fun i hi => ⟨vs, h', by rw [← r.length]; exact hi⟩, fun i d hd => ?_⟩
  obtain ⟨y, hy, ry⟩ := r'.get hd
  refine ⟨⟨vs, y, h', hy⟩, fun x H3 hx => ?_⟩
  obtain ⟨rfl, hx⟩ := hx
  have e := hx vs h'
  rw [hy] at e
  cases e
  exact ⟨hr, Ext.refl _ _ _, ry⟩
theorem sqT_ext {S S' : Addr → Prop} {H' : Hp} {a : Addr} {vs : List V} (k : Kp S H S' H') (h : (Rd H a (.tup vs) ∧ S a) ∨ TupW K a vs) : (Rd H' a (.tup vs) ∧ S' a) ∨ TupW K a vs := h.imp (fun ⟨a, b⟩ => k.rd a b) id
theorem sqT_of {S : Addr → Prop} {a : Addr} {vs : List V} (h : (Rd H a (.tup vs) ∧ S a) ∨ TupW K a vs) : SqT K H a vs := h.imp (fun z => z.1) id
theorem wks_tup {a : Addr} {ds : List D} {vs : List V} (h : (Rd H a (.tup vs) ∧ Sf m ah a) ∨ TupW K a vs) (r : DRs K ct (Sf m ah) H ds vs) : Wks K ct ds m ah H (Itt K a) := fun m2 h2 H2 hr ex => by
  have h' : SqT K H2 a vs := sqT_of (sqT_ext ex h)
  have r' := r.mono ex
  refine ⟨fun i hi => ⟨vs, h', by rw [← r.length]; exact hi⟩, fun i d hd => ?_⟩
  obtain ⟨y, hy, ry⟩ := r'.get hd
  refine ⟨⟨vs, y, h', hy⟩, fun x H3 hx => ?_⟩
  obtain ⟨rfl, hx⟩ := hx
  have e := hx vs h'
  rw [hy] at e
  cases e
  exact ⟨hr, Ext.refl _ _ _, ry⟩
def enumD (ds : List D) : List D := (List.range ds.length).map fun (i : Nat) => D.tup [.int (i : Nat), ds.getD i .non]
theorem enumD_get (ds : List D) (i : Nat) : (enumD ds)[i]? = (ds[i]?).map fun d => D.tup [.int (i : Nat), d] := by
  unfold enumD
  rw [List.getElem?_map]
  by_cases h : i < ds.length
  · rw [List.getElem?_range h, List.getElem?_eq_getElem h]
    simp [List.getD, List.getElem?_eq_getElem h]
  · rw [List.getElem?_eq_none (by simpa using h), List.getElem?_eq_none (by omega)]; rfl
theorem enumD_len (ds : List D) : (enumD ds).length = ds.length := by simp [enumD]
/-- a new pair -/
theorem pair_new {m2 : List Addr} {h2 : Hs} {H2 : Hp} (hr : HR K ct m2 h2 H2) {T : Addr} (hT : H2 T = none) {x y : V} {d e : D} (rx : DR K ct (Sf m2 h2) H2 d x) (ry : DR K ct (Sf m2 h2) H2 e y) :
    HR K ct m2 h2 (upd H2 T (.tup [x, y])) ∧ Ext m2 h2 H2 m2 h2 (upd H2 T (.tup [x, y])) ∧ DR K ct (Sf m2 h2) (upd H2 T (.tup [x, y])) (.tup [d, e]) (.ref T) :=
  ⟨(hr.pure (o := .tup [x, y]) hT).1, (hr.pure (o := .tup [x, y]) hT).2.1, new_tup (.cons rx (.cons ry .nil)) (hr.pure (o := .tup [x, y]) hT).2.1.kp (hr.freshS hT)⟩
theorem wks_enum {a : Addr} {ds : List D} {vs : List V} (h : H a = some (.lst vs) ∨ ∃ o, H a = some (.frz o (.lst vs))) (s : Sf m ah a) (r : DRs K ct (Sf m ah) H ds vs) : Wks K ct (enumD ds) m ah H (Ite K a) := fun m2 h2 H2 hr ex => by
  have h' : SqL K H2 a vs := sqL_uniq (ys := vs) (h.imp (fun h => (ex _ _ h s).1) fun ⟨o, h⟩ => ⟨o, (ex _ _ h s).1⟩)
  have r' := r.mono ex
  refine ⟨fun i hi => ⟨vs, h', by rw [← r.length]; rw [enumD_len] at hi; exact hi⟩, fun i d hd => ?_⟩
  rw [enumD_get] at hd
  cases q : ds[i]? with
  | none => rw [q] at hd; cases hd
  | some d0 =>
    rw [q] at hd; cases hd
    obtain ⟨y, hy, ry⟩ := r'.get q
    refine ⟨⟨vs, y, h', hy⟩, fun x H3 hx => ?_⟩
    obtain ⟨T, x1, rfl, hT, rfl, hx⟩ := hx
    have e := hx vs h'
    rw [hy] at e
    cases e
    exact pair_new hr hT (.int _) ry
def zipD (xs ys : List D) : List D := List.zipWith (fun x y => D.tup [x, y]) xs ys
theorem zipD_get {xs ys : List D} {i : Nat} {d : D} (h : (zipD xs ys)[i]? = some d) : ∃ x y, xs[i]? = some x ∧ ys[i]? = some y ∧ d = .tup [x, y] := by
  unfold zipD at h
  rw [List.getElem?_zipWith] at h
  split at h
  · rename_i x y hx hy
    cases h
    exact ⟨x, y, hx, hy, rfl⟩
  · cases h
theorem zipD_len (xs ys : List D) : (zipD xs ys).length = min xs.length ys.length := by simp [zipD]
theorem wks_zip {a b : Addr} {ds es : List D} {vs ws : List V} (h : H a = some (.lst vs) ∨ ∃ o, H a = some (.frz o (.lst vs))) (s : Sf m ah a) (r : DRs K ct (Sf m ah) H ds vs)
    (g : H b = some (.lst ws) ∨ ∃ o, H b = some (.frz o (.lst ws))) (s2 : Sf m ah b) (r2 : DRs K ct (Sf m ah) H es ws) : Wks K ct (zipD ds es) m ah H (Itz K a b) := fun m2 h2 H2 hr ex => by
  have h' : SqL K H2 a vs := sqL_uniq (ys := vs) (h.imp (fun h => (ex _ _ h s).1) fun ⟨o, h⟩ => ⟨o, (ex _ _ h s).1⟩)
  have g' : SqL K H2 b ws := sqL_uniq (ys := ws) (g.imp (fun h => (ex _ _ h s2).1) fun ⟨o, h⟩ => ⟨o, (ex _ _ h s2).1⟩)
  have r' := r.mono ex
  have r2' := r2.mono ex
  refine ⟨fun i hi => ⟨vs, ws, h', g', by rw [zipD_len, r.length, r2.length] at hi; omega⟩, fun i d hd => ?_⟩
  obtain ⟨x0, y0, h1, h2', rfl⟩ := zipD_get hd
  obtain ⟨x, hx, rx⟩ := r'.get h1
  obtain ⟨y, hy, ry⟩ := r2'.get h2'
  refine ⟨⟨vs, ws, x, y, h', g', hx, hy⟩, fun z H3 hz => ?_⟩
  obtain ⟨T, x1, y1, rfl, hT, rfl, f1, f2⟩ := hz
  have e1 := f1 vs h'
  have e2 := f2 ws g'
  rw [hx] at e1
  rw [hy] at e2
  cases e1; cases e2
  exact pair_new hr hT rx ry
theorem wks_zipT {a b : Addr} {ds es : List D} {vs ws : List V} (h : (Rd H a (.tup vs) ∧ Sf m ah a) ∨ TupW K a vs) (r : DRs K ct (Sf m ah) H ds vs)
    (g : (Rd H b (.tup ws) ∧ Sf m ah b) ∨ TupW K b ws) (r2 : DRs K ct (Sf m ah) H es ws) : Wks K ct (zipD ds es) m ah H (RZ.ItzT K a b) := fun m2 h2 H2 hr ex => by
  have h' : SqT K H2 a vs := sqT_of (sqT_ext ex h)
  have g' : SqT K H2 b ws := sqT_of (sqT_ext ex g)
  have r' := r.mono ex
  have r2' := r2.mono ex
  refine ⟨fun i hi => ⟨vs, ws, h', g', by rw [zipD_len, r.length, r2.length] at hi; omega⟩, fun i d hd => ?_⟩
  obtain ⟨x0, y0, h1, h2', rfl⟩ := zipD_get hd
  obtain ⟨x, hx, rx⟩ := r'.get h1
  obtain ⟨y, hy, ry⟩ := r2'.get h2'
  refine ⟨⟨vs, ws, x, y, h', g', hx, hy⟩, fun z H3 hz => ?_⟩
  obtain ⟨T, x1, y1, rfl, hT, rfl, f1, f2⟩ := hz
  have e1 := f1 vs h'
  have e2 := f2 ws g'
  rw [hx] at e1
  rw [hy] at e2
  cases e1; cases e2
  exact pair_new hr hT rx ry
end
def strD (x : Str) : List D := x.cps.toList.map fun c => D.str ⟨#[c]⟩
theorem wks_str {K : PySem.W.Frag} {ct : CT} {m : List Addr} {ah : Hs} {H : Hp} (x : Str) : Wks K ct (strD x) m ah H (Its x) := fun m2 h2 H2 hr ex => by
  refine ⟨fun i hi => by unfold strD at hi; rw [List.length_map, Array.length_toList] at hi; exact hi, fun i d hd => ?_⟩
  unfold strD at hd
  rw [List.getElem?_map, Array.getElem?_toList] at hd
  cases q : x.cps[i]? with
  | none => rw [q] at hd; cases hd
  | some c =>
    rw [q] at hd; cases hd
    refine ⟨(Array.getElem?_eq_some_iff.mp q).1, fun v H3 hv => ?_⟩
    obtain ⟨rfl, c', hc, rfl⟩ := hv
    rw [q] at hc; cases hc
    exact ⟨hr, Ext.refl _ _ _, .str _⟩
def iEn (f : SemA) : SemI := fun σ h => rb (f σ h) fun xs h1 => match xs with
  | [x] => (match pureLst x with
    | some ds => .ok (enumD ds) h1
    | none => .bad)
  | _ => .bad
def iZp (f : SemA) : SemI := fun σ h => rb (f σ h) fun xs h1 => match xs with
  | [x, y] => (match pureLst x, pureLst y with
    | some ds, some es => .ok (zipD ds es) h1
    | _, _ => (match pureTup x, pureTup y with
      | some ds, some es => .ok (zipD ds es) h1
      | _, _ => .bad))
  | _ => .bad
def iSt (f : SemE) : SemI := fun σ h => rb (f σ h) fun x h1 => match x with
  | .d (.str z) => .ok (strD z) h1
  | _ => .bad
/-- a small number, told without reckoning on its sign -/
def smI (j : Int) : Bool := Nat.ble j.natAbs 1000000000
theorem smI_ok {j : Int} (h : smI j = true) : j < 2 ^ 62 ∧ -(2 ^ 62) ≤ j := by
  have := Nat.le_of_ble_eq_true h
  omega
def iA1 (f : SemA) : SemI := fun σ h => rb (f σ h) fun xs h1 => match xs with
  | [.d (.int j)] => if smI j = true then .ok (rngD 0 j.toNat) h1 else .bad
  | _ => .bad
def iA2 (f : SemA) : SemI := fun σ h => rb (f σ h) fun xs h1 => match xs with
  | [.d (.int i), .d (.int j)] => if smI i = true ∧ smI j = true then .ok (rngD i (j - i).toNat) h1 else .bad
  | _ => .bad
section
variable {X : Cx} {ct : CT} {W : WX} {tg e e2 : Expr} {f : SemE} {fs : SemA} {p pos tpos : Pos} {elts : List Expr} {kk : Nat}
theorem si_list (he : SE X ct W e f) : SI X ct W tg e (iLs f) :=
  PI.imp (pi_list he) fun σV H R ⟨m, ah, σ, hr, lr, p⟩ => ⟨m, ah, σ, hr, lr, (Po.bind (R := VlR X.K ct) p).imp fun v H1 ⟨m1, h1, x, hr1, e1, r1, p1⟩ => by
    dsimp only at p1
    split at p1
    · rename_i ds q
      obtain ⟨a, vs, rfl, h, s, r⟩ := pureLst_of q r1
      exact ⟨a, rfl, ⟨vs, sqL_uniq (ys := vs) h⟩, p1 m1 H1 _ hr1 (Ext.refl _ _ _) (wks_list h s r)⟩
    · exact p1.elim⟩
theorem si_tup (he : SE X ct W e f) : SI X ct W tg e (iTu f) :=
  PI.imp (pi_tup he) fun σV H R ⟨m, ah, σ, hr, lr, p⟩ => ⟨m, ah, σ, hr, lr, (Po.bind (R := VlR X.K ct) p).imp fun v H1 ⟨m1, h1, x, hr1, e1, r1, p1⟩ => by
    dsimp only at p1
    split at p1
    · rename_i ds q
      unfold pureTup at q
      split at q
      · cases q
        cases r1 with
        | tup h r => exact ⟨_, rfl, ⟨_, sqT_of h⟩, p1 m1 H1 _ hr1 (Ext.refl _ _ _) (wks_tup h r)⟩
      · cases q
    · exact p1.elim⟩
theorem si_rng1 (hg : Gl X "range") (hm : X.mg "range" = none) (ha : SA X ct W [e] fs) (hs : starEach [e] X.env = [(false, eval e X.env)] := by rfl) : SI X ct W tg (.Call (.Name "range" p) [e] [] pos) (iA1 fs) :=
  PI.imp (pi_range1 hg hm ha hs) fun σV H R ⟨m, ah, σ, hr, lr, p⟩ => ⟨m, ah, σ, hr, lr, (Po.bind (R := VlRs X.K ct) p).imp fun vs H1 ⟨m1, h1, x, hr1, e1, r1, p1⟩ => by
    dsimp only at p1
    split at p1
    · rename_i j
      cases r1 with
      | cons r t =>
        cases t; cases r
        split at p1
        · rename_i hj
          exact ⟨j, rfl, (smI_ok hj).2, (smI_ok hj).1, p1 m1 H1 _ hr1 (Ext.refl _ _ _) (wks_rng 0 _)⟩
        · exact p1.elim
    · exact p1.elim⟩
theorem si_rng2 (hg : Gl X "range") (hm : X.mg "range" = none) (ha : SA X ct W [e, e2] fs) (hs : starEach [e, e2] X.env = [(false, eval e X.env), (false, eval e2 X.env)] := by rfl) (hs2 : starEach [e2] X.env = [(false, eval e2 X.env)] := by rfl) :
    SI X ct W tg (.Call (.Name "range" p) [e, e2] [] pos) (iA2 fs) :=
  PI.imp (pi_range2 hg hm ha hs hs2) fun σV H R ⟨m, ah, σ, hr, lr, p⟩ => ⟨m, ah, σ, hr, lr, (Po.bind (R := VlRs X.K ct) p).imp fun vs H1 ⟨m1, h1, x, hr1, e1, r1, p1⟩ => by
    dsimp only at p1
    split at p1
    · rename_i i j
      cases r1 with
      | cons r t =>
        cases t with
        | cons r2 t =>
          cases t; cases r; cases r2
          split at p1
          · rename_i hj
            exact ⟨i, j, rfl, ⟨(smI_ok hj.1).2, (smI_ok hj.1).1, (smI_ok hj.2).2, (smI_ok hj.2).1⟩, p1 m1 H1 _ hr1 (Ext.refl _ _ _) (wks_rng i _)⟩
          · exact p1.elim
    · exact p1.elim⟩
theorem si_enum (hg : Gl X "enumerate") (hm : X.mg "enumerate" = none) (ha : SA X ct W [e] fs) (hs : starEach [e] X.env = [(false, eval e X.env)] := by rfl) : SI X ct W (.Tuple elts kk tpos) (.Call (.Name "enumerate" p) [e] [] pos) (iEn fs) :=
  PI.imp (pi_enum hg hm ha hs) fun σV H R ⟨m, ah, σ, hr, lr, p⟩ => ⟨m, ah, σ, hr, lr, (Po.bind (R := VlRs X.K ct) p).imp fun vs H1 ⟨m1, h1, x, hr1, e1, r1, p1⟩ => by
    dsimp only at p1
    split at p1
    · cases r1 with
      | cons r t =>
        cases t
        split at p1
        · rename_i ds q
          obtain ⟨a, vs, rfl, h, s, r⟩ := pureLst_of q r
          exact ⟨a, vs, rfl, sqL_uniq (ys := vs) h, p1 m1 H1 _ hr1 (Ext.refl _ _ _) (wks_enum h s r)⟩
        · exact p1.elim
    · exact p1.elim⟩
theorem si_zip (hg : Gl X "zip") (hm : X.mg "zip" = none) (ha : SA X ct W [e, e2] fs)
    (hs : starEach [e, e2] X.env = (false, eval e X.env) :: starEach [e2] X.env := by rfl) (hpl : (backTo pos (starEach [e2] X.env)).any (·.1) = false := by rfl) :
    SI X ct W (.Tuple elts kk tpos) (.Call (.Name "zip" p) [e, e2] [] pos) (iZp fs) :=
  PI.imp (RZ.pi_zipA hg hm ha hs hpl) fun σV H R ⟨m, ah, σ, hr, lr, p⟩ => ⟨m, ah, σ, hr, lr, (Po.bind (R := VlRs X.K ct) p).imp fun vs H1 ⟨m1, h1, x, hr1, e1, r1, p1⟩ => by
    dsimp only at p1
    split at p1
    · cases r1 with
      | cons r t =>
        cases t with
        | cons r2 t =>
          cases t
          split at p1
          · rename_i ds es q1 q2
            obtain ⟨a, vs, rfl, h, s, r⟩ := pureLst_of q1 r
            obtain ⟨b, ws, rfl, h2, s2, r2⟩ := pureLst_of q2 r2
            exact ⟨a, b, vs, ws, rfl, .inl ⟨sqL_uniq (ys := vs) h, sqL_uniq (ys := ws) h2, p1 m1 H1 _ hr1 (Ext.refl _ _ _) (wks_zip h s r h2 s2 r2)⟩⟩
          · split at p1
            · rename_i ds es q1 q2
              unfold pureTup at q1 q2
              split at q1
              · cases q1
                split at q2
                · cases q2
                  cases r with
                  | tup h r =>
                    cases r2 with
                    | tup h2 r2 => exact ⟨_, _, _, _, rfl, .inr ⟨sqT_of h, sqT_of h2, p1 m1 H1 _ hr1 (Ext.refl _ _ _) (wks_zipT h r h2 r2)⟩⟩
                · cases q2
              · cases q1
            · exact p1.elim
    · exact p1.elim⟩
theorem si_str (he : SE X ct W e f) : SI X ct W tg e (iSt f) :=
  PI.imp (pi_str he) fun σV H R ⟨m, ah, σ, hr, lr, p⟩ => ⟨m, ah, σ, hr, lr, (Po.bind (R := VlR X.K ct) p).imp fun v H1 ⟨m1, h1, x, hr1, e1, r1, p1⟩ => by
    dsimp only at p1
    split at p1
    · cases r1
      exact ⟨_, rfl, p1 m1 H1 _ hr1 (Ext.refl _ _ _) (wks_str _)⟩
    · exact p1.elim⟩
end

/-! ### for -/
/-- forget the objects from the n-th on -/
def clr (n : Nat) (σ : Lo) : Lo := σ.map fun o => match o with
  | some (.r k) => if k < n then some (.r k) else none
  | o => o
def forL (g : SemG) (body : SemS) : List D → Lo → Hs → RS
  | [], σ, h => .ok .nx σ h
  | d :: ds, σ, h => match g (.d d) σ h with
    | none => .bad
    | some (σ1, h1) => match body σ1 h1 with
      | .ok .nx σ2 h2 => forL g body ds (clr h.length σ2) (h2.take h.length)
      | .ok .cnt σ2 h2 => forL g body ds (clr h.length σ2) (h2.take h.length)
      | .ok .brk σ2 h2 => .ok .nx (clr h.length σ2) (h2.take h.length)
      | .ok (.ret v) σ2 h2 => .ok (.ret v) σ2 h2
      | .exc e σ2 h2 => .exc e σ2 h2
      | .bad => .bad
def sFor (it : SemI) (g : SemG) (body : SemS) : SemS := fun σ h => sb (it σ h) σ fun ds h1 => forL g body ds σ h1
/-- .. where new objects outlive a turn -/
def forN (g : SemG) (body : SemS) : List D → Lo → Hs → RS
  | [], σ, h => .ok .nx σ h
  | d :: ds, σ, h => match g (.d d) σ h with
    | none => .bad
    | some (σ1, h1) => match body σ1 h1 with
      | .ok .nx σ2 h2 => forN g body ds σ2 h2
      | .ok .cnt σ2 h2 => forN g body ds σ2 h2
      | .ok .brk σ2 h2 => .ok .nx σ2 h2
      | .ok (.ret v) σ2 h2 => .ok (.ret v) σ2 h2
      | .exc e σ2 h2 => .exc e σ2 h2
      | .bad => .bad
def sForN (it : SemI) (g : SemG) (body : SemS) : SemS := fun σ h => sb (it σ h) σ fun ds h1 => forN g body ds σ h1
section
variable {K : PySem.W.Frag} {ct : CT} {W : WX} {m m' : List Addr} {ah ah' : Hs} {H H' : Hp}
theorem LR.clr {σ : Lo} {σV : L2.St} (hr : HR K ct m' ah' H') (e : Ext m ah H m' ah' H') (hl : m.length = ah.length) (lr : LR K ct m' ah' H' σ σV) : LR K ct m (ah'.take ah.length) H' (clr ah.length σ) σV := by
  refine ⟨by unfold Mi.clr; rw [List.length_map]; exact lr.len, fun i x hx => ?_⟩
  unfold Mi.clr at hx
  rw [List.getElem?_map] at hx
  have kp := (hr.trim m.length).2
  have em : m'.take m.length = m := by
    obtain ⟨t, rfl⟩ := e.pre
    rw [List.take_left' rfl]
  rw [em, hl] at kp
  cases q : σ[i]? with
  | none => rw [q] at hx; cases hx
  | some o =>
    rw [q] at hx
    cases o with
    | none => simp at hx
    | some y =>
      obtain ⟨v, hv, rv⟩ := lr.at_ i y q
      cases y with
      | d y =>
        simp only [Option.map_some, Option.some.injEq] at hx
        subst hx
        exact ⟨v, hv, DR.mono kp rv⟩
      | r k =>
        simp only [Option.map_some, Option.some.injEq] at hx
        split at hx
        · rename_i hk
          cases hx
          obtain ⟨a, ha, rfl⟩ := rv
          refine ⟨_, hv, a, ?_, rfl⟩
          obtain ⟨t, rfl⟩ := e.pre
          rw [List.getElem?_append_left (by rw [hl]; exact hk)] at ha
          exact ha
        · cases hx
theorem HR.trim' (hr : HR K ct m ah H) (h' : HR K ct m' ah' H') (e : Ext m ah H m' ah' H') : HR K ct m (ah'.take ah.length) H' ∧ Ext m ah H m (ah'.take ah.length) H' := by
  rw [← hr.len]
  exact ⟨HR.trimmed h' e, Ext.trimmed h' e⟩
end
section
variable {X : Cx} {ct : CT} {W : WX} {pos : Pos} {tg iter : Expr} {body : List Stmt} {it : SemI} {g : SemG} {u : SemS}
theorem rd_for {D : Ends} {σV : L2.St} {H : Hp} (h : rdS X.K ct W (sFor it g u) D σV H) : tFor (rdI X.K ct W it) (rdG X.K ct g) (rdS X.K ct W u) D σV H := by
  obtain ⟨m, ah, σ, hr, lr, p⟩ := h
  refine ⟨m, ah, σ, hr, lr, (PoS.bind (R := fun m1 h1 H1 ds J => Wks X.K ct ds m1 h1 H1 J) lr p).imp fun J H1 ⟨m1, h1, ds, hr1, e1, w1, p1⟩ => ?_⟩
  dsimp only at p1 w1
  refine ⟨fun i n σV H => n = ds.length - i ∧ i ≤ ds.length ∧ ∃ m2 h2 σ2, HR X.K ct m2 h2 H ∧ LR X.K ct m2 h2 H σ2 σV ∧ Ext m1 h1 H1 m2 h2 H ∧ PoS X.K ct W D m2 h2 H (forL g u (ds.drop i) σ2 h2),
    ⟨ds.length, by simp, Nat.zero_le _, m1, h1, σ, hr1, lr.ext e1, Ext.refl _ _ _, by rw [List.drop_zero]; exact p1⟩, ?_⟩
  rintro i n σV2 H2 ⟨rfl, hi, m2, h2, σ2, hr2, l2, e2, p2⟩
  obtain ⟨ws, wg⟩ := w1 m2 h2 H2 hr2 e2.kp
  by_cases hlt : i < ds.length
  · rw [List.drop_eq_getElem_cons hlt] at p2
    obtain ⟨go, wy⟩ := wg i _ (List.getElem?_eq_getElem hlt)
    refine .inr ⟨go, fun σV3 H3 => ∃ m3 h3 σ3, HR X.K ct m3 h3 H3 ∧ LR X.K ct m3 h3 H3 σ3 σV3 ∧ Ext m1 h1 H1 m3 h3 H3 ∧ PoS X.K ct W D m3 h3 H3 (forL g u (ds.drop (i + 1)) σ3 h3),
      fun σV3 H3 ⟨m3, h3, σ3, q1, q2, q3, q4⟩ => ⟨ds.length - (i + 1), by omega, rfl, hlt, m3, h3, σ3, q1, q2, q3, q4⟩, fun x H3 hy => ?_⟩
    obtain ⟨hr3, e3, rd⟩ := wy x H3 hy
    refine ⟨m2, h2, σ2, .d _, hr3, l2.ext e3, rd, ?_⟩
    rw [forL] at p2
    cases q : g (.d ds[i]) σ2 h2 with
    | none => rw [q] at p2; exact p2.elim
    | some z =>
      obtain ⟨σ4, h4⟩ := z
      rw [q] at p2
      dsimp only at p2
      refine fun m4 H4 σV4 hr4 e4 l4 => ⟨m4, h4, σ4, hr4, l4, ?_⟩
      have e14 := (e2.trans e3).trans e4
      cases q2 : u σ4 h4 with
      | bad => rw [q2] at p2; exact p2.elim
      | exc e σ5 h5 =>
        rw [q2] at p2
        exact fun m5 H5 σV5 c d hr5 e5 l5 x5 => p2 m5 H5 σV5 c d hr5 ((e3.trans e4).trans e5) l5 x5
      | ok f σ5 h5 =>
        rw [q2] at p2
        cases f with
        | nx =>
          refine fun m5 H5 σV5 hr5 e5 l5 => ?_
          obtain ⟨hr6, e6⟩ := HR.trim' hr2 hr5 ((e3.trans e4).trans e5)
          exact ⟨m2, _, _, hr6, LR.clr hr5 ((e3.trans e4).trans e5) hr2.len l5, e2.trans e6, PoS.ext p2 e6⟩
        | cnt =>
          refine fun m5 H5 σV5 hr5 e5 l5 => ?_
          obtain ⟨hr6, e6⟩ := HR.trim' hr2 hr5 ((e3.trans e4).trans e5)
          exact ⟨m2, _, _, hr6, LR.clr hr5 ((e3.trans e4).trans e5) hr2.len l5, e2.trans e6, PoS.ext p2 e6⟩
        | brk =>
          refine fun m5 H5 σV5 hr5 e5 l5 => ?_
          obtain ⟨hr6, e6⟩ := HR.trim' hr2 hr5 ((e3.trans e4).trans e5)
          exact p2 m2 H5 σV5 hr6 e6 (LR.clr hr5 ((e3.trans e4).trans e5) hr2.len l5)
        | ret v => exact fun m5 H5 σV5 hr5 e5 l5 => p2 m5 H5 σV5 hr5 ((e3.trans e4).trans e5) l5
  · have e : i = ds.length := by omega
    subst e
    rw [List.drop_length] at p2
    exact .inl ⟨ws _ (Nat.le_refl _), PoS.nx hr2 l2 p2⟩
theorem ss_for (hp : PassesOwn (model X.prog X.w) X.A X.env X.xe) (hc : X.calm = true) (hi : SI X ct W tg iter it) (hg : SG X ct tg g) (hb : SSs X ct W body u)
    (hs : ∀ x, foldedSetIterable iter X.env x = pure x := by intro _; rfl) : SS X ct W (.For tg iter body [] pos) (sFor it g u) := PS.imp (ps_for hp hc hi hg hb hs) fun _ _ _ h => rd_for h
theorem rd_forN {D : Ends} {σV : L2.St} {H : Hp} (h : rdS X.K ct W (sForN it g u) D σV H) : tFor (rdI X.K ct W it) (rdG X.K ct g) (rdS X.K ct W u) D σV H := by
  obtain ⟨m, ah, σ, hr, lr, p⟩ := h
  refine ⟨m, ah, σ, hr, lr, (PoS.bind (R := fun m1 h1 H1 ds J => Wks X.K ct ds m1 h1 H1 J) lr p).imp fun J H1 ⟨m1, h1, ds, hr1, e1, w1, p1⟩ => ?_⟩
  dsimp only at p1 w1
  refine ⟨fun i n σV H => n = ds.length - i ∧ i ≤ ds.length ∧ ∃ m2 h2 σ2, HR X.K ct m2 h2 H ∧ LR X.K ct m2 h2 H σ2 σV ∧ Ext m1 h1 H1 m2 h2 H ∧ PoS X.K ct W D m2 h2 H (forN g u (ds.drop i) σ2 h2),
    ⟨ds.length, by simp, Nat.zero_le _, m1, h1, σ, hr1, lr.ext e1, Ext.refl _ _ _, by rw [List.drop_zero]; exact p1⟩, ?_⟩
  rintro i n σV2 H2 ⟨rfl, hi, m2, h2, σ2, hr2, l2, e2, p2⟩
  obtain ⟨ws, wg⟩ := w1 m2 h2 H2 hr2 e2.kp
  by_cases hlt : i < ds.length
  · rw [List.drop_eq_getElem_cons hlt] at p2
    obtain ⟨go, wy⟩ := wg i _ (List.getElem?_eq_getElem hlt)
    refine .inr ⟨go, fun σV3 H3 => ∃ m3 h3 σ3, HR X.K ct m3 h3 H3 ∧ LR X.K ct m3 h3 H3 σ3 σV3 ∧ Ext m1 h1 H1 m3 h3 H3 ∧ PoS X.K ct W D m3 h3 H3 (forN g u (ds.drop (i + 1)) σ3 h3),
      fun σV3 H3 ⟨m3, h3, σ3, q1, q2, q3, q4⟩ => ⟨ds.length - (i + 1), by omega, rfl, hlt, m3, h3, σ3, q1, q2, q3, q4⟩, fun x H3 hy => ?_⟩
    obtain ⟨hr3, e3, rd⟩ := wy x H3 hy
    refine ⟨m2, h2, σ2, .d _, hr3, l2.ext e3, rd, ?_⟩
    rw [forN] at p2
    cases q : g (.d ds[i]) σ2 h2 with
    | none => rw [q] at p2; exact p2.elim
    | some z =>
      obtain ⟨σ4, h4⟩ := z
      rw [q] at p2
      dsimp only at p2
      refine fun m4 H4 σV4 hr4 e4 l4 => ⟨m4, h4, σ4, hr4, l4, ?_⟩
      cases q2 : u σ4 h4 with
      | bad => rw [q2] at p2; exact p2.elim
      | exc e σ5 h5 =>
        rw [q2] at p2
        exact fun m5 H5 σV5 c d hr5 e5 l5 x5 => p2 m5 H5 σV5 c d hr5 ((e3.trans e4).trans e5) l5 x5
      | ok f σ5 h5 =>
        rw [q2] at p2
        cases f with
        | nx => exact fun m5 H5 σV5 hr5 e5 l5 => ⟨m5, h5, σ5, hr5, l5, e2.trans ((e3.trans e4).trans e5), PoS.ext p2 ((e3.trans e4).trans e5)⟩
        | cnt => exact fun m5 H5 σV5 hr5 e5 l5 => ⟨m5, h5, σ5, hr5, l5, e2.trans ((e3.trans e4).trans e5), PoS.ext p2 ((e3.trans e4).trans e5)⟩
        | brk => exact fun m5 H5 σV5 hr5 e5 l5 => p2 m5 H5 σV5 hr5 ((e3.trans e4).trans e5) l5
        | ret v => exact fun m5 H5 σV5 hr5 e5 l5 => p2 m5 H5 σV5 hr5 ((e3.trans e4).trans e5) l5
  · have e : i = ds.length := by omega
    subst e
    rw [List.drop_length] at p2
    exact .inl ⟨ws _ (Nat.le_refl _), PoS.nx hr2 l2 p2⟩
theorem ss_forN (hp : PassesOwn (model X.prog X.w) X.A X.env X.xe) (hc : X.calm = true) (hi : SI X ct W tg iter it) (hg : SG X ct tg g) (hb : SSs X ct W body u)
    (hs : ∀ x, foldedSetIterable iter X.env x = pure x := by intro _; rfl) : SS X ct W (.For tg iter body [] pos) (sForN it g u) := PS.imp (ps_for hp hc hi hg hb hs) fun _ _ _ h => rd_forN h
end

/-! ### while -/
def whL (t : SemT) (body : SemS) : Nat → Lo → Hs → RS
  | 0, _, _ => .bad
  | n + 1, σ, h => sb (t σ h) σ fun b h1 => if b = true then (match body σ h1 with
      | .ok .nx σ2 h2 => whL t body n (clr h.length σ2) (h2.take h.length)
      | .ok .cnt σ2 h2 => whL t body n (clr h.length σ2) (h2.take h.length)
      | .ok .brk σ2 h2 => .ok .nx (clr h.length σ2) (h2.take h.length)
      | .ok (.ret v) σ2 h2 => .ok (.ret v) σ2 h2
      | .exc e σ2 h2 => .exc e σ2 h2
      | .bad => .bad) else .ok .nx σ h1
/-- as many turns as anything may ask -/
def most : Nat := 10 ^ 30
def sWh (t : SemT) (body : SemS) : SemS := whL t body most
theorem whL_more {t : SemT} {body : SemS} : ∀ (n k : Nat) (σ : Lo) (h : Hs), whL t body n σ h ≠ .bad → whL t body (n + k) σ h = whL t body n σ h
  | 0, k, σ, h, hb => absurd rfl hb
  | n + 1, k, σ, h, hb => by
    rw [show n + 1 + k = (n + k) + 1 by omega, whL, whL]
    rw [whL] at hb
    cases e : t σ h with
    | bad => rfl
    | exc x h1 => rfl
    | ok b h1 =>
      rw [e] at hb
      simp only [sb_ok] at hb ⊢
      cases b with
      | false => rfl
      | true =>
        simp only [if_true] at hb ⊢
        cases e2 : body σ h1 with
        | bad => rfl
        | exc x σ2 h2 => rfl
        | ok f σ2 h2 =>
          rw [e2] at hb
          cases f with
          | nx => exact whL_more n k _ _ hb
          | cnt => exact whL_more n k _ _ hb
          | brk => rfl
          | ret v => rfl
/-- a while comes to an end in n turns -/
theorem sWh_of {t : SemT} {body : SemS} {n : Nat} {σ : Lo} {h : Hs} {r : RS} (e : whL t body n σ h = r) (hr : r ≠ .bad) (hn : n ≤ most) : sWh t body σ h = r := by
  unfold sWh
  obtain ⟨k, hk⟩ : ∃ k, most = n + k := ⟨most - n, by omega⟩
  rw [hk, whL_more n k σ h (by rw [e]; exact hr), e]
section
variable {X : Cx} {ct : CT} {W : WX} {pos : Pos} {c : Expr} {body : List Stmt} {t : SemT} {u : SemS}
theorem rd_while {D : Ends} {σV : L2.St} {H : Hp} (h : rdS X.K ct W (sWh t u) D σV H) : tWhile (rdT X.K ct W t) (rdS X.K ct W u) D σV H := by
  obtain ⟨m, ah, σ, hr, lr, p⟩ := h
  refine ⟨fun n σV H => ∃ m2 h2 σ2, HR X.K ct m2 h2 H ∧ LR X.K ct m2 h2 H σ2 σV ∧ PoS X.K ct W D m2 h2 H (whL t u n σ2 h2), ⟨most, m, ah, σ, hr, lr, p⟩, ?_⟩
  rintro n σV2 H2 ⟨m2, h2, σ2, hr2, l2, p2⟩
  cases n with
  | zero => exact p2.elim
  | succ n =>
    rw [whL] at p2
    refine ⟨m2, h2, σ2, hr2, l2, ?_⟩
    cases e : t σ2 h2 with
    | bad => rw [e] at p2; exact p2.elim
    | exc x h3 => rw [e] at p2; exact fun m3 H3 c d hr3 e3 x3 => p2 m3 H3 σV2 c d hr3 e3 (l2.ext e3) x3
    | ok b h3 =>
      rw [e] at p2
      simp only [sb_ok] at p2
      refine fun m3 H3 b' hr3 e3 r3 => ?_
      subst r3
      cases b with
      | false => exact p2 m3 H3 σV2 hr3 e3 (l2.ext e3)
      | true =>
        refine ⟨fun σV4 H4 => ∃ m4 h4 σ4, HR X.K ct m4 h4 H4 ∧ LR X.K ct m4 h4 H4 σ4 σV4 ∧ PoS X.K ct W D m4 h4 H4 (whL t u n σ4 h4), fun σV4 H4 q => ⟨n, Nat.lt_succ_self _, q⟩, m3, h3, σ2, hr3, l2.ext e3, ?_⟩
        simp only [if_true] at p2
        cases q2 : u σ2 h3 with
        | bad => rw [q2] at p2; exact p2.elim
        | exc e σ5 h5 =>
          rw [q2] at p2
          exact fun m5 H5 σV5 c d hr5 e5 l5 x5 => p2 m5 H5 σV5 c d hr5 (e3.trans e5) l5 x5
        | ok f σ5 h5 =>
          rw [q2] at p2
          cases f with
          | nx =>
            refine fun m5 H5 σV5 hr5 e5 l5 => ?_
            obtain ⟨hr6, e6⟩ := HR.trim' hr2 hr5 (e3.trans e5)
            exact ⟨m2, _, _, hr6, LR.clr hr5 (e3.trans e5) hr2.len l5, PoS.ext p2 e6⟩
          | cnt =>
            refine fun m5 H5 σV5 hr5 e5 l5 => ?_
            obtain ⟨hr6, e6⟩ := HR.trim' hr2 hr5 (e3.trans e5)
            exact ⟨m2, _, _, hr6, LR.clr hr5 (e3.trans e5) hr2.len l5, PoS.ext p2 e6⟩
          | brk =>
            refine fun m5 H5 σV5 hr5 e5 l5 => ?_
            obtain ⟨hr6, e6⟩ := HR.trim' hr2 hr5 (e3.trans e5)
            exact p2 m2 H5 σV5 hr6 e6 (LR.clr hr5 (e3.trans e5) hr2.len l5)
          | ret v => exact fun m5 H5 σV5 hr5 e5 l5 => p2 m5 H5 σV5 hr5 (e3.trans e5) l5
theorem ss_while (hp : PassesOwn (model X.prog X.w) X.A X.env X.xe) (hc : ST X ct W c t) (hb : SSs X ct W body u) : SS X ct W (.While c body [] pos) (sWh t u) := PS.imp (ps_while hp hc hb) fun _ _ _ h => rd_while h
end
end Mi

/-! Mi6: defs and their calls, instances -/
namespace Mi
open PySem PySem.Spec L2

abbrev CallT := Nat → List Vl → Hs → Res Vl
structure MDef where
  np : Nat
  ns : Nat
  keep : Bool
  body : CallT → SemS
def startL (n : Nat) (xs : List Vl) : Lo := xs.map some ++ List.replicate (n - xs.length) none
/-- what a def hands back: data, or (keep) the changeable object itself -/
def retV (keep : Bool) (n0 : Nat) (v : Vl) (h : Hs) : Res Vl := match keep with
  | false => (match toD v h with
    | some (d, h') => .ok (.d d) (h'.take n0)
    | none => .bad)
  | true => (match v with
    | .d x => .ok (.d x) (h.take n0)
    | .r k => if k < n0 then .ok (.r k) (h.take n0) else (match h[k]? with
      | some o => .ok (.r n0) (h.take n0 ++ [o])
      | none => .bad))
def fin (keep : Bool) (n0 : Nat) (r : RS) : Res Vl := match r with
  | .ok .nx _ h => .ok (.d .non) (h.take n0)
  | .ok (.ret v) _ h => retV keep n0 v h
  | .exc e _ h => .exc e (h.take n0)
  | _ => .bad
def runD (md : MDef) (call : CallT) (xs : List Vl) (h : Hs) : Res Vl := if xs.length = md.np then fin md.keep h.length (md.body call (startL md.ns xs) h) else .bad
def callF (defs : List MDef) : Nat → CallT
  | 0 => fun _ _ _ => .bad
  | n + 1 => fun i xs h => match defs[i]? with
    | none => .bad
    | some md => runD md (callF defs n) xs h
theorem callF_len {defs : List MDef} {n i : Nat} {xs : List Vl} {h : Hs} {md : MDef} (hd : defs[i]? = some md) (hb : callF defs n i xs h ≠ .bad) : xs.length = md.np := by
  cases n with
  | zero => exact absurd rfl hb
  | succ n =>
    unfold callF at hb
    rw [hd] at hb
    dsimp only at hb
    unfold runD at hb
    by_cases e : xs.length = md.np
    · exact e
    · rw [if_neg e] at hb; exact absurd rfl hb
/-- what a caller is promised of def i -/
def spC (K : PySem.W.Frag) (ct : CT) (call : CallT) (i : Nat) : Sp := fun vs H Q E => ∃ m ah xs, HR K ct m ah H ∧ VlRs K ct m ah H xs vs ∧ Po K ct (fun c d _ H' => E c d H') [] (VlR K ct) m ah H (call i xs ah) Q

section
variable {K : PySem.W.Frag} {ct : CT} {W : WX} {m m' : List Addr} {ah ah' : Hs} {H H' : Hp}
theorem LR.start {xs : List Vl} {vs : List V} {N : List Str} (r : VlRs K ct m ah H xs vs) (hl : xs.length ≤ N.length) : LR K ct m ah H (startL N.length xs) (L2.start N vs) := by
  have hv : xs.length = vs.length := r.length
  unfold startL L2.start
  refine ⟨by simp [hv], fun i x hx => ?_⟩
  by_cases hi : i < xs.length
  · rw [List.getElem?_append_left (by simpa using hi), List.getElem?_map] at hx
    rw [List.getElem?_append_left (by simpa [← hv] using hi), List.getElem?_map]
    have get : ∀ {xs : List Vl} {vs : List V} {i : Nat} {x : Vl}, VlRs K ct m ah H xs vs → xs[i]? = some x → ∃ v, vs[i]? = some v ∧ VlR K ct m ah H x v := by
      intro xs vs i x r
      induction r generalizing i with
      | nil => intro e; simp at e
      | cons r t ih =>
        intro e
        cases i with
        | zero => simp at e; subst e; exact ⟨_, rfl, r⟩
        | succ i => simpa using ih (i := i) (by simpa using e)
    cases q : xs[i]? with
    | none => rw [q] at hx; cases hx
    | some y =>
      rw [q] at hx; cases hx
      obtain ⟨v, h1, h2⟩ := get r q
      exact ⟨v, by rw [h1]; rfl, h2⟩
  · rw [List.getElem?_append_right (by simpa using hi)] at hx
    rw [List.getElem?_replicate] at hx
    split at hx <;> cases hx
theorem fin_sound {keep : Bool} {E : XK} {r : RS} {Q : VK} (hr0 : HR K ct m ah H) (p : Po K ct (fun c d _ H' => E c d H') [] (VlR K ct) m ah H (fin keep ah.length r) Q) :
    PoS K ct (fun c d _ H' => E c d H') { nx := fun _ H' => Q .non H', rt := Q } m ah H r := by
  cases r with
  | bad => exact p
  | exc e σ h =>
    refine fun m1 H1 σV c d hr ex lr x => ?_
    obtain ⟨hr2, ex2⟩ := HR.trim' hr0 hr ex
    refine p m H1 c d hr2 ex2 ?_
    obtain ⟨x1, vs, x2, x3⟩ := x
    have kp := (hr.trim m.length).2
    obtain ⟨t, rfl⟩ := ex.pre
    rw [List.take_left' rfl, hr0.len] at kp
    exact ⟨x1, vs, x2.mono kp, x3.imp id fun ⟨dx, y1, y2, y3⟩ => ⟨dx, y1, (kp _ _ y2 y3).1, (kp _ _ y2 y3).2⟩⟩
  | ok f σ h =>
    cases f with
    | brk => exact p.elim
    | cnt => exact p.elim
    | nx =>
      refine fun m1 H1 σV hr ex lr => ?_
      obtain ⟨hr2, ex2⟩ := HR.trim' hr0 hr ex
      exact p m H1 .non hr2 ex2 .non
    | ret v =>
      refine fun m1 H1 σV hr ex lr u ru => ?_
      obtain ⟨hr2, ex2⟩ := HR.trim' hr0 hr ex
      have kp := (hr.trim m.length).2
      obtain ⟨t, et⟩ := ex.pre
      rw [et, List.take_left' rfl, hr0.len, ← et] at kp
      unfold fin retV at p
      cases keep with
      | false =>
        dsimp only at p
        cases e : toD v h with
        | none => rw [e] at p; exact p.elim
        | some q =>
          obtain ⟨d, h1⟩ := q
          rw [e] at p
          obtain ⟨hr3, ex3, r3⟩ := toD_sound hr e ru
          obtain ⟨hr4, ex4⟩ := HR.trim' hr0 hr3 (ex.trans ex3)
          have kp2 := (hr3.trim m.length).2
          rw [et, List.take_left' rfl, hr0.len, ← et] at kp2
          exact p m H1 u hr4 ex4 (DR.mono kp2 r3)
      | true =>
        dsimp only at p
        cases v with
        | d x => exact p m H1 u hr2 ex2 (DR.mono kp ru)
        | r k =>
          obtain ⟨a, ha, rfl⟩ := ru
          dsimp only at p
          split at p
          · rename_i hk
            refine p m H1 (.ref a) hr2 ex2 ⟨a, ?_, rfl⟩
            rw [et, List.getElem?_append_left (by rw [hr0.len]; exact hk)] at ha
            exact ha
          · rename_i hk
            obtain ⟨o, w, e2, hw, ow⟩ := hr.there ha
            rw [e2] at p
            dsimp only at p
            -- the new object, known at the end of the caller's
            have hm1 : ∀ (j : Nat) (b : Addr), m[j]? = some b → m1[j]? = some b := fun j b hb => ex.at hb
            have nin : ∀ j : Nat, m[j]? ≠ some a := fun j hj => by
              have := hr.inj _ _ _ (hm1 j a hj) ha
              have hj2 := (List.getElem?_eq_some_iff.mp hj).1
              rw [hr0.len] at hj2
              omega
            have lt : (h.take ah.length).length = m.length := by rw [← hr2.len]
            have lv : ∀ b, Lv (m ++ [a]) (h.take ah.length ++ [o]) b → Lv m1 h b := fun b ⟨j, q, f1, f2, f3⟩ => by
              by_cases hj : j < m.length
              · rw [List.getElem?_append_left hj] at f1
                rw [List.getElem?_append_left (by rw [lt]; exact hj), List.getElem?_take, if_pos (by rw [← hr0.len]; exact hj)] at f2
                exact ⟨j, q, hm1 j b f1, f2, f3⟩
              · rw [List.getElem?_append_right (by omega)] at f1
                rw [List.getElem?_append_right (by rw [lt]; omega), lt] at f2
                have z : j - m.length = 0 := by
                  have := (List.getElem?_eq_some_iff.mp f1).1
                  simpa using this
                rw [z] at f1 f2
                have f1' : a = b := by simpa using f1
                have f2' : o = q := by simpa using f2
                subst f1' f2'
                exact ⟨k, o, ha, e2, f3⟩
            have kp3 : Kp (Sf m1 h) H1 (Sf (m ++ [a]) (h.take ah.length ++ [o])) H1 := fun b q e s => ⟨e, fun l => s (lv b l)⟩
            have hr5 : HR K ct (m ++ [a]) (h.take ah.length ++ [o]) H1 := by
              refine ⟨by rw [List.length_append, List.length_append, lt]; rfl, fun i j b f1 f2 => ?_, fun j b q f1 f2 => ?_⟩
              · by_cases hi : i < m.length
                · rw [List.getElem?_append_left hi] at f1
                  by_cases hj : j < m.length
                  · rw [List.getElem?_append_left hj] at f2
                    exact hr0.inj _ _ _ f1 f2
                  · rw [List.getElem?_append_right (by omega)] at f2
                    have z : j - m.length = 0 := by
                      have := (List.getElem?_eq_some_iff.mp f2).1
                      simpa using this
                    rw [z] at f2
                    have : a = b := by simpa using f2
                    subst this
                    exact absurd f1 (nin i)
                · rw [List.getElem?_append_right (by omega)] at f1
                  have z : i - m.length = 0 := by
                    have := (List.getElem?_eq_some_iff.mp f1).1
                    simpa using this
                  rw [z] at f1
                  have : a = b := by simpa using f1
                  subst this
                  by_cases hj : j < m.length
                  · rw [List.getElem?_append_left hj] at f2
                    exact absurd f2 (nin j)
                  · have := (List.getElem?_eq_some_iff.mp f2).1
                    rw [List.length_append, List.length_singleton] at this
                    omega
              · by_cases hj : j < m.length
                · rw [List.getElem?_append_left hj] at f1
                  rw [List.getElem?_append_left (by rw [lt]; exact hj), List.getElem?_take, if_pos (by rw [← hr0.len]; exact hj)] at f2
                  obtain ⟨v, g1, g2⟩ := hr.ob j b q (hm1 j b f1) f2
                  exact ⟨v, g1, g2.mono kp3⟩
                · rw [List.getElem?_append_right (by omega)] at f1
                  rw [List.getElem?_append_right (by rw [lt]; omega), lt] at f2
                  have z : j - m.length = 0 := by
                    have := (List.getElem?_eq_some_iff.mp f1).1
                    simpa using this
                  rw [z] at f1 f2
                  have f1' : a = b := by simpa using f1
                  have f2' : o = q := by simpa using f2
                  subst f1' f2'
                  exact ⟨w, hw, ow.mono kp3⟩
            refine p (m ++ [a]) H1 (.ref a) hr5 ⟨⟨[a], rfl⟩, ex.kp.trans kp3⟩ ⟨a, ?_, rfl⟩
            rw [← hr0.len, List.getElem?_append_right (Nat.le_refl _), Nat.sub_self]; rfl
end

/-! ### all defs keep their promises -/
/-- one def: where it stands, its names, its parameters -/
structure Fn where
  f : Addr
  fd : FuncData
  ps : List Str
structure CallOk (P : Program) (w : World) (K : PySem.W.Frag) (mg : Str → Option Value) (base : Heap) (ct : CT) (fns : List Fn) (call : CallT) (n : Nat) : Prop where
  ok : ∀ (i : Nat) F, fns[i]? = some F → FnOk P w K mg base (L2.CX P w) (2 * n) F.f F.fd F.ps (spC K ct call i)
/-- one def's body means what its MDef says -/
structure BodyOk (P : Program) (w : World) (K : PySem.W.Frag) (mg : Str → Option Value) (base : Heap) (ct : CT) (fns : List Fn) (F : Fn) (md : MDef) : Prop where
  ex : ∃ (x qual : Str) (params : Arguments) (body : List Stmt) (scope : Scope) (dvs : List V) (kws : List (Str × V)) (N : List Str), FunD K x qual params body scope dvs kws F.f F.fd ∧ FnScope N F.ps scope ∧ F.ps.length = md.np ∧ N.length = md.ns ∧ md.np ≤ md.ns ∧
    ∀ (call : CallT) (n : Nat), CallOk P w K mg base ct fns call n → ∀ (cdv : Value) (A : Around) (outer : List Env) (s : Shared) (H : Hp) (E : XK), Room (2 * n + 1) (A.deeper (PyProof.Rows.envOfC qual scope s.heap.objs.size F.f cdv)) →
      SSs (cxOf (L2.CX P w) P w K mg base N qual scope F.f cdv A outer s H E) ct (fun c d _ H' => E c d H') body (md.body call)
theorem all_ok {P : Program} {w : World} {K : PySem.W.Frag} {mg : Str → Option Value} {base : Heap} {ct : CT} {fns : List Fn} {defs : List MDef} (hl : fns.length = defs.length)
    (hb : ∀ (i : Nat) F md, fns[i]? = some F → defs[i]? = some md → BodyOk P w K mg base ct fns F md) : ∀ n, CallOk P w K mg base ct fns (callF defs n) n
  | 0 => ⟨fun i F _ => ⟨fun vs H Q E ⟨_, _, _, _, _, p⟩ => p.elim, fun A outer s H args us vs Q E hr e0 hb r ⟨_, _, _, _, _, p⟩ => p.elim⟩⟩
  | n + 1 => ⟨fun i F hF => by
    have hi : i < defs.length := by rw [← hl]; exact (List.getElem?_eq_some_iff.mp hF).1
    have hd : defs[i]? = some defs[i] := List.getElem?_eq_getElem hi
    obtain ⟨x, qual, params, body, scope, dvs, kws, N, FD, sc, e1, e2, e3, hB⟩ := (hb i F _ hF hd).ex
    have ih := all_ok hl hb n
    have len : ∀ {xs : List Vl} {h : Hs}, callF defs (n + 1) i xs h ≠ .bad → xs.length = F.ps.length := fun q => by rw [e1]; exact callF_len hd q
    have nb : ∀ {K : PySem.W.Frag} {W : WX} {m : List Addr} {ah : Hs} {H : Hp} {Q : VK} {r : Res Vl}, Po K ct W [] (VlR K ct) m ah H r Q → r ≠ .bad := fun p e => by subst e; exact p
    refine FunD.ok (k := 2 * n + 1) FD sc (fun vs H Q E ⟨m, ah, xs, hr, rs, p⟩ => by rw [← rs.length]; exact len (nb p)) fun cdv A outer s H vs Q E hr ⟨m, ah, xs, h1, rs, p⟩ => ?_
    have hx : xs.length = defs[i].np := callF_len hd (nb p)
    unfold callF at p
    rw [hd] at p
    dsimp only at p
    unfold runD at p
    rw [if_pos hx] at p
    refine ⟨_, hB (callF defs n) n ih cdv A outer s H E hr, m, ah, startL defs[i].ns xs, h1, ?_, fin_sound h1 p⟩
    rw [← e2]
    exact LR.start rs (by omega)⟩

/-! ### calls -/
def eCl (call : CallT) (i : Nat) (ds : List D) (fs : SemA) : SemE := fun σ h => rb (fs σ h) fun xs h1 => call i (xs ++ ds.map Vl.d) h1
theorem VlRs.append {K : PySem.W.Frag} {ct : CT} {m : List Addr} {ah : Hs} {H : Hp} : ∀ {xs vs ys ws}, VlRs K ct m ah H xs vs → VlRs K ct m ah H ys ws → VlRs K ct m ah H (xs ++ ys) (vs ++ ws)
  | _, _, _, _, .nil, s => s
  | _, _, _, _, .cons r t, s => .cons r (VlRs.append t s)
/-- the defaults that fill up: data that stands in no heap -/
def Dfl (K : PySem.W.Frag) (ct : CT) (ds : List D) (dvs : List V) : Prop := ∀ m ah H, VlRs K ct m ah H (ds.map Vl.d) dvs
theorem Dfl.nil {K : PySem.W.Frag} {ct : CT} : Dfl K ct [] [] := fun _ _ _ => .nil
theorem Po.stil {α β : Type} {K : PySem.W.Frag} {ct : CT} {W : WX} {σV : L2.St} {R : List Addr → Hs → Hp → α → β → Prop} {m : List Addr} {ah : Hs} {H : Hp} {r : Res α} {Q : β → Hp → Prop} (p : Po K ct W σV R m ah H r Q) : Po K ct (fun c d _ H' => W c d σV H') [] R m ah H r Q := by
  cases r with
  | ok x h => exact p
  | exc x h => exact p
  | bad => exact p
section
variable {X : Cx} {ct : CT} {W : WX} {pos p apos : Pos} {e o : Expr} {es : List Expr} {f : SemE} {fs : SemA} {call : CallT} {n i : Nat} {F : Fn} {x : Str} {ds : List D} {dvs : List V} {dus : List Value} {fns : List Fn}
theorem run_cl {pins : List (Addr × Obj)} {σ : L2.St} {H : Hp} {s : Shared} {Q : VK} {us : List Value} {vs : List V} (co : CallOk X.prog X.w X.K X.mg X.base ct fns call n) (hF : fns[i]? = some F) (hr : Room (2 * n) X.A) (hb : Binds X.K F.fd F.ps dus) (hd : Vals dvs dus) (tk : Takes X W)
    (I : Inv X pins σ H s) (r : Vals vs us) (h : spC X.K ct call i (vs ++ dvs) H Q (WE W σ)) : wpAny (model X.prog X.w) X.A (PySem.call (.ref F.f) us) (EP X pins σ Q) X.xe s :=
  run_fnSD (E := WE W) (co.ok i F hF) hr hb hd (passAt tk σ) I r h
theorem se_call (co : CallOk X.prog X.w X.K X.mg X.base ct fns call n) (tk : Takes X W) (hr : Room (2 * n) X.A) (hF : fns[i]? = some F) (hg : Gl X x) (hm : X.mg x = some (.ref F.f)) (hk : PySem.W.keepIn X.K (.ref F.f) = true) (hb : Binds X.K F.fd F.ps dus) (hd : Vals dvs dus) (hq : Dfl X.K ct ds dvs)
    (ha : SA X ct W (e :: es) fs) (hdb : (x == ("__debug__" : Str)) = false := by decide) (he : starEach (e :: es) X.env = (false, eval e X.env) :: starEach es X.env := by rfl) (hpl : (backTo pos (starEach es X.env)).any (·.1) = false := by rfl) :
    SE X ct W (.Call (.Name x p) (e :: es) [] pos) (eCl call i ds fs) := by
  refine ⟨fun pins s σV H Q I ⟨m, ah, σ, hr0, lr, p⟩ => ?_⟩
  refine wpAny_Call_Name_kw (ld_glob I hg hm ?_ hdb)
  refine PySem.W.callWith_K (h₀ := X.base) I.ok.mod.kin hk (thn (ha.run pos pins s σV H _ I ⟨m, ah, σ, hr0, lr, Po.bind (R := VlRs X.K ct) p⟩) fun us s1 ⟨vs, H1, I1, r, m1, h1, xs, hr1, e1, r1, p1⟩ => ⟨I1.kIn, ?_⟩) he hpl
  exact run_cl co hF hr hb hd tk I1 r ⟨m1, h1, _, hr1, r1.append (hq _ _ _), Po.stil p1⟩
theorem se_call0 (co : CallOk X.prog X.w X.K X.mg X.base ct fns call n) (tk : Takes X W) (hr : Room (2 * n) X.A) (hF : fns[i]? = some F) (hg : Gl X x) (hm : X.mg x = some (.ref F.f)) (hk : PySem.W.keepIn X.K (.ref F.f) = true) (hb : Binds X.K F.fd F.ps dus) (hd : Vals dvs dus) (hq : Dfl X.K ct ds dvs)
    (hdb : (x == ("__debug__" : Str)) = false := by decide) : SE X ct W (.Call (.Name x p) [] [] pos) (eCl call i ds aNil) := by
  refine ⟨fun pins s σV H Q I ⟨m, ah, σ, hr0, lr, p⟩ => ?_⟩
  refine wpAny_Call_Name_kw (ld_glob I hg hm ?_ hdb)
  refine PySem.W.callWith_K0 I.kIn hk ?_
  exact run_cl (us := []) (vs := []) co hF hr hb hd tk I .nil ⟨m, ah, _, hr0, VlRs.append .nil (hq _ _ _), Po.stil p⟩
/-- the instance behind a value -/
def insOf (x : Vl) (h : Hs) : Option (Nat × List (Nat × D)) := match x with
  | .d (.ins C fs) => some (C, fs)
  | .r k => (match h[k]? with
    | some (.ins C fs) => some (C, fs)
    | _ => none)
  | _ => none
theorem ins_of {K : PySem.W.Frag} {m : List Addr} {ah : Hs} {H : Hp} (h : HR K ct m ah H) {x : Vl} {C : Nat} {fs : List (Nat × D)} {v : V} (e : insOf x ah = some (C, fs)) (r : VlR K ct m ah H x v) : ∃ a dx vs, v = .ref a ∧ H a = some (.ins (ct.ca C) dx vs) ∧ DRf K ct (Sf m ah) H fs vs := by
  unfold insOf at e
  split at e
  · cases e
    cases r with
    | ins h1 _ h2 => exact ⟨_, _, _, rfl, h1, h2⟩
  · rename_i k
    split at e
    · rename_i C' fs' hk
      cases e
      obtain ⟨a, h1, rfl⟩ := r
      obtain ⟨u, h2, h3⟩ := h.ob k a _ h1 hk
      cases h3 with
      | ins t => exact ⟨a, _, _, rfl, h2, t⟩
    · cases e
  · cases e
theorem lookup_drf {K : PySem.W.Frag} {S : Addr → Prop} {H : Hp} {n : Nat} : ∀ {fs : List (Nat × D)} {vs : List (Str × V)}, DRf K ct S H fs vs → (∀ d, fs.lookup n = some d → ∃ v, vs.lookup (ct.nm n) = some v ∧ DR K ct S H d v) ∧ (fs.lookup n = none → vs.lookup (ct.nm n) = none)
  | _, _, .nil => ⟨fun d e => (by cases e), fun _ => rfl⟩
  | _, _, .cons (n := k) (d := d0) (v := v0) r t => by
    obtain ⟨i1, i2⟩ := lookup_drf (n := n) t
    by_cases q : n = k
    · subst q
      have b1 : (n == n) = true := beq_self_eq_true n
      have b2 : (ct.nm n == ct.nm n) = true := beq_self_eq_true _
      refine ⟨fun d e => ?_, fun e => ?_⟩
      · simp only [List.lookup, b1] at e
        cases e
        exact ⟨_, by simp only [List.lookup, b2], r⟩
      · simp only [List.lookup, b1] at e
        cases e
    · have b1 : (n == k) = false := beq_eq_false_iff_ne.mpr q
      have b2 : (ct.nm n == ct.nm k) = false := beq_eq_false_iff_ne.mpr fun z => q (ct.inj _ _ z)
      refine ⟨fun d e => ?_, fun e => ?_⟩
      · simp only [List.lookup, b1] at e
        obtain ⟨v, h1, h2⟩ := i1 d e
        exact ⟨v, by simp only [List.lookup, b2]; exact h1, h2⟩
      · simp only [List.lookup, b1] at e
        simp only [List.lookup, b2]; exact i2 e
theorem lookup_none {K : PySem.W.Frag} {S : Addr → Prop} {H : Hp} {mm : Str} (hn : ∀ n, ct.nm n ≠ mm) : ∀ {fs : List (Nat × D)} {vs : List (Str × V)}, DRf K ct S H fs vs → vs.lookup mm = none
  | _, _, .nil => rfl
  | _, _, .cons (n := k) r t => by
    have b : (mm == ct.nm k) = false := beq_eq_false_iff_ne.mpr fun z => hn k z.symm
    simp only [List.lookup, b]
    exact lookup_none hn t
def putN (n : Nat) (d : D) : List (Nat × D) → List (Nat × D)
  | [] => [(n, d)]
  | (k, x) :: r => if k = n then (k, d) :: r else (k, x) :: putN n d r
theorem putN_drf {K : PySem.W.Frag} {S : Addr → Prop} {H : Hp} {n : Nat} {d : D} {v : V} (r : DR K ct S H d v) : ∀ {fs : List (Nat × D)} {vs : List (Str × V)}, DRf K ct S H fs vs → DRf K ct S H (putN n d fs) (putF (ct.nm n) v vs)
  | _, _, .nil => .cons r .nil
  | _, _, .cons (n := k) r0 t => by
    unfold putN putF
    by_cases q : k = n
    · subst q
      rw [if_pos rfl, if_pos rfl]
      exact .cons r t
    · rw [if_neg q, if_neg fun z => q (ct.inj _ _ z)]
      exact .cons r0 (putN_drf r t)
/-- e.f -/
def eFd (ok : Nat → Bool) (n : Nat) (f : SemE) : SemE := fun σ h => rb (f σ h) fun x h1 => match insOf x h1 with
  | some (C, fs) => if ok C = true then (match fs.lookup n with
    | some d => .ok (.d d) h1
    | none => .bad) else .bad
  | none => .bad
theorem se_fld {ok : Nat → Bool} {k : Nat} {fl : Str} (he : SE X ct W e f) (hf : ct.nm k = fl) (hok : ∀ C, ok C = true → Cls X.K (ct.ca C) ∧ NoAttr X.K (ct.ca C) fl) (hb : attributeBase e fl X.env (eval e X.env) = eval e X.env := by rfl) : SE X ct W (.Attribute e fl pos) (eFd ok k f) := by
  subst hf
  exact PE.imp (pe_fld he hb) fun σV H Q ⟨m, ah, σ, hr, lr, p⟩ => ⟨m, ah, σ, hr, lr, (Po.bind (R := VlR X.K ct) p).imp fun v H1 ⟨m1, h1, x, hr1, e1, r1, p1⟩ => by
    dsimp only at p1
    cases q : insOf x h1 with
    | none => rw [q] at p1; exact p1.elim
    | some z =>
      obtain ⟨C, fs⟩ := z
      rw [q] at p1
      dsimp only at p1
      split at p1
      · rename_i hc
        obtain ⟨a, dx, vs, rfl, h2, r2⟩ := ins_of hr1 q r1
        cases q2 : fs.lookup k with
        | none => rw [q2] at p1; exact p1.elim
        | some d =>
          rw [q2] at p1
          obtain ⟨v, h3, r3⟩ := (lookup_drf r2).1 d q2
          exact ⟨a, _, dx, vs, v, rfl, h2, (hok C hc).1, (hok C hc).2, h3, p1 m1 H1 v hr1 (Ext.refl _ _ _) r3⟩
      · exact p1.elim⟩
/-- self.f = e -/
def sFd (ok : Nat → Bool) (n : Nat) (f : SemE) (g : SemE) : SemS := fun σ h => sb (g σ h) σ fun y h1 => match toD y h1 with
  | none => .bad
  | some (d, h2) => sb (f σ h2) σ fun x h3 => match x with
    | .r k => (match h3[k]? with
      | some (.ins C fs) => if ok C = true ∧ fs.length < 900 then .ok .nx σ (h3.set k (.ins C (putN n d fs))) else .bad
      | _ => .bad)
    | _ => .bad
theorem ss_fld {ok : Nat → Bool} {k : Nat} {fl : Str} {g : SemE} {pos' : Pos} (he : SE X ct W o f) (hv : SE X ct W e g) (hf : ct.nm k = fl) (hok : ∀ C, ok C = true → Cls X.K (ct.ca C) ∧ NoAttr X.K (ct.ca C) fl)
    (hs : swapsWith e (some (.Attribute o fl pos')) pos.line X.env = pure false := by rfl) : SS X ct W (.Assign [.Attribute o fl pos'] e pos) (sFd ok k f g) := by
  subst hf
  exact PS.imp (ps_fld he hv hs) fun D σV H ⟨m, ah, σ, hr, lr, p⟩ => ⟨m, ah, σ, hr, lr, (PoS.bind (R := VlR X.K ct) lr p).imp fun y H1 ⟨m1, h1, y', hr1, e1, r1, p1⟩ => by
    dsimp only at p1
    cases q : toD y' h1 with
    | none => rw [q] at p1; exact p1.elim
    | some z =>
      obtain ⟨d, h2⟩ := z
      rw [q] at p1
      dsimp only at p1
      obtain ⟨hr2, e2, r2⟩ := toD_sound hr1 q r1
      have l2 := (lr.ext e1).ext e2
      refine ⟨m1, h2, σ, hr2, l2, (PoS.bind (R := VlR X.K ct) l2 (PoS.ext (r := sb (f σ h2) σ fun x h3 => _) p1 e2)).imp fun x H2 ⟨m3, h3, x', hr3, e3, r3, p3⟩ => ?_⟩
      dsimp only at p3
      split at p3
      · rename_i k0
        split at p3
        · rename_i C fs hk
          split at p3
          · rename_i hc
            obtain ⟨a, ha, rfl⟩ := r3
            obtain ⟨u, h4, h5⟩ := hr3.ob k0 a _ ha hk
            cases h5 with
            | ins t =>
              have t2 := putN_drf (n := k) (r2.mono e3.kp) t
              obtain ⟨hr6, e6⟩ := hr3.write ha hk (by simp) (OR.ins t2)
              refine ⟨a, _, _, _, rfl, h4, (hok C hc.1).1, (hok C hc.1).2, by rw [← t.length]; exact Nat.lt_trans hc.2 (by decide), ?_⟩
              exact p3 m3 _ σV hr6 e6 ((l2.ext e3).ext e6)
          · exact p3.elim
        · exact p3.elim
      · exact p3.elim⟩
/-- o.m(..) of an instance of class C -/
def eMe (call : CallT) (i C : Nat) (ds : List D) (f : SemE) (fs : SemA) : SemE := fun σ h => rb (f σ h) fun x h1 => match insOf x h1 with
  | some (C', _) => if C' = C then rb (fs σ h1) fun xs h2 => call i (x :: (xs ++ ds.map Vl.d)) h2 else .bad
  | none => .bad
theorem se_meth {mm : Str} {C : Nat} {pl : Sem Bool} (co : CallOk X.prog X.w X.K X.mg X.base ct fns call n) (tk : Takes X W) (hr : Room (2 * n) X.A) (hF : fns[i]? = some F) (he : SE X ct W o f) (c : Cls X.K (ct.ca C)) (hm : Meth X.K (ct.ca C) mm F.f) (hn : ∀ n, ct.nm n ≠ mm)
    (hb : Binds X.K F.fd F.ps dus) (hd : Vals dvs dus) (hq : Dfl X.K ct ds dvs) (ha : SA X ct W (e :: es) fs)
    (hst : starEach (e :: es) X.env = (false, eval e X.env) :: starEach es X.env := by rfl) (hpl : (backTo pos (starEach es X.env)).any (·.1) = false := by rfl)
    (ht : eval (.Call (.Attribute o mm apos) (e :: es) [] pos) X.env = (do
      let ov ← eval o X.env
      standAt apos.atName
      let (f, first) ← holding [ov] (getMethod ov mm pl)
      callWith pos f first (backTo pos (starEach (e :: es) X.env)) (backToKw pos (keywordEach [] X.env))) := by rfl) :
    SE X ct W (.Call (.Attribute o mm apos) (e :: es) [] pos) (eMe call i C ds f fs) := by
  refine ⟨fun pins s σV H Q I ⟨m, ah, σ, hr0, lr, p⟩ => ?_⟩
  refine PySem.W.methodCall_KW (pl := pl) (thn (he.run pins s σV H _ I ⟨m, ah, σ, hr0, lr, Po.bind (R := VlR X.K ct) p⟩) fun u s1 ⟨v, H1, I1, rx, m1, h1, x, hr1, e1, r1, p1⟩ => ?_) ht
  dsimp only at p1
  cases q : insOf x h1 with
  | none => rw [q] at p1; exact p1.elim
  | some z =>
    obtain ⟨C', fl⟩ := z
    rw [q] at p1
    dsimp only at p1
    split at p1
    · rename_i hC
      subst hC
      obtain ⟨a, dx, vs, rfl, h2, r2⟩ := ins_of hr1 q r1
      obtain rfl : u = Value.ref a := rx
      refine getmeth_ok I1 h2 c hm (lookup_none hn r2) ?_
      refine PySem.W.callWith_K (first := [.ref a]) (h₀ := X.base) I.ok.mod.kin hm.kp (thn (ha.run pos pins s1 σV H1 _ I1 ⟨m1, h1, σ, hr1, lr.ext e1, Po.bind (R := VlRs X.K ct) p1⟩) fun us s2 ⟨ws, H2, I2, r, m2, h2', xs, hr2, e2, r3, p2⟩ => ⟨I2.kIn, ?_⟩) hst hpl
      exact run_cl (us := .ref a :: us) (vs := .ref a :: ws) co hF hr hb hd tk I2 (.cons rfl r) ⟨m2, h2', _, hr2, .cons (r1.ext e2) (r3.append (hq _ _ _)), Po.stil p2⟩
    · exact p1.elim
theorem se_meth0 {mm : Str} {C : Nat} {pl : Sem Bool} (co : CallOk X.prog X.w X.K X.mg X.base ct fns call n) (tk : Takes X W) (hr : Room (2 * n) X.A) (hF : fns[i]? = some F) (he : SE X ct W o f) (c : Cls X.K (ct.ca C)) (hm : Meth X.K (ct.ca C) mm F.f) (hn : ∀ n, ct.nm n ≠ mm)
    (hb : Binds X.K F.fd F.ps dus) (hd : Vals dvs dus) (hq : Dfl X.K ct ds dvs)
    (ht : eval (.Call (.Attribute o mm apos) [] [] pos) X.env = (do
      let ov ← eval o X.env
      standAt apos.atName
      let (f, first) ← holding [ov] (getMethod ov mm pl)
      callWith pos f first (backTo pos (starEach [] X.env)) (backToKw pos (keywordEach [] X.env))) := by rfl) :
    SE X ct W (.Call (.Attribute o mm apos) [] [] pos) (eMe call i C ds f aNil) := by
  refine ⟨fun pins s σV H Q I ⟨m, ah, σ, hr0, lr, p⟩ => ?_⟩
  refine PySem.W.methodCall_KW (pl := pl) (thn (he.run pins s σV H _ I ⟨m, ah, σ, hr0, lr, Po.bind (R := VlR X.K ct) p⟩) fun u s1 ⟨v, H1, I1, rx, m1, h1, x, hr1, e1, r1, p1⟩ => ?_) ht
  dsimp only at p1
  cases q : insOf x h1 with
  | none => rw [q] at p1; exact p1.elim
  | some z =>
    obtain ⟨C', fl⟩ := z
    rw [q] at p1
    dsimp only at p1
    split at p1
    · rename_i hC
      subst hC
      obtain ⟨a, dx, vs, rfl, h2, r2⟩ := ins_of hr1 q r1
      obtain rfl : u = Value.ref a := rx
      refine getmeth_ok I1 h2 c hm (lookup_none hn r2) ?_
      refine PySem.W.callWith_K0 (first := [.ref a]) I1.kIn hm.kp ?_
      exact run_cl (us := [.ref a]) (vs := [.ref a]) co hF hr hb hd tk I1 (.cons rfl .nil) ⟨m1, h1, _, hr1, .cons r1 (VlRs.append .nil (hq _ _ _)), Po.stil p1⟩
    · exact p1.elim
/-- C(..) -/
def mkI (call : CallT) (i C : Nat) (xs : List Vl) (h : Hs) : Res Vl := match call i (.r h.length :: xs) (h ++ [.ins C []]) with
  | .ok (.d .non) h2 => (match h2[h.length]? with
    | some (.ins C' fs) => .ok (.d (.ins C' fs)) (h2.take h.length)
    | _ => .bad)
  | .exc e h2 => .exc e (h2.take h.length)
  | _ => .bad
def eMk (call : CallT) (i C : Nat) (ds : List D) (fs : SemA) : SemE := fun σ h => rb (fs σ h) fun xs h1 => mkI call i C (xs ++ ds.map Vl.d) h1
theorem run_makeS {pins : List (Addr × Obj)} {σ : L2.St} {H : Hp} {s : Shared} {Q : VK} {us : List Value} {vs : List V} {C f : Addr} {k : Nat} {fd : FuncData} {ps : List Str} {sp : Sp} {CX : CXT} {E : XK} (M : Mk X.K C f) (F : FnOk X.prog X.w X.K X.mg X.base CX k f fd ps sp) (hr : Room (k + 1) X.A) (hb : Binds X.K fd ps dus) (hd : Vals dvs dus)
    (hx : PassesAt CX X σ E) (I : Inv X pins σ H s) (r : Vals vs us)
    (h : ∀ x dx, H x = none → H dx = none → dx ≠ x → sp (.ref x :: (vs ++ dvs)) (upd (upd H dx (.own x)) x (.ins C dx [])) (fun v H2 => v = .non ∧ Q (.ref x) H2) E) :
    wpAny (model X.prog X.w) X.A (PySem.call (.ref C) us) (EP X pins σ Q) X.xe s := by
  have hq := h (s.heap.objs.size + 1) s.heap.objs.size (I.hok.fresh (Nat.le_succ _)) (I.hok.fresh (Nat.le_refl _)) (Nat.ne_of_lt (Nat.lt_succ_self _))
  have I2 := Inv.made (C := C) I
  have r2 : Vals (V.ref (s.heap.objs.size + 1) :: (vs ++ dvs)) (Value.ref (s.heap.objs.size + 1) :: (us ++ dus)) := .cons rfl (r.append hd)
  have hl : (Value.ref (s.heap.objs.size + 1) :: us ++ dus).length = ps.length := by
    have e := r2.length
    rw [F.len _ _ _ _ hq] at e
    exact e.symm
  refine wpAny_call (make_map (f := f) I.kIn M.makes M.init (beq_iff_eq.mp M.fn) (codeAny_mono (F.run _ X.stack _ _ ⟨Value.ref (s.heap.objs.size + 1) :: us, []⟩ (Value.ref (s.heap.objs.size + 1) :: (us ++ dus)) _ _ E (hr.make C us [])
    (I2.env0.make C us []) (hb _ (Value.ref (s.heap.objs.size + 1) :: us) I2.kIn hl) r2 hq) fun r s' hq' => ?_))
  cases r with
  | error e => exact hx pins _ _ e s' I2 hq'
  | ok fl =>
    cases fl with
    | ret u =>
      obtain ⟨v, H', I3, rv, ev, q3⟩ := I2.after hq'
      subst ev
      exact ⟨rv, ⟨V.ref (s.heap.objs.size + 1), H', I3, rfl, q3⟩⟩
    | next => exact False.elim hq'
    | brk => exact False.elim hq'
    | cont => exact False.elim hq'
theorem mkI_sound {K : PySem.W.Frag} {m : List Addr} {ah : Hs} {H : Hp} {xs : List Vl} {vs : List V} {Q : VK} {E : XK} {C : Nat} (hr : HR K ct m ah H) (rs : VlRs K ct m ah H xs vs) (p : Po K ct (fun c d _ H' => E c d H') [] (VlR K ct) m ah H (mkI call i C xs ah) Q) :
    ∀ x dx, H x = none → H dx = none → dx ≠ x → spC K ct call i (.ref x :: vs) (upd (upd H dx (.own x)) x (.ins (ct.ca C) dx [])) (fun v H2 => v = .non ∧ Q (.ref x) H2) E := by
  intro x dx hx hdx ne
  obtain ⟨hr1, e1⟩ := hr.more (upd_more (o := .own x) hdx)
  have hx1 : upd H dx (.own x) x = none := by rw [upd_ne ne.symm]; exact hx
  obtain ⟨hr2, e2⟩ := hr1.alloc hx1 (OR.ins (ct := ct) (C := C) (dx := dx) .nil)
  have e12 := e1.trans e2
  refine ⟨_, _, .r ah.length :: xs, hr2, .cons ⟨x, at_new hr1, rfl⟩ (rs.ext e12), ?_⟩
  unfold mkI at p
  cases q : call i (.r ah.length :: xs) (ah ++ [.ins C []]) with
  | bad => rw [q] at p; exact p.elim
  | exc ex h2 =>
    rw [q] at p
    refine fun m3 H3 c d hr3 e3 x3 => ?_
    obtain ⟨hr4, e4⟩ := HR.trim' hr hr3 (e12.trans e3)
    refine p m H3 c d hr4 e4 ?_
    obtain ⟨x1, ws, x2, x3⟩ := x3
    have kp := (hr3.trim m.length).2
    obtain ⟨t, rfl⟩ := (e12.trans e3).pre
    rw [List.take_left' rfl, hr.len] at kp
    exact ⟨x1, ws, x2.mono kp, x3.imp id fun ⟨dx, y1, y2, y3⟩ => ⟨dx, y1, (kp _ _ y2 y3).1, (kp _ _ y2 y3).2⟩⟩
  | ok v h2 =>
    rw [q] at p
    cases v with
    | r k => exact p.elim
    | d v =>
      cases v with
      | non =>
        dsimp only at p
        refine fun m3 H3 w hr3 e3 rw3 => ?_
        cases rw3
        refine ⟨rfl, ?_⟩
        have hx3 : m3[ah.length]? = some x := e3.at (at_new hr1)
        cases q2 : h2[ah.length]? with
        | none => rw [q2] at p; exact p.elim
        | some o =>
          rw [q2] at p
          cases o with
          | ins C' fs =>
            dsimp only at p
            obtain ⟨u, h4, h5⟩ := hr3.ob _ x _ hx3 q2
            cases h5 with
            | ins t =>
              obtain ⟨hr4, e4⟩ := HR.trim' hr hr3 (e12.trans e3)
              have kp := (hr3.trim m.length).2
              obtain ⟨tt, et⟩ := (e12.trans e3).pre
              rw [et, List.take_left' rfl, hr.len, ← et] at kp
              refine p m H3 (.ref x) hr4 e4 (.ins h4 (fun ⟨j, o, f1, f2, f3⟩ => ?_) (t.mono kp))
              have := hr3.inj _ _ _ ((e12.trans e3).at f1) hx3
              have hj := (List.getElem?_eq_some_iff.mp f1).1
              rw [hr.len] at hj
              omega
          | _ => exact p.elim
      | _ => exact p.elim
theorem se_make {C : Nat} (co : CallOk X.prog X.w X.K X.mg X.base ct fns call n) (tk : Takes X W) (hr : Room (2 * n + 1) X.A) (hF : fns[i]? = some F) (M : Mk X.K (ct.ca C) F.f) (hg : Gl X x) (hm : X.mg x = some (.ref (ct.ca C))) (hb : Binds X.K F.fd F.ps dus) (hd : Vals dvs dus) (hq : Dfl X.K ct ds dvs)
    (ha : SA X ct W (e :: es) fs) (hdb : (x == ("__debug__" : Str)) = false := by decide) (he : starEach (e :: es) X.env = (false, eval e X.env) :: starEach es X.env := by rfl) (hpl : (backTo pos (starEach es X.env)).any (·.1) = false := by rfl) :
    SE X ct W (.Call (.Name x p) (e :: es) [] pos) (eMk call i C ds fs) := by
  refine ⟨fun pins s σV H Q I ⟨m, ah, σ, hr0, lr, p⟩ => ?_⟩
  refine wpAny_Call_Name_kw (ld_glob I hg hm ?_ hdb)
  refine PySem.W.callWith_K (h₀ := X.base) I.ok.mod.kin M.kp (thn (ha.run pos pins s σV H _ I ⟨m, ah, σ, hr0, lr, Po.bind (R := VlRs X.K ct) p⟩) fun us s1 ⟨vs, H1, I1, r, m1, h1, xs, hr1, e1, r1, p1⟩ => ⟨I1.kIn, ?_⟩) he hpl
  exact run_makeS (E := WE W σV) M (co.ok i F hF) hr hb hd (passAt tk σV) I1 r (mkI_sound hr1 (r1.append (hq _ _ _)) (Po.stil p1))
theorem se_make0 {C : Nat} (co : CallOk X.prog X.w X.K X.mg X.base ct fns call n) (tk : Takes X W) (hr : Room (2 * n + 1) X.A) (hF : fns[i]? = some F) (M : Mk X.K (ct.ca C) F.f) (hg : Gl X x) (hm : X.mg x = some (.ref (ct.ca C))) (hb : Binds X.K F.fd F.ps dus) (hd : Vals dvs dus) (hq : Dfl X.K ct ds dvs)
    (hdb : (x == ("__debug__" : Str)) = false := by decide) : SE X ct W (.Call (.Name x p) [] [] pos) (eMk call i C ds aNil) := by
  refine ⟨fun pins s σV H Q I ⟨m, ah, σ, hr0, lr, p⟩ => ?_⟩
  refine wpAny_Call_Name_kw (ld_glob I hg hm ?_ hdb)
  refine PySem.W.callWith_K0 I.kIn M.kp ?_
  exact run_makeS (us := []) (vs := []) (E := WE W σV) M (co.ok i F hF) hr hb hd (passAt tk σV) I .nil (mkI_sound hr0 (VlRs.append .nil (hq _ _ _)) (Po.stil p))
end
end Mi

/-! Mi7: list comprehensions -/
namespace Mi
open PySem PySem.Spec L2

def wipeL (σ : Lo) : List Nat → Lo
  | [] => σ
  | v :: vs => (wipeL σ vs).set v none
abbrev W0 : WX := fun _ _ _ _ => False
section
variable {K : PySem.W.Frag} {ct : CT} {m : List Addr} {ah : Hs} {H : Hp}
theorem LR.none {σ : Lo} {σV : L2.St} (lr : LR K ct m ah H σ σV) (i : Nat) : LR K ct m ah H (σ.set i Option.none) (σV.set i Option.none) := by
  refine ⟨by rw [List.length_set, List.length_set, lr.len], fun j y hy => ?_⟩
  by_cases e : i = j
  · subst e
    by_cases hi : i < σ.length
    · rw [List.getElem?_set_self hi] at hy; cases hy
    · rw [List.getElem?_eq_none (by rw [List.length_set]; omega)] at hy; cases hy
  · rw [List.getElem?_set_ne e] at hy ⊢
    exact lr.at_ j y hy
theorem LR.wipe {σ : Lo} {σV : L2.St} (lr : LR K ct m ah H σ σV) : ∀ vs : List Nat, LR K ct m ah H (wipeL σ vs) (L2.wipe σV vs)
  | [] => lr
  | v :: vs => (LR.wipe lr vs).none v
theorem wipe_set {σV : L2.St} {i : Nat} {x : Option V} : ∀ {vs : List Nat}, L2.wipe (σV.set i x) vs = if i ∈ vs then L2.wipe σV vs else (L2.wipe σV vs).set i x
  | [] => by simp [L2.wipe]
  | v :: vs => by
    unfold L2.wipe
    rw [wipe_set (vs := vs)]
    by_cases h : i ∈ vs
    · rw [if_pos h, if_pos (List.mem_cons_of_mem _ h)]
    · rw [if_neg h]
      by_cases e : i = v
      · subst e
        rw [if_pos List.mem_cons_self, List.set_set]
      · rw [if_neg (by simp [e, h])]
        rw [List.set_comm _ _ e]
end
/-! ### targets of a block's own names -/
def PoGc (K : PySem.W.Frag) (ct : CT) (vs : List Nat) (σ0 : L2.St) (m : List Addr) (ah : Hs) (H : Hp) (o : Option (Lo × Hs)) (Q : L2.St → Hp → Prop) : Prop := match o with
  | some (σ', h) => ∀ m' H' σV', HR K ct m' h H' → Ext m ah H m' h H' → LR K ct m' h H' σ' σV' → L2.wipe σV' vs = L2.wipe σ0 vs → Q σV' H'
  | none => False
def rdGc (K : PySem.W.Frag) (ct : CT) (vs : List Nat) (g : SemG) : TG := fun v σV H Q => ∃ m ah σ x, HR K ct m ah H ∧ LR K ct m ah H σ σV ∧ VlR K ct m ah H x v ∧ PoGc K ct vs σV m ah H (g x σ ah) Q
def rdGsc (K : PySem.W.Frag) (ct : CT) (vs : List Nat) (g : SemGs) : TGs := fun ws σV H Q => ∃ m ah σ xs, HR K ct m ah H ∧ LR K ct m ah H σ σV ∧ DRs K ct (Sf m ah) H xs ws ∧ PoGc K ct vs σV m ah H (g xs σ ah) Q
abbrev SGc (X : Cx) (ct : CT) (vs : List Nat) (e : Expr) (g : SemG) : Prop := PG X e (rdGc X.K ct vs g)
abbrev SGsc (X : Cx) (ct : CT) (vs : List Nat) (e : List Expr) (g : SemGs) : Prop := PGs X e (rdGsc X.K ct vs g)
section
variable {X : Cx} {ct : CT} {pos : Pos} {e : Expr} {es : List Expr} {g : SemG} {gs : SemGs} {vs : List Nat}
theorem sgc_name {i : Nat} {x : Str} (hN : X.N.Nodup) (hi : X.N[i]? = some x) (hx : Loc X.env.scope x) (hm : i ∈ vs) (hf : X.fn x = true ∨ X.env.scope.names.lookup x = some .local := by first | exact .inl rfl | exact .inr rfl | assumption) : SGc X ct vs (.Name x pos) (gNm i) :=
  PG.imp (pg_name hN hi hx hf) fun v σV H Q ⟨m, ah, σ, x, hr, lr, r, p⟩ => p m H _ hr (Ext.refl _ _ _) (lr.set r i) (by rw [wipe_set, if_pos hm])
theorem sgsc_nil : SGsc X ct vs [] gNi := PGs.imp pgs_nil fun ws σV H Q ⟨m, ah, σ, xs, hr, lr, r, p⟩ => by
  unfold gNi at p
  split at p
  · cases r
    exact ⟨rfl, p m H _ hr (Ext.refl _ _ _) lr rfl⟩
  · exact p.elim
theorem sgsc_cons (h1 : SGc X ct vs e g) (h2 : SGsc X ct vs es gs) (hs : (assignEach (e :: es) X.env).map (·.2) = assign e X.env :: (assignEach es X.env).map (·.2) := by rfl) : SGsc X ct vs (e :: es) (gCo g gs) :=
  PGs.imp (pgs_cons h1 h2 hs) fun ws σV H Q ⟨m, ah, σ, xs, hr, lr, r, p⟩ => by
    unfold gCo at p
    split at p
    · cases r with
      | cons r t =>
        refine ⟨_, _, rfl, m, ah, σ, .d _, hr, lr, r, ?_⟩
        cases q : g (.d _) σ ah with
        | none => rw [q] at p; exact p.elim
        | some z =>
          obtain ⟨σ', h'⟩ := z
          rw [q] at p
          refine fun m2 H2 σ2 h2 e2 l2 w2 => ⟨m2, h', σ', _, h2, l2, t.mono e2.kp, ?_⟩
          dsimp only [Option.bind_some] at p
          revert p
          cases gs _ σ' h' with
          | none => exact fun p => p.elim
          | some z => exact fun p m3 H3 σ3 h3 e3 l3 w3 => p m3 H3 σ3 h3 (e2.trans e3) l3 (w3.trans w2)
    · exact p.elim
theorem sgc_tup {k n : Nat} (hc : X.calm = true) (h : SGsc X ct vs es gs) (hn : (assignEach es X.env).length = n := by rfl) (hst : (assignEach es X.env).findIdx? (·.1) = none := by rfl) : SGc X ct vs (.Tuple es k pos) (gTp n gs) :=
  PG.imp (pg_tup hc h hn hst) fun v σV H Q ⟨m, ah, σ, x, hr, lr, r, p⟩ => by
    unfold gTp at p
    split at p
    · obtain ⟨l, ws, rfl, h1, r1⟩ := tup_of r
      split at p
      · rename_i hl
        exact ⟨l, ws, rfl, h1, by rw [← r1.length]; exact hl, m, ah, σ, _, hr, lr, r1, p⟩
      · exact p.elim
    · exact p.elim
end
/-! ### the tests of a clause -/
abbrev SPT (X : Cx) (ct : CT) (W : WX) (es : List Expr) (f : SemT) : Prop := PTs X es (rdT X.K ct W f)
theorem PTs.imp {X : Cx} {e : List Expr} {t t' : TT} (h : PTs X e t) (i : ∀ σ H Q, t' σ H Q → t σ H Q) : PTs X e t' := ⟨fun pins s σ H Q I q => h.run pins s σ H Q I (i _ _ _ q)⟩
def tYs : SemT := fun _ h => .ok true h
theorem spt_nil {X : Cx} {ct : CT} {W : WX} : SPT X ct W [] tYs := PTs.imp pts_nil fun σV H Q ⟨m, ah, σ, hr, lr, p⟩ => p m H true hr (Ext.refl _ _ _) rfl
theorem spt_one {X : Cx} {ct : CT} {W : WX} {c : Expr} {t : SemT} (h : ST X ct W c t) : SPT X ct W [c] t := pts_one h

/-! ### what is made -/
def cmpAdd (n0 : Nat) (y : Vl) (h : Hs) : Option Hs := match toD y h with
  | some (d, h') => (match h'[n0]? with
    | some (.lst acc) => if acc.length < sizeLine then some ((h'.set n0 (.lst (acc ++ [d]))).take (n0 + 1)) else none
    | _ => none)
  | none => none
def cmpL (vs : List Nat) (g : SemG) (t : SemT) (f : SemE) (n0 : Nat) : List D → Lo → Hs → Option Hs
  | [], _, h => some h
  | d :: ds, σ, h => match g (.d d) (wipeL σ vs) h with
    | none => none
    | some (σ1, h1) => match t σ1 h1 with
      | .ok b h2 => if b = true then (match f σ1 h2 with
          | .ok y h3 => (match cmpAdd n0 y h3 with
            | some h4 => cmpL vs g t f n0 ds σ h4
            | none => none)
          | _ => none)
        else cmpL vs g t f n0 ds σ (h2.take (n0 + 1))
      | _ => none
def lcEnd (mu : Bool) (n0 : Nat) (h : Hs) : Res Vl := match mu with
  | true => .ok (.r n0) h
  | false => (match h[n0]? with
    | some (.lst acc) => .ok (.d (.lv acc)) (h.take n0)
    | _ => .bad)
def eLc (mu : Bool) (vs : List Nat) (it : SemI) (g : SemG) (t : SemT) (f : SemE) : SemE := fun σ h => rb (it σ h) fun ds h1 => match cmpL vs g t f h1.length ds σ (h1 ++ [.lst []]) with
  | some h2 => lcEnd mu h1.length h2
  | none => .bad
/-- [f for g in it if t for g1 in it1 if t1] -/
def cm2L (vs vs1 : List Nat) (g : SemG) (t : SemT) (it1 : SemI) (g1 : SemG) (t1 : SemT) (f : SemE) (n0 : Nat) : List D → Lo → Hs → Option Hs
  | [], _, h => some h
  | d :: ds, σ, h => match g (.d d) (wipeL σ vs) h with
    | none => none
    | some (σ1, h1) => match t σ1 h1 with
      | .ok b h2 => if b = true then (match it1 σ1 h2 with
          | .ok es h3 => (match cmpL vs1 g1 t1 f n0 es (clr (n0 + 1) σ1) (h3.take (n0 + 1)) with
            | some h4 => cm2L vs vs1 g t it1 g1 t1 f n0 ds σ h4
            | none => none)
          | _ => none)
        else cm2L vs vs1 g t it1 g1 t1 f n0 ds σ (h2.take (n0 + 1))
      | _ => none
def eLc2 (mu : Bool) (vs vs1 : List Nat) (it : SemI) (g : SemG) (t : SemT) (it1 : SemI) (g1 : SemG) (t1 : SemT) (f : SemE) : SemE := fun σ h => rb (it σ h) fun ds h1 => match cm2L vs vs1 g t it1 g1 t1 f h1.length ds σ (h1 ++ [.lst []]) with
  | some h2 => lcEnd mu h1.length h2
  | none => .bad

section
variable {K : PySem.W.Frag} {ct : CT} {m m' : List Addr} {ah ah' : Hs} {H H' : Hp}
/-- one more -/
theorem cmpAdd_sound {Dd : Addr} {h : Hs} (hr1 : HR K ct m ah H) (hrA : HR K ct (m ++ [Dd]) ah' H') {m5 : List Addr} {h5 : Hs} {H5 : Hp} (hr5 : HR K ct m5 h5 H5) (e5 : Ext (m ++ [Dd]) ah' H' m5 h5 H5) (hl : ah'.length = ah.length + 1) {y : Vl} {v : V} (r : VlR K ct m5 h5 H5 y v) (q : cmpAdd ah.length y h5 = some h) :
    ∃ acc, H5 Dd = some (.lst acc) ∧ acc.length < sizeLine ∧ HR K ct (m ++ [Dd]) h (upd H5 Dd (.lst (acc ++ [v]))) ∧ Ext (m ++ [Dd]) ah' H' (m ++ [Dd]) h (upd H5 Dd (.lst (acc ++ [v]))) := by
  unfold cmpAdd at q
  cases q1 : toD y h5 with
  | none => rw [q1] at q; cases q
  | some z =>
    obtain ⟨d, h6⟩ := z
    rw [q1] at q
    dsimp only at q
    obtain ⟨hr6, e6, r6⟩ := toD_sound hr5 q1 r
    have hD : m5[ah.length]? = some Dd := e5.at (at_new hr1)
    cases q2 : h6[ah.length]? with
    | none => rw [q2] at q; cases q
    | some o =>
      rw [q2] at q
      cases o with
      | lst acc =>
        dsimp only at q
        split at q
        · rename_i hz
          cases q
          obtain ⟨u, hu, ou⟩ := hr6.ob _ _ _ hD q2
          cases ou with
          | lst t =>
            obtain ⟨hr7, e7⟩ := hr6.write hD q2 (by simp) (OR.lst (t.append (.cons r6 .nil)))
            obtain ⟨hr8, e8⟩ := HR.trim' hrA hr7 ((e5.trans e6).trans e7)
            rw [hl] at hr8 e8
            exact ⟨_, hu, by rw [← t.length]; exact hz, hr8, e8⟩
        · cases q
      | _ => cases q
/-- the list is made -/
theorem lcEnd_sound {W : WX} {σV : L2.St} {Dd : Addr} {h : Hs} {mu : Bool} {Q : VK} (hr1 : HR K ct m ah H) (hD : H Dd = none) (hr : HR K ct (m ++ [Dd]) h H') (e : Ext m ah H (m ++ [Dd]) h H') (p : Po K ct W σV (VlR K ct) m ah H (lcEnd mu ah.length h) Q) : Q (.ref Dd) H' := by
  cases mu with
  | true => exact p _ H' _ hr e ⟨Dd, at_new hr1, rfl⟩
  | false =>
    unfold lcEnd at p
    dsimp only at p
    cases q : h[ah.length]? with
    | none => rw [q] at p; exact p.elim
    | some o =>
      rw [q] at p
      cases o with
      | lst acc =>
        dsimp only at p
        obtain ⟨u, hu, ou⟩ := hr.ob _ _ _ (at_new hr1) q
        cases ou with
        | lst t =>
          obtain ⟨hr2, e2⟩ := HR.trim' hr1 hr e
          have kp := (hr.trim m.length).2
          rw [List.take_left' rfl, hr1.len] at kp
          exact p m H' _ hr2 e2 (.lv hu (fun ⟨j, o, f1, f2, f3⟩ => hr1.fresh hD j f1) (t.mono kp))
      | _ => exact p.elim
end

section
variable {X : Cx} {ct : CT} {W : WX} {pos : Pos} {it it1 : SemI} {g g1 : SemG} {t t1 : SemT} {f : SemE} {vs vs1 : List Nat} {mu : Bool}
theorem wipe_wipe (σV : L2.St) (us : List Nat) : L2.wipe (L2.wipe σV us) us = L2.wipe σV us := by
  have key : ∀ (us : List Nat) (τ : L2.St), (∀ v ∈ us, τ[v]? = none ∨ τ[v]? = some Option.none) → L2.wipe τ us = τ := by
    intro us
    induction us with
    | nil => intro τ _; rfl
    | cons v us ih =>
      intro τ hτ
      unfold L2.wipe
      rw [ih τ fun w hw => hτ w (List.mem_cons_of_mem _ hw)]
      rcases hτ v List.mem_cons_self with z | z
      · rw [List.set_eq_of_length_le (List.getElem?_eq_none_iff.mp z)]
      · apply List.ext_getElem?
        intro j
        by_cases e : v = j
        · subst e; rw [List.getElem?_set_self (List.getElem?_eq_some_iff.mp z).1, z]
        · rw [List.getElem?_set_ne e]
  refine key us _ fun v hv => ?_
  cases e : (L2.wipe σV us)[v]? with
  | none => exact .inl rfl
  | some o =>
    cases o with
    | none => exact .inr rfl
    | some y => exact absurd hv (wipe_some e).2
theorem rd_lc {σV : L2.St} {H : Hp} {Q : VK} (h : rdE X.K ct W (eLc mu vs it g t f) σV H Q) : tLc (rdI X.K ct W it) (rdGc X.K ct vs g) (rdT X.K ct W0 t) (rdE X.K ct W0 f) vs σV H Q := by
  obtain ⟨m, ah, σ, hr, lr, p⟩ := h
  refine ⟨m, ah, σ, hr, lr, (Po.bind (R := fun m1 h1 H1 ds J => Wks X.K ct ds m1 h1 H1 J) p).imp fun J H1 ⟨m1, h1, ds, hr1, e1, w1, p1⟩ Dd hD => ?_⟩
  dsimp only at p1 w1
  cases q : cmpL vs g t f h1.length ds σ (h1 ++ [.lst []]) with
  | none => rw [q] at p1; exact p1.elim
  | some hE =>
    rw [q] at p1
    dsimp only at p1
    obtain ⟨hrA, eA⟩ := hr1.alloc hD (OR.lst (ct := ct) .nil)
    have lrA := (lr.ext e1).ext eA
    refine ⟨fun i n H => n = ds.length - i ∧ i ≤ ds.length ∧ ∃ h2, HR X.K ct (m1 ++ [Dd]) h2 H ∧ Ext (m1 ++ [Dd]) (h1 ++ [.lst []]) (upd H1 Dd (.lst [])) (m1 ++ [Dd]) h2 H ∧ cmpL vs g t f h1.length (ds.drop i) σ h2 = some hE,
      ⟨ds.length, by simp, Nat.zero_le _, _, hrA, Ext.refl _ _ _, by rw [List.drop_zero]; exact q⟩, ?_⟩
    rintro i n H2 ⟨rfl, hi, h2, hr2, e2, q2⟩
    obtain ⟨ws, wg⟩ := w1 _ h2 H2 hr2 (eA.trans e2).kp
    by_cases hlt : i < ds.length
    · rw [List.drop_eq_getElem_cons hlt] at q2
      obtain ⟨go, wy⟩ := wg i _ (List.getElem?_eq_getElem hlt)
      refine .inr ⟨go, fun H3 => ∃ h3, HR X.K ct (m1 ++ [Dd]) h3 H3 ∧ Ext (m1 ++ [Dd]) (h1 ++ [.lst []]) (upd H1 Dd (.lst [])) (m1 ++ [Dd]) h3 H3 ∧ cmpL vs g t f h1.length (ds.drop (i + 1)) σ h3 = some hE,
        fun H3 ⟨h3, a1, a2, a3⟩ => ⟨ds.length - (i + 1), by omega, rfl, hlt, h3, a1, a2, a3⟩, fun x H3 hy => ?_⟩
      obtain ⟨hr3, e3, rd⟩ := wy x H3 hy
      refine ⟨_, h2, _, .d _, hr3, ((lrA.ext e2).ext e3).wipe vs, rd, ?_⟩
      rw [cmpL] at q2
      cases q3 : g (.d ds[i]) (wipeL σ vs) h2 with
      | none => rw [q3] at q2; cases q2
      | some z =>
        obtain ⟨σ4, h4⟩ := z
        rw [q3] at q2
        dsimp only at q2
        refine fun m4 H4 σV4 hr4 e4 l4 w4 => ⟨w4.trans ?_, m4, h4, σ4, hr4, l4, ?_⟩
        · exact wipe_wipe _ _
        cases q4 : t σ4 h4 with
        | bad => rw [q4] at q2; cases q2
        | exc e h5 => rw [q4] at q2; cases q2
        | ok b h5 =>
          rw [q4] at q2
          dsimp only at q2
          refine fun m5 H5 b' hr5 e5 rb5 => ?_
          subst rb5
          have e25 := (e3.trans e4).trans e5
          cases b with
          | false =>
            rw [if_neg Bool.false_ne_true] at q2
            obtain ⟨hr6, e6⟩ := HR.trim' hr2 hr5 e25
            have hl : h2.length = h1.length + 1 := by rw [← hr2.len, ← hr1.len, List.length_append]; rfl
            rw [hl] at hr6 e6
            exact ⟨_, hr6, e2.trans e6, q2⟩
          | true =>
            rw [if_pos rfl] at q2
            refine ⟨m5, h5, σ4, hr5, l4.ext e5, ?_⟩
            cases q5 : f σ4 h5 with
            | bad => rw [q5] at q2; cases q2
            | exc e h6 => rw [q5] at q2; cases q2
            | ok y h6 =>
              rw [q5] at q2
              dsimp only at q2
              cases q6 : cmpAdd h1.length y h6 with
              | none => rw [q6] at q2; cases q2
              | some h7 =>
                rw [q6] at q2
                dsimp only at q2
                refine fun m6 H6 v hr6 e6 r6 => ?_
                have hl : h2.length = h1.length + 1 := by rw [← hr2.len, ← hr1.len, List.length_append]; rfl
                obtain ⟨acc, a1, a2, a3, a4⟩ := cmpAdd_sound hr1 hr2 hr6 (e25.trans e6) hl r6 q6
                exact ⟨acc, a1, a2, h7, a3, e2.trans a4, q2⟩
    · have e : i = ds.length := by omega
      subst e
      rw [List.drop_length, cmpL] at q2
      cases q2
      exact .inl ⟨ws _ (Nat.le_refl _), lcEnd_sound hr1 hD hr2 (eA.trans e2) p1⟩
theorem rd_lc2 {σV : L2.St} {H : Hp} {Q : VK} (h : rdE X.K ct W (eLc2 mu vs vs1 it g t it1 g1 t1 f) σV H Q) : tLc2 (rdI X.K ct W it) (rdGc X.K ct vs g) (rdT X.K ct W0 t) (rdI X.K ct W0 it1) (rdGc X.K ct vs1 g1) (rdT X.K ct W0 t1) (rdE X.K ct W0 f) vs vs1 σV H Q := by
  obtain ⟨m, ah, σ, hr, lr, p⟩ := h
  refine ⟨m, ah, σ, hr, lr, (Po.bind (R := fun m1 h1 H1 ds J => Wks X.K ct ds m1 h1 H1 J) p).imp fun J H1 ⟨m1, h1, ds, hr1, e1, w1, p1⟩ Dd hD => ?_⟩
  dsimp only at p1 w1
  cases q : cm2L vs vs1 g t it1 g1 t1 f h1.length ds σ (h1 ++ [.lst []]) with
  | none => rw [q] at p1; exact p1.elim
  | some hE =>
    rw [q] at p1
    dsimp only at p1
    obtain ⟨hrA, eA⟩ := hr1.alloc hD (OR.lst (ct := ct) .nil)
    have lrA := (lr.ext e1).ext eA
    refine ⟨fun i n H => n = ds.length - i ∧ i ≤ ds.length ∧ ∃ h2, HR X.K ct (m1 ++ [Dd]) h2 H ∧ Ext (m1 ++ [Dd]) (h1 ++ [.lst []]) (upd H1 Dd (.lst [])) (m1 ++ [Dd]) h2 H ∧ cm2L vs vs1 g t it1 g1 t1 f h1.length (ds.drop i) σ h2 = some hE,
      ⟨ds.length, by simp, Nat.zero_le _, _, hrA, Ext.refl _ _ _, by rw [List.drop_zero]; exact q⟩, ?_⟩
    rintro i n H2 ⟨rfl, hi, h2, hr2, e2, q2⟩
    have hl2 : h2.length = h1.length + 1 := by rw [← hr2.len, ← hr1.len, List.length_append]; rfl
    obtain ⟨ws, wg⟩ := w1 _ h2 H2 hr2 (eA.trans e2).kp
    by_cases hlt : i < ds.length
    · rw [List.drop_eq_getElem_cons hlt] at q2
      obtain ⟨go, wy⟩ := wg i _ (List.getElem?_eq_getElem hlt)
      refine .inr ⟨go, fun H3 => ∃ h3, HR X.K ct (m1 ++ [Dd]) h3 H3 ∧ Ext (m1 ++ [Dd]) (h1 ++ [.lst []]) (upd H1 Dd (.lst [])) (m1 ++ [Dd]) h3 H3 ∧ cm2L vs vs1 g t it1 g1 t1 f h1.length (ds.drop (i + 1)) σ h3 = some hE,
        fun H3 ⟨h3, a1, a2, a3⟩ => ⟨ds.length - (i + 1), by omega, rfl, hlt, h3, a1, a2, a3⟩, fun x H3 hy => ?_⟩
      obtain ⟨hr3, e3, rd⟩ := wy x H3 hy
      refine ⟨_, h2, _, .d _, hr3, ((lrA.ext e2).ext e3).wipe vs, rd, ?_⟩
      rw [cm2L] at q2
      cases q3 : g (.d ds[i]) (wipeL σ vs) h2 with
      | none => rw [q3] at q2; cases q2
      | some z =>
        obtain ⟨σ4, h4⟩ := z
        rw [q3] at q2
        dsimp only at q2
        refine fun m4 H4 σV4 hr4 e4 l4 w4 => ⟨w4.trans (wipe_wipe _ _), m4, h4, σ4, hr4, l4, ?_⟩
        cases q4 : t σ4 h4 with
        | bad => rw [q4] at q2; cases q2
        | exc e h5 => rw [q4] at q2; cases q2
        | ok b h5 =>
          rw [q4] at q2
          dsimp only at q2
          refine fun m5 H5 b' hr5 e5 rb5 => ?_
          subst rb5
          have e25 := (e3.trans e4).trans e5
          cases b with
          | false =>
            rw [if_neg Bool.false_ne_true] at q2
            obtain ⟨hr6, e6⟩ := HR.trim' hr2 hr5 e25
            rw [hl2] at hr6 e6
            exact ⟨_, hr6, e2.trans e6, q2⟩
          | true =>
            rw [if_pos rfl] at q2
            have l5 := l4.ext e5
            refine ⟨m5, h5, σ4, hr5, l5, ?_⟩
            cases q5 : it1 σ4 h5 with
            | bad => rw [q5] at q2; cases q2
            | exc e h6 => rw [q5] at q2; cases q2
            | ok es h6 =>
              rw [q5] at q2
              dsimp only at q2
              cases q6 : cmpL vs1 g1 t1 f h1.length es (clr (h1.length + 1) σ4) (h6.take (h1.length + 1)) with
              | none => rw [q6] at q2; cases q2
              | some h7 =>
                rw [q6] at q2
                dsimp only at q2
                refine fun m6 H6 J1 hr6 e6 w6 => ?_
                have e26 := e25.trans e6
                obtain ⟨hrB, eB⟩ := HR.trim' hr2 hr6 e26
                rw [hl2] at hrB eB
                have kpB : Kp (Sf m6 h6) H6 (Sf (m1 ++ [Dd]) (h6.take (h1.length + 1))) H6 := by
                  have := (hr6.trim (m1 ++ [Dd]).length).2
                  obtain ⟨tt, et⟩ := e26.pre
                  rw [et, List.take_left' rfl, hr2.len, hl2, ← et] at this
                  exact this
                have lB : LR X.K ct (m1 ++ [Dd]) (h6.take (h1.length + 1)) H6 (clr (h1.length + 1) σ4) σV4 := by
                  have := LR.clr hr6 e26 hr2.len (l5.ext e6)
                  rw [hl2] at this
                  exact this
                refine ⟨fun j k H => k = es.length - j ∧ j ≤ es.length ∧ ∃ h8, HR X.K ct (m1 ++ [Dd]) h8 H ∧ Ext (m1 ++ [Dd]) (h6.take (h1.length + 1)) H6 (m1 ++ [Dd]) h8 H ∧ cmpL vs1 g1 t1 f h1.length (es.drop j) (clr (h1.length + 1) σ4) h8 = some h7,
                  ⟨es.length, by simp, Nat.zero_le _, _, hrB, Ext.refl _ _ _, by rw [List.drop_zero]; exact q6⟩, ?_⟩
                rintro j k H8 ⟨rfl, hj, h8, hr8, e8, q8⟩
                obtain ⟨ws1, wg1⟩ := w6 _ h8 H8 hr8 (kpB.trans e8.kp)
                by_cases hlt1 : j < es.length
                · rw [List.drop_eq_getElem_cons hlt1] at q8
                  obtain ⟨go1, wy1⟩ := wg1 j _ (List.getElem?_eq_getElem hlt1)
                  refine .inr ⟨go1, fun H9 => ∃ h9, HR X.K ct (m1 ++ [Dd]) h9 H9 ∧ Ext (m1 ++ [Dd]) (h6.take (h1.length + 1)) H6 (m1 ++ [Dd]) h9 H9 ∧ cmpL vs1 g1 t1 f h1.length (es.drop (j + 1)) (clr (h1.length + 1) σ4) h9 = some h7,
                    fun H9 ⟨h9, a1, a2, a3⟩ => ⟨es.length - (j + 1), by omega, rfl, hlt1, h9, a1, a2, a3⟩, fun x1 H9 hy1 => ?_⟩
                  obtain ⟨hr9, e9, rd9⟩ := wy1 x1 H9 hy1
                  refine ⟨_, h8, _, .d _, hr9, ((lB.ext e8).ext e9).wipe vs1, rd9, ?_⟩
                  rw [cmpL] at q8
                  cases q9 : g1 (.d es[j]) (wipeL (clr (h1.length + 1) σ4) vs1) h8 with
                  | none => rw [q9] at q8; cases q8
                  | some z =>
                    obtain ⟨σA, hA⟩ := z
                    rw [q9] at q8
                    dsimp only at q8
                    refine fun mA HA σVA hrA' eA' lA' wA' => ⟨wA'.trans (wipe_wipe _ _), mA, hA, σA, hrA', lA', ?_⟩
                    have hl8 : h8.length = h1.length + 1 := by rw [← hr8.len, ← hr1.len, List.length_append]; rfl
                    cases qA : t1 σA hA with
                    | bad => rw [qA] at q8; cases q8
                    | exc e h5 => rw [qA] at q8; cases q8
                    | ok b hB =>
                      rw [qA] at q8
                      dsimp only at q8
                      refine fun mB HB b' hrB' eB' rb5 => ?_
                      subst rb5
                      have e9B := (e9.trans eA').trans eB'
                      cases b with
                      | false =>
                        rw [if_neg Bool.false_ne_true] at q8
                        obtain ⟨hrC, eC⟩ := HR.trim' hr8 hrB' e9B
                        rw [hl8] at hrC eC
                        exact ⟨_, hrC, e8.trans eC, q8⟩
                      | true =>
                        rw [if_pos rfl] at q8
                        refine ⟨mB, hB, σA, hrB', lA'.ext eB', ?_⟩
                        cases qB : f σA hB with
                        | bad => rw [qB] at q8; cases q8
                        | exc e h6 => rw [qB] at q8; cases q8
                        | ok y hC =>
                          rw [qB] at q8
                          dsimp only at q8
                          cases qC : cmpAdd h1.length y hC with
                          | none => rw [qC] at q8; cases q8
                          | some hD' =>
                            rw [qC] at q8
                            dsimp only at q8
                            refine fun mC HC v hrC eC rC => ?_
                            obtain ⟨acc, a1, a2, a3, a4⟩ := cmpAdd_sound hr1 hr8 hrC (e9B.trans eC) hl8 rC qC
                            exact ⟨acc, a1, a2, hD', a3, e8.trans a4, q8⟩
                · have e : j = es.length := by omega
                  subst e
                  rw [List.drop_length, cmpL] at q8
                  cases q8
                  exact .inl ⟨ws1 _ (Nat.le_refl _), _, hr8, e2.trans (eB.trans e8), q2⟩
    · have e : i = ds.length := by omega
      subst e
      rw [List.drop_length, cm2L] at q2
      cases q2
      exact .inl ⟨ws _ (Nat.le_refl _), lcEnd_sound hr1 hD hr2 (eA.trans e2) p1⟩
variable {elt tg iter tg1 iter1 : Expr} {ifs ifs1 : List Expr} {scope : Scope} {own : List (Str × Nat)}
abbrev BlkA (X : Cx) (scope : Scope) (φ : Cx → Prop) : Prop := ∀ (s : Shared) (H : Hp) (C : Addr) (cl : List (Str × Addr)) (fp : List Addr), φ (X.blk s H scope (compEnvC scope cl C X.env) fp)
theorem se_lc (mu : Bool) (hc : X.calm = true) (hN : X.N.Nodup) (hi : SI X ct W tg iter it) (ok : BlkOk X.N X.env.scope scope own) (hvs : own.map (·.2) = vs)
    (hg : BlkA X scope fun Y => SGc Y ct vs tg g) (ht : BlkA X scope fun Y => SPT Y ct W0 ifs t) (he : BlkA X scope fun Y => SE Y ct W0 elt f) (hs : ∀ x, foldedSetIterable iter X.env x = pure x := by intro _; rfl) :
    SE X ct W (.ListComp elt [⟨tg, iter, ifs, 0⟩] scope pos) (eLc mu vs it g t f) := by
  subst hvs
  exact PE.imp (pe_lc hc hN hi ok hg ht he hs) fun _ _ _ h => rd_lc h
theorem ss_setLc (mu : Bool) {i : Nat} {y : Str} {py spos : Pos} (hc : X.calm = true) (hN : X.N.Nodup) (hy : X.N[i]? = some y) (hyl : X.env.scope.names.lookup y = some .local)
    (hsw : swapsWith (.ListComp elt [⟨tg, iter, ifs, 0⟩] scope pos) (some (.Name y py)) spos.line X.env = pure true) (hi : SI X ct W tg iter it) (ok : BlkOk X.N X.env.scope scope own) (hvs : own.map (·.2) = vs)
    (hg : BlkA X scope fun Y => SGc Y ct vs tg g) (ht : BlkA X scope fun Y => SPT Y ct W0 ifs t) (he : BlkA X scope fun Y => SE Y ct W0 elt f) (hs : ∀ x, foldedSetIterable iter X.env x = pure x := by intro _; rfl) :
    SS X ct W (.Assign [.Name y py] (.ListComp elt [⟨tg, iter, ifs, 0⟩] scope pos) spos) (sAs (eLc mu vs it g t f) (gNm i)) := by
  subst hvs
  refine PS.imp (ps_setLc (g := rdGc X.K ct (own.map (·.2)) g) (tt := rdT X.K ct W0 t) (te := rdE X.K ct W0 f) hc hN hy hyl hsw hi ok hg ht he hs) fun D σV H ⟨m, ah, σ, hr, lr, p⟩ => ?_
  exact rd_lc ⟨m, ah, σ, hr, lr, (PoS.bind (R := VlR X.K ct) lr p).imp fun x H1 ⟨m1, h1, y, hr1, e1, r1, p1⟩ => p1 m1 H1 _ hr1 (Ext.refl _ _ _) ((lr.ext e1).set r1 i)⟩
theorem se_lc2 (mu : Bool) (hc : X.calm = true) (hN : X.N.Nodup) (hi : SI X ct W tg iter it) (ok : BlkOk X.N X.env.scope scope own) (hvs : own.map (·.2) = vs) (hv : ∀ i ∈ vs1, i ∈ own.map (·.2))
    (hg : BlkA X scope fun Y => SGc Y ct vs tg g) (ht : BlkA X scope fun Y => SPT Y ct W0 ifs t)
    (hi1 : BlkA X scope fun Y => SI Y ct W0 tg1 iter1 it1) (hg1 : BlkA X scope fun Y => SGc Y ct vs1 tg1 g1) (ht1 : BlkA X scope fun Y => SPT Y ct W0 ifs1 t1)
    (he : BlkA X scope fun Y => SE Y ct W0 elt f) (hs : ∀ x, foldedSetIterable iter X.env x = pure x := by intro _; rfl) (hs1 : ∀ env x, foldedSetIterable iter1 env x = pure x := by intro _ _; rfl) :
    SE X ct W (.ListComp elt [⟨tg, iter, ifs, 0⟩, ⟨tg1, iter1, ifs1, 0⟩] scope pos) (eLc2 mu vs vs1 it g t it1 g1 t1 f) := by
  subst hvs
  exact PE.imp (pe_lc2 hc hN hi ok hv hg ht hi1 hg1 ht1 he hs hs1) fun _ _ _ h => rd_lc2 h
theorem ss_setLc2 (mu : Bool) {i : Nat} {y : Str} {py spos : Pos} (hc : X.calm = true) (hN : X.N.Nodup) (hy : X.N[i]? = some y) (hyl : X.env.scope.names.lookup y = some .local)
    (hsw : swapsWith (.ListComp elt [⟨tg, iter, ifs, 0⟩, ⟨tg1, iter1, ifs1, 0⟩] scope pos) (some (.Name y py)) spos.line X.env = pure true) (hi : SI X ct W tg iter it) (ok : BlkOk X.N X.env.scope scope own) (hvs : own.map (·.2) = vs) (hv : ∀ i ∈ vs1, i ∈ own.map (·.2))
    (hg : BlkA X scope fun Y => SGc Y ct vs tg g) (ht : BlkA X scope fun Y => SPT Y ct W0 ifs t)
    (hi1 : BlkA X scope fun Y => SI Y ct W0 tg1 iter1 it1) (hg1 : BlkA X scope fun Y => SGc Y ct vs1 tg1 g1) (ht1 : BlkA X scope fun Y => SPT Y ct W0 ifs1 t1)
    (he : BlkA X scope fun Y => SE Y ct W0 elt f) (hs : ∀ x, foldedSetIterable iter X.env x = pure x := by intro _; rfl) (hs1 : ∀ env x, foldedSetIterable iter1 env x = pure x := by intro _ _; rfl) :
    SS X ct W (.Assign [.Name y py] (.ListComp elt [⟨tg, iter, ifs, 0⟩, ⟨tg1, iter1, ifs1, 0⟩] scope pos) spos) (sAs (eLc2 mu vs vs1 it g t it1 g1 t1 f) (gNm i)) := by
  subst hvs
  refine PS.imp (ps_setLc2 (g := rdGc X.K ct (own.map (·.2)) g) (tt := rdT X.K ct W0 t) (wi1 := rdI X.K ct W0 it1) (g1 := rdGc X.K ct vs1 g1) (tt1 := rdT X.K ct W0 t1) (te := rdE X.K ct W0 f) hc hN hy hyl hsw hi ok hv hg ht hi1 hg1 ht1 he hs hs1) fun D σV H ⟨m, ah, σ, hr, lr, p⟩ => ?_
  exact rd_lc2 ⟨m, ah, σ, hr, lr, (PoS.bind (R := VlR X.K ct) lr p).imp fun x H1 ⟨m1, h1, y, hr1, e1, r1, p1⟩ => p1 m1 H1 _ hr1 (Ext.refl _ _ _) ((lr.ext e1).set r1 i)⟩
end
end Mi

/-! Mi8: more operations: min, max, append, extend, stores, tuples of ranges, in for tuples, isinstance, own == -/
namespace Mi
open PySem PySem.Spec L2

section
variable {X : Cx} {ct : CT} {W : WX} {pos p apos : Pos} {e o : Expr} {es : List Expr} {f g : SemE} {fs : SemA}
/-! ### min, max of two ints -/
def n2 (k : Int → Int → Int) : OpN := fun xs h => match xs with
  | [.d (.int i), .d (.int j)] => some (.d (.int (k i j)), h)
  | _ => none
def nMin2 : OpN := n2 fun i j => if j < i then j else i
def nMax2 : OpN := n2 fun i j => if j > i then j else i
theorem n2_sound {id : String} {k : Int → Int → Int} (hc : CallR X (.builtin id) (fun xs H Q => ∃ i j, xs = [.int i, .int j] ∧ Q (.int (k i j)) H)) : CallR X (.builtin id) (rN X.K ct (n2 k)) := by
  refine CallR.imp hc fun vs H Q ⟨m, ah, xs, hr, rs, p⟩ => ?_
  unfold n2 at p
  split at p
  · cases rs with
    | cons r t =>
      cases t with
      | cons r2 t => cases t; cases r; cases r2; exact ⟨_, _, rfl, p.same hr (.int _)⟩
  · exact p.elim
theorem min2_sound (hc : X.calm = true) : CallR X (.builtin "min") (rN X.K ct nMin2) := n2_sound (call_min2 hc)
theorem max2_sound (hc : X.calm = true) : CallR X (.builtin "max") (rN X.K ct nMax2) := n2_sound (call_max2 hc)

/-! ### methods of a changeable list -/
def eLm (op : List D → List D → Hs → Option (List D × Vl)) (f : SemE) (fs : SemA) : SemE := fun σ h => rb (f σ h) fun x h1 => match x with
  | .r k => (match h1[k]? with
    | some (.lst _) => rb (fs σ h1) fun ys h2 => (match h2[k]? with
      | some (.lst xs) => (match toDs ys h2 with
        | some (ds, h3) => (match h3[k]? with
          | some (.lst _) => (match op xs ds h3 with
            | some (xs', v) => .ok v (h3.set k (.lst xs'))
            | none => .bad)
          | _ => .bad)
        | none => .bad)
      | _ => .bad)
    | _ => .bad)
  | _ => .bad
def lmAppend : List D → List D → Hs → Option (List D × Vl) := fun xs ds _ => match ds with
  | [d] => if xs.length < sizeLine then some (xs ++ [d], .d .non) else none
  | _ => none
theorem toDs_keep {k : Nat} {xs : List D} : ∀ {ys : List Vl} {h : Hs} {ds : List D} {h' : Hs}, toDs ys h = some (ds, h') → h'[k]? = some (.lst xs) → h[k]? = some (.lst xs)
  | [], h, ds, h', e, q => by cases e; exact q
  | y :: ys, h, ds, h', e, q => by
    unfold toDs at e
    cases e1 : toD y h with
    | none => rw [e1] at e; cases e
    | some z =>
      obtain ⟨d, h1⟩ := z
      rw [e1] at e
      simp only [Option.bind_some] at e
      cases e2 : toDs ys h1 with
      | none => rw [e2] at e; cases e
      | some z2 =>
        obtain ⟨ds2, h2⟩ := z2
        rw [e2] at e
        simp only [Option.map_some, Option.some.injEq, Prod.mk.injEq] at e
        obtain ⟨_, rfl⟩ := e
        have q1 := toDs_keep (k := k) (xs := xs) e2 q
        unfold toD at e1
        split at e1
        · cases e1; exact q1
        · rename_i j
          have hj : ∀ o : O, h1 = h.set j .dead → h[k]? = some (.lst xs) := fun _ z => by
            subst z
            by_cases hk : j = k
            · subst hk
              by_cases hl : j < h.length
              · rw [List.getElem?_set_self hl] at q1; cases q1
              · rw [List.getElem?_eq_none (by rw [List.length_set]; omega)] at q1; cases q1
            · rw [List.getElem?_set_ne hk] at q1; exact q1
          split at e1 <;> first | (cases e1; exact hj .dead rfl) | cases e1
theorem se_append {cpos : Pos} (he : SE X ct W o f) (ha : SA X ct W [e] fs)
    (hbase : attributeBase o "append" X.env (eval o X.env) = eval o X.env := by rfl)
    (hfew : ((backTo cpos (starEach [e] X.env)).all (fun x => !x.1) && (backToKw cpos (keywordEach [] X.env)).all (fun x => x.1.isSome)
      && decide ([e].length + ([] : List Keyword).length + (if ([] : List Keyword).isEmpty then 0 else 1) < 30)) = true := by rfl)
    (hline : (apos.endLine == cpos.line) = true := by rfl) (hs : starEach [e] X.env = (false, eval e X.env) :: starEach [] X.env := by rfl) (hplain : (backTo cpos (starEach [] X.env)).any (·.1) = false := by rfl) :
    SE X ct W (.Call (.Attribute o "append" apos) [e] [] cpos) (eLm lmAppend f fs) :=
  PE.imp (pe_bm PySem.F.plainAttrs_list PySem.F.slot_list_append PySem.F.type_list_append (r := rAppend) mt_append he ha hbase hfew hline hs hplain) fun σV H Q ⟨m, ah, σ, hr, lr, p⟩ => by
    refine ⟨m, ah, σ, hr, lr, (Po.bind (R := VlR X.K ct) p).imp fun v H1 ⟨m1, h1, x, hr1, e1, r1, p1⟩ => ?_⟩
    dsimp only at p1
    split at p1
    · rename_i k
      split at p1
      · rename_i ys hk
        obtain ⟨a, vs, ha, rfl, g1, g2⟩ := hr1.lstK hk r1
        refine ⟨.inl ⟨rfl, vs, .of g1⟩, m1, h1, σ, hr1, lr.ext e1, (Po.bind (R := VlRs X.K ct) p1).imp fun us H2 ⟨m2, h2, ys2, hr2, e2, r2, p2⟩ => ?_⟩
        dsimp only at p2
        split at p2
        · rename_i xs hk2
          split at p2
          · rename_i ds h3 q3
            obtain ⟨hr3, e3, r3⟩ := toDs_sound hr2 q3 r2
            split at p2
            · rename_i xs2 hk3
              have ee := toDs_keep q3 hk3
              rw [hk2] at ee
              cases ee
              unfold lmAppend at p2
              split at p2
              · rename_i xs' v hop
                split at hop
                · split at hop
                  · rename_i hz
                    cases hop
                    have ha2 := e2.at ha
                    obtain ⟨u, g3, g4⟩ := hr3.ob k a _ ha2 hk3
                    cases g4 with
                    | lst t =>
                      cases r3 with
                      | cons r3 tt =>
                        cases tt
                        obtain ⟨hr4, e4⟩ := hr3.write ha2 hk3 (by simp) (OR.lst (t.append (.cons r3 .nil)))
                        refine ⟨a, _, _, rfl, rfl, g3, by rw [← t.length]; exact hz, p2 m2 _ _ hr4 (e3.trans e4) .non⟩
                  · cases hop
                · cases hop
              · exact p2.elim
            · exact p2.elim
          · exact p2.elim
        · exact p2.elim
      · exact p1.elim
    · exact p1.elim
/-- x.extend(y), y a list or tuple of data -/
theorem ext_tup (l : Addr) (items : Array Value) (n : Nat) (b : Addr) (items2 : Array Value) (n2 : Nat) (dct : Option Addr) (sl : Array (Option Value)) (h0 : (!items.isEmpty && Builtin.List.listTooLong (items.size + items2.size)) = false) (h1 : items.size ≤ sizeLine) (h2 : items.size + items2.size ≤ sizeLine + 1) :
    Meets (Builtin.«list.extend» ⟨[.ref l, .ref b], []⟩) (fun _ R s => s.heap.get? l = some { cls := .type "list", data := .seq items n } ∧ s.heap.get? b = some { cls := .type "tuple", dict := dct, data := .seq items2 n2, slots := sl } ∧
      R (.ok (.ret .none)) { s with heap := s.heap.update l (Obj.mapSeq fun x => x ++ items2) }) :=
  .of_wp fun prog w A R s ⟨hl, hb, h⟩ => by
    obtain ⟨hp, g, d, tk, os⟩ := s
    have f1 := AutoSeq1.idx_int
    have f2 := AutoSeq1.sub_tuple_tuple
    have f3 := AutoSeq1.sub_list_list
    have f4 := AutoSeq1.sub_tuple_list
    have f5 := AutoSeq1.sub_list_tuple
    have hs0 : ¬ (!items.isEmpty && Builtin.List.listTooLong (items.size + items2.size)) = true := by rw [h0]; exact Bool.false_ne_true
    have hz' : (items ++ items2).size ≤ sizeLine + 1 := by rw [Array.size_append]; exact h2
    wp_walk using (wpAny_updateSeq hl rfl (hz := h1) (_hz' := hz')), AutoSeq1.wpAny_loadPart' hl, AutoSeq1.wpAny_loadPart' hb
    exact ⟨_, rfl, h⟩
def rExtS (K : PySem.W.Frag) : V → List V → Hp → VK → Prop := fun x vs H Q => ∃ l b xs zs, x = .ref l ∧ vs = [.ref b] ∧ H l = some (.lst xs) ∧ (H b = some (.lst zs) ∨ SqT K H b zs) ∧ xs.length + zs.length ≤ sizeLine ∧ Q .non (upd H l (.lst (xs ++ zs)))
theorem mt_extS : MtM X "list.extend" (rExtS X.K) := by
  intro pins s σ H x vs v us Q I rx rv h
  obtain ⟨l, b, xs, zs, rfl, rfl, hH, hB | hB, hz, q⟩ := h
  · exact mt_extend pins s σ H _ _ v us Q I rx rv ⟨l, b, xs, zs, rfl, rfl, hH, hB, hz, q⟩
  · cases rx
    obtain ⟨u, rfl, ru⟩ := rv.one
    cases ru
    obtain ⟨z, its, n, r, hl, e⟩ := I.lstM hH
    obtain ⟨its2, r2, ⟨⟨c2, d2, dt2, sl2⟩, e2, hc2, n2, hd2⟩, hz2⟩ := I.tuple hB
    dsimp only at hc2 hd2
    subst hc2 hd2
    have l2 := r2.length
    have hsz : its.toArray.size + its2.toArray.size ≤ sizeLine := by rw [List.size_toArray, List.size_toArray]; omega
    refine call_meets PySem.F.slot_list_extend ⟨_, e, rfl⟩ PySem.F.entry_list_extend (PySem.F.args_list_extend_2 _ _)
      (ext_tup l its.toArray n b its2.toArray n2 d2 sl2 (by rw [notLongL hsz, Bool.and_false]) (by rw [List.size_toArray]; omega) (by omega)) ⟨e, e2, ?_⟩
    refine ⟨.non, _, I.lset (its' := its ++ its2) (t' := s.toks) hH e (by simp) (r.append r2) ?_, rfl, q⟩
    rw [List.length_append]
    omega
def eXt (f : SemE) (fs : SemA) : SemE := fun σ h => rb (f σ h) fun x h1 => match x with
  | .r k => (match h1[k]? with
    | some (.lst _) => rb (fs σ h1) fun ys h2 => (match ys, h2[k]? with
      | [y], some (.lst xs) => (match pureSeq y with
        | some zs => if xs.length + zs.length ≤ sizeLine then .ok (.d .non) (h2.set k (.lst (xs ++ zs))) else .bad
        | none => .bad)
      | _, _ => .bad)
    | _ => .bad)
  | _ => .bad
theorem se_extend {cpos : Pos} (he : SE X ct W o f) (ha : SA X ct W [e] fs)
    (hbase : attributeBase o "extend" X.env (eval o X.env) = eval o X.env := by rfl)
    (hfew : ((backTo cpos (starEach [e] X.env)).all (fun x => !x.1) && (backToKw cpos (keywordEach [] X.env)).all (fun x => x.1.isSome)
      && decide ([e].length + ([] : List Keyword).length + (if ([] : List Keyword).isEmpty then 0 else 1) < 30)) = true := by rfl)
    (hline : (apos.endLine == cpos.line) = true := by rfl) (hs : starEach [e] X.env = (false, eval e X.env) :: starEach [] X.env := by rfl) (hplain : (backTo cpos (starEach [] X.env)).any (·.1) = false := by rfl) :
    SE X ct W (.Call (.Attribute o "extend" apos) [e] [] cpos) (eXt f fs) :=
  PE.imp (pe_bm PySem.F.plainAttrs_list PySem.F.slot_list_extend PySem.F.type_list_extend (r := rExtS X.K) mt_extS he ha hbase hfew hline hs hplain) fun σV H Q ⟨m, ah, σ, hr, lr, p⟩ => by
    refine ⟨m, ah, σ, hr, lr, (Po.bind (R := VlR X.K ct) p).imp fun v H1 ⟨m1, h1, x, hr1, e1, r1, p1⟩ => ?_⟩
    dsimp only at p1
    split at p1
    · rename_i k
      split at p1
      · rename_i ys hk
        obtain ⟨a, vs, ha, rfl, g1, g2⟩ := hr1.lstK hk r1
        refine ⟨.inl ⟨rfl, vs, .of g1⟩, m1, h1, σ, hr1, lr.ext e1, (Po.bind (R := VlRs X.K ct) p1).imp fun us H2 ⟨m2, h2, ys2, hr2, e2, r2, p2⟩ => ?_⟩
        dsimp only at p2
        split at p2
        · rename_i y xs hk2
          split at p2
          · rename_i zs hzs
            split at p2
            · rename_i hz
              have ha2 := e2.at ha
              obtain ⟨u, g3, g4⟩ := hr2.ob k a _ ha2 hk2
              cases g4 with
              | lst t =>
                cases r2 with
                | @cons _ w _ _ r2 tt =>
                  cases tt
                  have key : ∃ b ws, w = V.ref b ∧ (H2 b = some (.lst ws) ∨ SqT X.K H2 b ws) ∧ DRs X.K ct (Sf m2 h2) H2 zs ws := by
                    unfold pureSeq at hzs
                    split at hzs
                    · cases hzs
                      obtain ⟨b, ws, rfl, q1, q2⟩ := tup_of r2
                      exact ⟨b, ws, rfl, .inr q1, q2⟩
                    · cases hzs
                      cases r2 with
                      | lv b1 b2 b3 => exact ⟨_, _, rfl, .inl b1, b3⟩
                    · cases hzs
                  obtain ⟨b, ws, rfl, q1, q2⟩ := key
                  obtain ⟨hr4, e4⟩ := hr2.write ha2 hk2 (by simp) (OR.lst (t.append q2))
                  refine ⟨a, b, _, ws, rfl, rfl, g3, q1, by rw [← t.length, ← q2.length]; exact hz, p2 m2 _ _ hr4 e4 .non⟩
            · exact p2.elim
          · exact p2.elim
        · exact p2.elim
      · exact p1.elim
    · exact p1.elim

/-! ### xs[i] = v -/
/-- the store into a list at a name -/
def gSt (f g : SemE) : SemG := fun x σ h => match toD x h with
  | none => none
  | some (d, h0) => match f σ h0 with
    | .ok (.r k) h1 => (match g σ h1 with
      | .ok (.d (.int i)) h2 => (match h2[k]? with
        | some (.lst xs) => (match ixN xs.length i with
          | some j => some (σ, h2.set k (.lst (xs.set j d)))
          | none => none)
        | _ => none)
      | _ => none)
    | _ => none
theorem sg_store {i : Expr} (ho : SE X ct W0 o f) (hi : SE X ct W0 i g)
    (ha : ∀ v, assign (.Subscript o i pos) X.env v = (do
      let ov ← holding [v] (eval o X.env)
      let iv ← holding [v, ov] (eval i X.env)
      standAt pos
      holding [v, ov, iv] (setItem ov iv v)
      release [v, ov, iv] []) := by intro _; rfl) : SG X ct (.Subscript o i pos) (gSt f g) :=
  PG.imp (pg_sub ho hi set_list ha) fun v σV H Q ⟨m, ah, σ, x, hr, lr, r, p⟩ => by
    unfold gSt at p
    cases q : toD x ah with
    | none => rw [q] at p; exact p.elim
    | some z =>
      obtain ⟨d, h0⟩ := z
      rw [q] at p
      dsimp only at p
      obtain ⟨hr0, e0, r0⟩ := toD_sound hr q r
      refine ⟨m, h0, σ, hr0, lr.ext e0, ?_⟩
      cases q1 : f σ h0 with
      | bad => rw [q1] at p; exact p.elim
      | exc ex h1 => rw [q1] at p; exact p.elim
      | ok y h1 =>
        rw [q1] at p
        cases y with
        | d y => exact p.elim
        | r k =>
          dsimp only at p
          refine fun m1 H1 ov hr1 e1 r1 => ⟨m1, h1, σ, hr1, (lr.ext e0).ext e1, ?_⟩
          cases q2 : g σ h1 with
          | bad => rw [q2] at p; exact p.elim
          | exc ex h2 => rw [q2] at p; exact p.elim
          | ok y h2 =>
            rw [q2] at p
            split at p
            · rename_i y2 i h2' heq
              cases heq
              refine fun m2 H2 iv hr2 e2 r2 => ?_
              cases r2
              split at p
              · rename_i xs hk
                split at p
                · rename_i j hj
                  obtain ⟨a, hm, rfl⟩ := VlR.ext e2 r1
                  obtain ⟨u, g3, g4⟩ := hr2.ob k a _ hm hk
                  cases g4 with
                  | lst t =>
                    obtain ⟨hr4, e4⟩ := hr2.write hm hk (by simp) (OR.lst (t.set (r0.mono (e1.trans e2).kp) j))
                    refine ⟨a, _, _, j, rfl, rfl, g3, by rw [← t.length]; exact hj, ?_⟩
                    exact p m2 _ _ hr4 (((e0.trans e1).trans e2).trans e4) ((((lr.ext e0).ext e1).ext e2).ext e4)
                · exact p.elim
              · exact p.elim
            · exact p.elim

/-! ### tuple(range(n)) -/
def smR (n : Int) : Bool := decide (0 ≤ n) && Nat.ble n.natAbs 16777216
theorem smR_ok {n : Int} (h : smR n = true) : 0 ≤ n ∧ n ≤ 16777216 := by
  unfold smR at h
  simp only [Bool.and_eq_true, decide_eq_true_eq] at h
  have := Nat.le_of_ble_eq_true h.2
  omega
def eTR (f : SemE) : SemE := fun σ h => rb (f σ h) fun x h1 => match x with
  | .d (.int n) => if smR n = true then .ok (.d (.tup (rngD 0 n.toNat))) h1 else .bad
  | _ => .bad
theorem rngD_drs {K : PySem.W.Frag} {S : Addr → Prop} {H : Hp} {n : Int} (h : 0 ≤ n) : DRs K ct S H (rngD 0 n.toNat) (rgV 0 n) := by
  unfold rngD rgV
  rw [show n - 0 = n by omega]
  generalize List.range n.toNat = l
  induction l with
  | nil => exact .nil
  | cons a l ih => exact .cons (.int _) ih
theorem se_tupR {p2 pos2 : Pos} (hc : X.calm = true) (hg : Gl X "tuple") (hm : X.mg "tuple" = none) (hg2 : Gl X "range") (hm2 : X.mg "range" = none) (he : SE X ct W e f)
    (na : starEach [Expr.Call (.Name "range" p2) [e] [] pos2] X.env = (false, eval (.Call (.Name "range" p2) [e] [] pos2) X.env) :: starEach [] X.env := by rfl) (na2 : starEach [e] X.env = (false, eval e X.env) :: starEach [] X.env := by rfl) :
    SE X ct W (.Call (.Name "tuple" p) [.Call (.Name "range" p2) [e] [] pos2] [] pos) (eTR f) :=
  PE.imp (pe_tupRg hc hg hm (prg_1 hg2 hm2 he na2) na) fun σV H Q ⟨m, ah, σ, hr, lr, p⟩ => ⟨m, ah, σ, hr, lr, (Po.bind (R := VlR X.K ct) p).imp fun v H1 ⟨m1, h1, x, hr1, e1, r1, p1⟩ => by
    dsimp only at p1
    split at p1
    · rename_i n
      cases r1
      split at p1
      · rename_i hn
        replace hn := smR_ok hn
        refine ⟨_, rfl, RgOk.of_le (by omega) hn.2 (by omega) hn.1, fun a ha => ?_⟩
        exact p1 m1 _ _ (hr1.pure (o := .tup (rgV 0 n)) ha).1 (hr1.pure (o := .tup (rgV 0 n)) ha).2.1 (new_tup (rngD_drs hn.1) (hr1.pure (o := .tup (rgV 0 n)) ha).2.1.kp (hr1.freshS ha))
      · exact p1.elim
    · exact p1.elim⟩

/-! ### x in a list or tuple of flat data -/
def flD : D → Bool
  | .non => true
  | .bl _ => true
  | .int _ => true
  | .str _ => true
  | _ => false
def eqF : D → D → Bool
  | .non, .non => true
  | .bl a, .bl b => a == b
  | .bl a, .int b => (if a then 1 else 0) == b
  | .int a, .bl b => a == (if b then 1 else 0)
  | .int a, .int b => a == b
  | .str a, .str b => a == b
  | _, _ => false
theorem fl_of {K : PySem.W.Frag} {S : Addr → Prop} {H : Hp} {d : D} {v : V} (h : flD d = true) (r : DR K ct S H d v) : flatV v = true := by
  cases r <;> first | rfl | cases h
theorem eqF_of {K : PySem.W.Frag} {S : Addr → Prop} {H : Hp} {d d' : D} {v v' : V} (h : flD d = true) (h' : flD d' = true) (r : DR K ct S H d v) (r' : DR K ct S H d' v') : eqV v v' = eqF d d' := by
  cases r <;> first | (cases h; done) | (cases r' <;> first | rfl | (cases h'; done))
def inF (x y : Vl) (h : Hs) : Option Bool := match x, seqOf y h with
  | .d d, some ds => if flD d = true ∧ ds.all flD = true then some (ds.any fun z => eqF z d) else none
  | _, _ => none
def oInF (neg : Bool) : Op2 := fun x y h => (inF x y h).map fun c => (.d (.bl (if neg then !c else c)), h)
theorem inV_of {K : PySem.W.Frag} {S : Addr → Prop} {H : Hp} {d : D} {v : V} (h : flD d = true) (r : DR K ct S H d v) : ∀ {ds : List D} {vs : List V}, ds.all flD = true → DRs K ct S H ds vs → vs.all flatV = true ∧ inV v vs = ds.any fun z => eqF z d
  | _, _, _, .nil => ⟨rfl, rfl⟩
  | _, _, hs, .cons r1 t => by
    rw [List.all_cons, Bool.and_eq_true] at hs
    obtain ⟨i1, i2⟩ := inV_of h r hs.2 t
    unfold inV at i2 ⊢
    rw [List.all_cons, List.any_cons, List.any_cons, i1, i2, fl_of hs.1 r1, eqF_of hs.1 h r1 r]
    exact ⟨rfl, rfl⟩
theorem inF_sound {op : CmpOp} {neg : Bool} (ho : OpR X (compareOp op) (rIn X.K neg)) : OpR X (compareOp op) (rOp X.K ct (oInF neg)) := by
  refine OpR.imp ho fun x y H Q ⟨m, ah, a, b, hr, ra, rb, p⟩ => ?_
  unfold oInF at p
  cases e : inF a b ah with
  | none => rw [e] at p; exact p.elim
  | some c =>
  rw [e] at p
  unfold inF at e
  split at e
  · rename_i d ds hs
    by_cases hc : flD d = true ∧ ds.all flD = true
    · rw [if_pos hc] at e
      cases e
      obtain ⟨l, vs, rfl, h1, r1⟩ := seq_of hr hs rb
      obtain ⟨i1, i2⟩ := inV_of hc.1 ra hc.2 r1
      refine ⟨l, vs, rfl, h1, fl_of hc.1 ra, i1, ?_⟩
      rw [i2]
      cases neg <;> exact p.same hr (.bl _)
    · rw [if_neg hc] at e; cases e
  · cases e
theorem inT_sound : OpR X (compareOp .In) (rOp X.K ct (oInF false)) := inF_sound op_in_seq
theorem notInT_sound : OpR X (compareOp .NotIn) (rOp X.K ct (oInF true)) := inF_sound op_notIn_seq
end

/-! ### isinstance -/
inductive Ty where
  | b (n : String) | c (C : Nat)
deriving DecidableEq
def tyD (x : Vl) (h : Hs) : Option Ty := match insOf x h with
  | some (C, _) => some (.c C)
  | none => (tyO x h).map .b
def tyW (ct : CT) : Ty → Value
  | .b n => .type n
  | .c C => .ref (ct.ca C)
/-- what isinstance asks of an own class -/
structure IsiC (K : PySem.W.Frag) (C : Addr) : Prop where
  cl : Cls K C
  ha : PySem.W.findIn K (.ref C) "__class__" = some (some (.builtin "object.__class__"))
  hn : PySem.W.specialIn K (.builtin "object.__class__") "__get__" = some (some (.builtin "getset_descriptor.__get__"))
  htk : PySem.W.takesIn K (.builtin "object.__class__") = some true
  hm : PySem.W.mroIn K C (.type "object") = some true
def lookT (t : Ty) : List (Ty × Bool) → Option Bool
  | [] => none
  | (s, b) :: r => if s = t then some b else lookT t r
/-- the answers of isinstance for the types that may come -/
def IsiOk (K : PySem.W.Frag) (ct : CT) (u : Value) (l : List (Ty × Bool)) : Prop := ∀ t b, lookT t l = some b → PySem.W.kitOne K (tyW ct t) u = some b ∧ ∀ C, t = .c C → IsiC K (ct.ca C)
theorem IsiOk.nil {K : PySem.W.Frag} {ct : CT} {u : Value} : IsiOk K ct u [] := fun t b h => nomatch h
theorem IsiOk.cons {K : PySem.W.Frag} {ct : CT} {u : Value} {s : Ty} {b : Bool} {l : List (Ty × Bool)} (h1 : PySem.W.kitOne K (tyW ct s) u = some b) (h2 : ∀ C, s = .c C → IsiC K (ct.ca C)) (h : IsiOk K ct u l) : IsiOk K ct u ((s, b) :: l) := fun t b' e => by
  unfold lookT at e
  split at e
  · rename_i q
    subst q
    cases e
    exact ⟨h1, h2⟩
  · exact h t b' e
theorem IsiOk.consB {K : PySem.W.Frag} {ct : CT} {u : Value} {s : String} {b : Bool} {l : List (Ty × Bool)} (h1 : PySem.W.kitOne K (.type s) u = some b) (h : IsiOk K ct u l) : IsiOk K ct u ((.b s, b) :: l) := .cons h1 (fun _ e => nomatch e) h
theorem IsiOk.consC {K : PySem.W.Frag} {ct : CT} {u : Value} {s : Nat} {b : Bool} {l : List (Ty × Bool)} (h1 : PySem.W.kitOne K (.ref (ct.ca s)) u = some b) (h2 : IsiC K (ct.ca s)) (h : IsiOk K ct u l) : IsiOk K ct u ((.c s, b) :: l) := .cons h1 (fun _ e => by cases e; exact h2) h
theorem isi_any {K : PySem.W.Frag} {ct : CT} {b : String} (h : kitB b b = some true) : ∀ l : List (String × Bool), (l.all fun p => decide (kitB p.1 b = some p.2)) = true → IsiOk K ct (.type b) (l.map fun p => (Ty.b p.1, p.2))
  | [], _ => .nil
  | p :: l, e => by
    simp only [List.all_cons, Bool.and_eq_true, decide_eq_true_eq] at e
    exact .consB (kit_ty e.1) (isi_any h l (by simpa using e.2))
def eIsi (l : List (Ty × Bool)) (f : SemE) : SemE := fun σ h => rb (f σ h) fun x h1 => match tyD x h1 with
  | some t => (match lookT t l with
    | some b => .ok (.d (.bl b)) h1
    | none => .bad)
  | none => .bad
theorem tyD_sound {K : PySem.W.Frag} {ct : CT} {m : List Addr} {ah : Hs} {H : Hp} (hr : HR K ct m ah H) {x : Vl} {v : V} {t : Ty} (r : VlR K ct m ah H x v) (e : tyD x ah = some t) (hc : ∀ C, t = .c C → IsiC K (ct.ca C)) : TyX K H v (tyW ct t) := by
  unfold tyD at e
  split at e
  · rename_i C fs q
    cases e
    obtain ⟨a, dx, vs, rfl, h1, _⟩ := ins_of hr q r
    have z := hc C rfl
    exact .base (.ins h1 z.cl z.ha z.hn z.htk z.hm)
  · cases q : tyO x ah with
    | none => rw [q] at e; cases e
    | some n => rw [q] at e; cases e; exact tyO_sound hr r q
section
variable {X : Cx} {ct : CT} {W : WX} {pos p p2 : Pos} {e : Expr} {f : SemE} {x : Str} {l : List (Ty × Bool)}
theorem pe_isi {c : V} {u : Value} (hk : ClsV c u) (h2 : PE X (.Name x p2) (tC c)) (ho : IsiOk X.K ct u l) (hg : Gl X "isinstance") (hm : X.mg "isinstance" = none) (he : SE X ct W e f)
    (h1 : starEach [e, .Name x p2] X.env = (false, eval e X.env) :: starEach [.Name x p2] X.env := by rfl) : SE X ct W (.Call (.Name "isinstance" p) [e, .Name x p2] [] pos) (eIsi l f) :=
  PE.imp (pe_callB call_isi hg hm PyProof.Rows.boot_isinstance (pa_cons he (pa_cons h2 pa_nil (by rfl)) h1) (by decide) (by decide) h1 (by rfl)) fun σV H Q ⟨m, ah, σ, hr, lr, p⟩ => ⟨m, ah, σ, hr, lr, (Po.bind (R := VlR X.K ct) p).imp fun v H1 ⟨m1, h1, x, hr1, e1, r1, p1⟩ => by
    dsimp only at p1
    cases q : tyD x h1 with
    | none => rw [q] at p1; exact p1.elim
    | some t =>
      rw [q] at p1
      dsimp only at p1
      cases q2 : lookT t l with
      | none => rw [q2] at p1; exact p1.elim
      | some b =>
        rw [q2] at p1
        obtain ⟨k1, k2⟩ := ho t b q2
        exact ⟨v, c, _, u, b, rfl, hk, tyD_sound hr1 r1 q k2, k1, p1 m1 H1 _ hr1 (Ext.refl _ _ _) (.bl b)⟩⟩
/-- isinstance(e, T), T built in -/
theorem se_isiB {T : String} (hg2 : Gl X x) (hm2 : X.mg x = none) (hv : bootBuiltins x = some (.type T)) (ho : IsiOk X.K ct (.type T) l) (hg : Gl X "isinstance") (hm : X.mg "isinstance" = none) (he : SE X ct W e f) (hn : x ≠ "__name__" := by decide) (hd : (x == ("__debug__" : Str)) = false := by decide)
    (h1 : starEach [e, .Name x p2] X.env = (false, eval e X.env) :: starEach [.Name x p2] X.env := by rfl) : SE X ct W (.Call (.Name "isinstance" p) [e, .Name x p2] [] pos) (eIsi l f) :=
  pe_isi (.ty T) (pe_bltn hg2 hm2 hv (v := .ty T) rfl hn hd) ho hg hm he h1
/-- isinstance(e, C), C own -/
theorem se_isiC {C : Addr} (hg2 : Gl X x) (hm2 : X.mg x = some (.ref C)) (ho : IsiOk X.K ct (.ref C) l) (hg : Gl X "isinstance") (hm : X.mg "isinstance" = none) (he : SE X ct W e f) (hd : (x == ("__debug__" : Str)) = false := by decide)
    (h1 : starEach [e, .Name x p2] X.env = (false, eval e X.env) :: starEach [.Name x p2] X.env := by rfl) : SE X ct W (.Call (.Name "isinstance" p) [e, .Name x p2] [] pos) (eIsi l f) :=
  pe_isi (.own C) (pe_glob hg2 hm2 (v := .ref C) rfl hd) ho hg hm he h1

/-! ### == of two instances of an own class -/
def oOwn (call : CallT) (i C : Nat) : Op2 := fun x y h => match insOf x h, insOf y h with
  | some (C1, _), some (C2, _) => if C1 = C ∧ C2 = C then (match call i [x, y] h with
    | .ok (.d (.bl b)) h' => some (.d (.bl b), h')
    | _ => none) else none
  | _, _ => none
theorem own_sound {call : CallT} {i C n : Nat} {fns : List Fn} {F : Fn} (co : CallOk X.prog X.w X.K X.mg X.base ct fns call n) (hr : Room (2 * n) X.A) (hF : fns[i]? = some F)
    (hs : PySem.W.findIn X.K (.ref (ct.ca C)) "__eq__" = some (some (.ref F.f))) (hf : PySem.W.isFn X.K (.ref F.f) = true) (hb : Binds X.K F.fd F.ps []) : OpR X (compareOp .Eq) (rOp X.K ct (oOwn call i C)) := by
  intro pins s σ H x y v u Q I rx ry ⟨m, ah, a, b, h1, ra, rb, p⟩
  unfold oOwn at p
  split at p
  · rename_i C1 f1 C2 f2 q1 q2
    split at p
    · rename_i hc
      obtain ⟨rfl, rfl⟩ := hc
      obtain ⟨l1, d1, v1, rfl, g1, _⟩ := ins_of h1 q1 ra
      obtain ⟨l2, d2, v2, rfl, g2, _⟩ := ins_of h1 q2 rb
      cases rx
      cases ry
      obtain ⟨mA, J, _⟩ := ins_get I.hok g1
      obtain ⟨mB, J', _⟩ := ins_get I.hok g2
      obtain ⟨od, J, _⟩ := J.look
      obtain ⟨od', J', _⟩ := J'.look
      obtain ⟨mm, hFr⟩ := I.fr
      refine PySem.W.cmp_K (op := .Eq) (tb := .ref (ct.ca C2)) hr.units0 hFr I.ok.mod.kin J J'.type (by simp [PySem.W.notFirst]) hs hf ?_
      cases q : call i [a, b] ah with
      | bad => rw [q] at p; exact p.elim
      | exc ex h2 => rw [q] at p; exact p.elim
      | ok z h2 =>
        rw [q] at p
        split at p
        · rename_i z' bb h3 heq
          cases heq
          refine wpAny_mono (run_cl (W := W0) (Q := fun v H' => v = .bl bb ∧ Q (.bl bb) H') (us := [.ref l1, .ref l2]) (vs := [.ref l1, .ref l2]) (dvs := []) co hF hr hb .nil (fun _ _ ⟨_, _, _, _, _, _, _, _, _, _, _, _, _, _, _, _, w⟩ => w.elim) I (.cons rfl (.cons rfl .nil))
            ⟨m, ah, [a, b], h1, .cons ra (.cons rb .nil), ?_⟩) (fun w s' ⟨x, H', I', rw', e1, q'⟩ => ?_) fun _ _ z => z
          · rw [q]
            refine fun m2 H2 v2 hr2 e2 r2 => ?_
            cases r2
            exact ⟨rfl, p m2 H2 _ hr2 e2 (.bl bb)⟩
          · subst e1
            cases rw'
            exact ⟨.bl bb, H', I', rfl, q'⟩
        · exact p.elim
    · exact p.elim
  · exact p.elim
end
end Mi

/-! Mi9: enumerate over a tuple -/
namespace Mi
open PySem PySem.Spec L2

/-- the tuple at a, each item in a new pair -/
def IteT (K : PySem.W.Frag) (a : Addr) : It :=
  { go := fun i H => ∃ (xs : List V) (x : V), SqT K H a xs ∧ xs[i]? = some x
    yld := fun i H v H' => ∃ T x, v = .ref T ∧ H T = none ∧ H' = upd H T (.tup [.int (i : Nat), x]) ∧ ∀ xs, SqT K H a xs → xs[i]? = some x
    stop := fun i H => ∃ xs : List V, SqT K H a xs ∧ xs.length ≤ i }
theorem SqT.uniq {X : Cx} {pins : List (Addr × Obj)} {σ : L2.St} {H : Hp} {s : Shared} {a : Addr} {xs ys : List V} (I : Inv X pins σ H s) (h : SqT X.K H a xs) (g : SqT X.K H a ys) : xs = ys := I.tuple_inj h g
theorem turn_enumT {P : Program} {w : World} {K : PySem.W.Frag} {elts : List Expr} {kk : Nat} {tpos : Pos} (a e it : Addr) :
    Turn P w K (.Tuple elts kk tpos) (IteT K a) [e, it] e (fun i h => (∃ old, IsEnum h e it ((i : Nat) : Int) old) ∧ h.IsTupleIter it a i ∧ e ≠ it) where
  mem := List.mem_cons_self
  obj := fun i h st b hb => by
    obtain ⟨⟨old, he⟩, ⟨o, ho, hc, hd⟩, _⟩ := st
    rcases List.mem_cons.mp hb with rfl | hb
    · exact ⟨_, he, fun v q => nomatch q⟩
    · obtain rfl := List.mem_singleton.mp hb
      exact ⟨o, ho, fun v q => by rw [hd] at q; cases q⟩
  keep := fun i h h' ⟨⟨old, he⟩, hi, hne⟩ k => ⟨⟨old, k e List.mem_cons_self _ he⟩, hi.at fun o q => k it (List.mem_cons_of_mem _ (List.mem_singleton.mpr rfl)) o q, hne⟩
  item := by
    rintro X rfl rfl rfl hc i pins s σ H E I hf ⟨⟨old, he⟩, hit, hne⟩ ⟨xs, x, hq, hx⟩
    obtain ⟨its, rv, p, hz⟩ := I.tuple hq
    obtain ⟨u, hu, ru⟩ := rv.get hx
    have hel : e < s.heap.objs.size := Heap.lt_size he
    have hil : it < s.heap.objs.size := by obtain ⟨_, q, _⟩ := hit; exact Heap.lt_size q
    have nae : a ≠ e := fun z => by
      obtain ⟨o, ho, hcl, _⟩ := p
      rw [z] at ho
      have := (Option.some.inj (ho.symm.trans he))
      subst this
      exact absurd (Value.type.inj hcl) (by decide)
    have nai : a ≠ it := fun z => by
      obtain ⟨o, ho, hcl, _⟩ := p
      obtain ⟨o2, ho2, hcl2, _⟩ := hit
      rw [z] at ho
      have := (Option.some.inj (ho.symm.trans ho2))
      subst this
      exact absurd (Value.type.inj (hcl.symm.trans hcl2)) (by decide)
    have hh : X.A.in1.handled = none := I.ok.hd hc
    refine wpAny_pyNext_enum_itemD (Draws.tuple hh it a nai its.toArray) he ⟨hit, p⟩ (by have := (List.getElem?_eq_some_iff.mp hu).1; simpa using this) hne
      (fun z => by rcases List.mem_cons.mp z with q | q; exact hne q; exact nae (List.mem_singleton.mp q).symm) fun y h' tk hy ho hs' hT hsz hk => ?_
    obtain ⟨hit', hpt⟩ := hs'
    have ey : y = u := by
      have e2 : its.toArray[i]? = some u := by simpa using hu
      rw [e2] at hy
      exact (Option.some.inj hy).symm
    subst ey
    refine ⟨_, rfl, wpAny_letOwnedTupleGo_enum (s := { s with heap := h', toks := tk + 1 }) ho fun h'' he' sb => ?_⟩
    have hT2 : h''.get? s.heap.objs.size = some { cls := .type "tuple", data := .seq #[.int i tk, y] } := (sb.2 _ (Nat.ne_of_gt hel)).trans hT
    have new : ObjOk X.prog X.w (upd H s.heap.objs.size (.tup [.int (i : Nat), x])) h'' s.heap.objs.size (.tup [.int (i : Nat), x]) :=
      ⟨by show 2 ≤ sizeLine; decide, [.int i tk, y], .cons ⟨_, rfl⟩ (.cons ru .nil), ⟨_, hT2, rfl, _, rfl⟩⟩
    have mem : ∀ b, b ∉ [e, it] → b ≠ e ∧ b ≠ it := fun b hb => ⟨fun z => hb (z ▸ List.mem_cons_self), fun z => hb (z ▸ List.mem_cons_of_mem _ (List.mem_singleton.mpr rfl))⟩
    have I1 : Inv X pins σ (upd H s.heap.objs.size (.tup [.int (i : Nat), x])) { s with heap := h'', toks := tk + 1 } :=
      I.turnedNew (ch := [e, it]) (fun b ob hb q => (sb.2 b (mem b hb).1).trans (hk b ob (mem b hb).1 (mem b hb).2 q)) hf (Nat.le_refl _) new
    refine ⟨.ref s.heap.objs.size, _, I1, rfl, ⟨_, x, rfl, I.hok.fresh (Nat.le_refl _), rfl, fun ys hy => by rw [SqT.uniq I hy hq]; exact hx⟩, ⟨⟨y, ?_⟩, hit'.at fun o q => (sb.2 it (Ne.symm hne)).trans q, hne⟩, fun b hb => ?_⟩
    · rw [show ((i + 1 : Nat) : Int) = (i : Int) + 1 by omega]; exact he'
    · have hb' : b < s.heap.objs.size := by
        rcases List.mem_cons.mp hb with rfl | hb
        · exact hel
        · obtain rfl := List.mem_singleton.mp hb; exact hil
      rw [upd_ne (Nat.ne_of_lt hb')]
      exact (hf b hb).1
  done := by
    rintro X rfl rfl rfl hc i pins s σ H E I hf ⟨⟨old, he⟩, hit, hne⟩ ⟨xs, hq, hx⟩
    obtain ⟨its, rv, p, hz⟩ := I.tuple hq
    obtain ⟨f0, f1, f2, f3, f4, f5⟩ := hf it (List.mem_cons_of_mem _ (List.mem_singleton.mpr rfl))
    have hl := rv.length
    have nai : a ≠ it := fun z => by
      obtain ⟨o, ho, hcl, _⟩ := p
      obtain ⟨o2, ho2, hcl2, _⟩ := hit
      rw [z] at ho
      have := (Option.some.inj (ho.symm.trans ho2))
      subst this
      exact absurd (Value.type.inj (hcl.symm.trans hcl2)) (by decide)
    have hh : X.A.in1.in1.handled = none := I.ok.hd hc
    unfold pyNext
    refine wpAny_bind (wpAny_attempt (wpAny_callSpecial?_slot (name := Str.ofString "__next__") ⟨_, he, rfl⟩ F.slot_enumerate_next
      (wpAny_call_entry F.slot_enumerate_next ⟨_, he, rfl⟩ F.entry_enumerate_next ?_ (F.args_enumerate_next_1 _))))
    show wpAny _ _ (field (.ref e) 2 >>= _) _ _ _
    refine wpAny_bind (wpAny_field he rfl (x := .ref it) rfl ?_)
    refine wpAny_bind (wpAny_nextOf_tuple_end (A := X.A.in1) hh hit p (by simp; omega) fun h' x he' hx' => ?_)
    obtain ⟨o, ho, hc'⟩ := hx'
    refine wpAny_bind (wpAny_isInstance (T := "StopIteration") (b := true) ⟨o, ho, hc'⟩ isSubtype_stop ?_)
    exact wpAny_pure ⟨rfl, I.turned (t' := s.toks) (fun b o hb q => he' b o hb q) f0 f1 f3 f4 f5⟩
  self := fun A i s Q E ⟨⟨_, he⟩, _⟩ h => wpAny_pyIter_enum he h

abbrev tupIt (t : Addr) : Obj := { cls := .type "tuple_iterator", data := .fields #[.ref t, .int 0 0] }
abbrev enRec (it : Addr) : Obj := { cls := .type "enumerate", data := .fields #[.none, .bool false, .ref it, rawInt 0, .none, .none] }
set_option maxHeartbeats 1000000 in
theorem enum_newT (t : Addr) (items : Array Value) :
    Meets (Builtin.«enumerate.__new__» ⟨[.type "enumerate", .ref t], []⟩) (fun _ R s => s.heap.IsTuple t items ∧
      R (.ok (.ret (.ref (s.heap.push (tupIt t)).objs.size))) { s with heap := (s.heap.push (tupIt t)).push (enRec s.heap.objs.size) }) :=
  .of_wp fun prog w A R s h => by
    obtain ⟨hp, g, d, tk, os⟩ := s; obtain ⟨h1, h⟩ := h
    have hsub := sub_enumerate
    have q1 : ∀ {A' : Around} {E : Value → Shared → Prop} {Q : Value → Shared → Prop}, Q (.ref hp.objs.size) ⟨hp.push (tupIt t), g, d, tk, os⟩ → wpAny (model prog w) A' (pyIter (.ref t)) Q E ⟨hp, g, d, tk, os⟩ :=
      fun q => wpAny_pyIter_tuple h1 q
    wp_walk using q1
    refine wpAny_stack_any fun st => wpAny_pure ?_
    split
    · rename_i c _ _ _ _ _
      cases (c == Value.type "enumerate") <;> (wp_walk using q1; exact ⟨_, rfl, h⟩)
    · wp_walk using q1
      exact ⟨_, rfl, h⟩
theorem call_enumT {prog : Program} {w : World} {A : Around} {E : Value → Shared → Prop} {s : Shared} {t : Addr} {items : Array Value} {Q : Value → Shared → Prop} (hL : s.heap.IsTuple t items)
    (h : ∀ h', IsEnum h' (s.heap.objs.size + 1) s.heap.objs.size 0 .none → h'.IsTupleIter s.heap.objs.size t 0 →
      (∀ b o, s.heap.get? b = some o → h'.get? b = some o) → Q (.ref (s.heap.objs.size + 1)) { s with heap := h' }) :
    wpAny (model prog w) A (call (.type "enumerate") [.ref t]) Q E s := by
  refine callType_new F.called_enumerate (by decide) (F.typeCall_enumerate_1 _) (F.newCall_enumerate_1 _) (fun obj => F.args_object_init_2 obj _) F.entry_enumerate_new (enum_newT t items) ⟨hL, ?_⟩
  have hz : (s.heap.push (tupIt t)).objs.size = s.heap.objs.size + 1 := Heap.size_push ..
  have he : ((s.heap.push (tupIt t)).push (enRec s.heap.objs.size)).get? (s.heap.objs.size + 1) = some (enRec s.heap.objs.size) := by
    rw [← hz]; exact Heap.get?_push_size _ rfl
  show _ ∧ _
  rw [hz]
  exact ⟨⟨_, he, rfl⟩, h _ he ⟨_, Heap.get?_push_of_some _ (Heap.get?_push_size _ rfl), rfl, rfl⟩ fun b o x => Heap.get?_push_of_some _ (Heap.get?_push_of_some _ x)⟩

def iEnumT (K : PySem.W.Frag) (ta : TA) : TI := fun σ H R => ta σ H fun vs H1 => ∃ a xs, vs = [.ref a] ∧ SqT K H1 a xs ∧ R (IteT K a) H1
section
variable {X : Cx} {ct : CT} {W : WX} {e : Expr} {ta : TA} {p pos tpos : Pos} {elts : List Expr} {kk : Nat} {fs : SemA}
theorem pi_enumT (hg : Gl X "enumerate") (hm : X.mg "enumerate" = none) (ha : PA X [e] ta) (hs : starEach [e] X.env = [(false, eval e X.env)] := by rfl) :
    PI X (.Tuple elts kk tpos) (.Call (.Name "enumerate" p) [e] [] pos) (iEnumT X.K ta) := by
  refine ⟨fun pins s σ H R I h => ?_⟩
  refine PyProof.Rows.Call_ (ld_blt I hg hm PyProof.Rows.boot_enumerate (PyProof.Rows.callWith_type1 (thn (ha.run pos pins s σ H _ I h) fun us s1 ⟨vs, H1, I1, r1, a, xs, ex, hq, q⟩ => ?_) hs rfl))
  subst ex
  obtain ⟨u, rfl, r⟩ := r1.one
  cases r
  obtain ⟨its, rv, p', hz⟩ := I1.tuple hq
  refine call_enumT p' fun h' he hit hk => wpAny_pyIter_enum he ?_
  refine ⟨s1.heap.objs.size + 1, [s1.heap.objs.size + 1, s1.heap.objs.size], _, _, H1, rfl, I1.kept (t' := s1.toks) hk, turn_enumT a (s1.heap.objs.size + 1) s1.heap.objs.size, ⟨⟨.none, he⟩, hit, Nat.succ_ne_self _⟩, fun b hb => ?_, q⟩
  have hle : s1.heap.objs.size ≤ b := by
    rcases List.mem_cons.mp hb with rfl | hb
    · exact Nat.le_add_right _ _
    · obtain rfl := List.mem_singleton.mp hb; exact Nat.le_refl _
  exact I1.fpOk hle (I1.hok.fresh hle)
theorem wks_enumT {K : PySem.W.Frag} {m : List Addr} {ah : Hs} {H : Hp} {a : Addr} {ds : List D} {vs : List V} (h : (Rd H a (.tup vs) ∧ Sf m ah a) ∨ TupW K a vs) (r : DRs K ct (Sf m ah) H ds vs) : Wks K ct (enumD ds) m ah H (IteT K a) := fun m2 h2 H2 hr ex => by
  have h' : SqT K H2 a vs := sqT_of (sqT_ext ex h)
  have r' := r.mono ex
  refine ⟨fun i hi => ⟨vs, h', by rw [← r.length]; rw [enumD_len] at hi; exact hi⟩, fun i d hd => ?_⟩
  rw [enumD_get] at hd
  cases q : ds[i]? with
  | none => rw [q] at hd; cases hd
  | some d0 =>
    rw [q] at hd; cases hd
    obtain ⟨y, hy, ry⟩ := r'.get q
    refine ⟨⟨vs, y, h', hy⟩, fun x H3 hx => ?_⟩
    obtain ⟨T, x1, rfl, hT, rfl, hx⟩ := hx
    have e := hx vs h'
    rw [hy] at e
    cases e
    exact pair_new hr hT (.int _) ry
def iEnT (f : SemA) : SemI := fun σ h => rb (f σ h) fun xs h1 => match xs with
  | [.d (.tup ds)] => .ok (enumD ds) h1
  | _ => .bad
theorem si_enumT (hg : Gl X "enumerate") (hm : X.mg "enumerate" = none) (ha : SA X ct W [e] fs) (hs : starEach [e] X.env = [(false, eval e X.env)] := by rfl) : SI X ct W (.Tuple elts kk tpos) (.Call (.Name "enumerate" p) [e] [] pos) (iEnT fs) :=
  PI.imp (pi_enumT hg hm ha hs) fun σV H R ⟨m, ah, σ, hr, lr, p⟩ => ⟨m, ah, σ, hr, lr, (Po.bind (R := VlRs X.K ct) p).imp fun vs H1 ⟨m1, h1, xs, hr1, e1, r1, p1⟩ => by
    dsimp only at p1
    split at p1
    · cases r1 with
      | cons r t =>
        cases t
        cases r with
        | tup h r => exact ⟨_, _, rfl, sqT_of h, p1 m1 H1 _ hr1 (Ext.refl _ _ _) (wks_enumT h r)⟩
    · exact p1.elim⟩
end
end Mi

/-! Mi10: what the printed parts lean on: names, facts, the head's own hook, the law's end -/
namespace Mi
open PySem PySem.Spec L2

/-! ### a list or a tuple is walked -/
def iSeq (f : SemE) : SemI := iOf pureSeq f
theorem si_seq {X : Cx} {ct : CT} {W : WX} {tg e : Expr} {f : SemE} (he : SE X ct W e f) : SI X ct W tg e (iSeq f) :=
  ⟨fun pins s σV H R I ⟨m, ah, σ, hr, lr, p⟩ => by
    unfold iSeq iOf at p
    cases q : f σ ah with
    | bad => rw [q] at p; exact p.elim
    | exc e h => rw [q] at p; exact (si_list he).run pins s σV H R I ⟨m, ah, σ, hr, lr, by unfold iLs iOf; rw [q]; exact p⟩
    | ok x h =>
      rw [q] at p
      cases q2 : pureLst x with
      | some ds =>
        refine (si_list he).run pins s σV H R I ⟨m, ah, σ, hr, lr, ?_⟩
        unfold iLs iOf
        rw [q]
        have e3 : pureSeq x = some ds := by
          cases x with
          | r k => cases q2
          | d d => cases d <;> first | exact q2 | cases q2
        simp only [rb_ok, e3] at p
        simp only [rb_ok, q2]
        exact p
      | none =>
        cases q3 : pureTup x with
        | some ds =>
          refine (si_tup he).run pins s σV H R I ⟨m, ah, σ, hr, lr, ?_⟩
          unfold iTu iOf
          rw [q]
          have e3 : pureSeq x = some ds := by
            cases x with
            | r k => cases q3
            | d d => cases d <;> first | exact q3 | cases q3
          simp only [rb_ok, e3] at p
          simp only [rb_ok, q3]
          exact p
        | none =>
          have e3 : pureSeq x = none := by
            cases x with
            | r k => rfl
            | d d => cases d <;> first | rfl | (cases q2; done) | (cases q3; done)
          simp only [rb_ok, e3] at p
          exact p.elim⟩

/-! ### names of attributes -/
def nmL (l : List Str) (n : Nat) : Str := match l[n]? with
  | some x => x
  | none => ⟨Array.replicate (n + 1) 0⟩
def okL (l : List Str) : Bool := decide l.Nodup && l.all fun x => x.cps[0]? != some 0
theorem nmL_new {l : List Str} {x : Str} (h1 : x ∉ l) (h2 : x.cps[0]? ≠ some 0) (n : Nat) : nmL l n ≠ x := fun e => by
  unfold nmL at e
  split at e
  · rename_i y hy
    subst e
    exact h1 (List.mem_of_getElem? hy)
  · subst e
    exact h2 (by simp)
theorem nmL_inj {l : List Str} (h : okL l = true) (a b : Nat) (e : nmL l a = nmL l b) : a = b := by
  unfold okL at h
  simp only [Bool.and_eq_true, decide_eq_true_eq, List.all_eq_true, bne_iff_ne, ne_eq] at h
  obtain ⟨nd, nz⟩ := h
  unfold nmL at e
  cases ha : l[a]? with
  | some x =>
    rw [ha] at e
    cases hb : l[b]? with
    | some y =>
      rw [hb] at e
      dsimp only at e
      subst e
      have la := (List.getElem?_eq_some_iff.mp ha).1
      exact (List.getElem?_inj la nd).mp (ha.trans hb.symm)
    | none =>
      rw [hb] at e
      dsimp only at e
      exact absurd (by rw [e]; simp) (nz x (List.mem_of_getElem? ha))
  | none =>
    rw [ha] at e
    cases hb : l[b]? with
    | some y =>
      rw [hb] at e
      dsimp only at e
      exact absurd (by rw [← e]; simp) (nz y (List.mem_of_getElem? hb))
    | none =>
      rw [hb] at e
      dsimp only at e
      have := congrArg (fun z : Str => z.cps.size) e
      simpa using this

/-! ### what is known of the written part -/
/-- the answers of isinstance with a built-in class -/
abbrev isiL (t : List String) : List (Ty × Bool) := ["NoneType", "bool", "int", "str", "tuple", "list", "dict"].map fun a => (Ty.b a, decide (a ∈ t))
theorem isi_int {K : PySem.W.Frag} {ct : CT} : IsiOk K ct (.type "int") (isiL ["int", "bool"]) := isi_any (by decide +kernel) [("NoneType", false), ("bool", true), ("int", true), ("str", false), ("tuple", false), ("list", false), ("dict", false)] (by decide +kernel)
theorem isi_bool {K : PySem.W.Frag} {ct : CT} : IsiOk K ct (.type "bool") (isiL ["bool"]) := isi_any (by decide +kernel) [("NoneType", false), ("bool", true), ("int", false), ("str", false), ("tuple", false), ("list", false), ("dict", false)] (by decide +kernel)
theorem isi_str {K : PySem.W.Frag} {ct : CT} : IsiOk K ct (.type "str") (isiL ["str"]) := isi_any (by decide +kernel) [("NoneType", false), ("bool", false), ("int", false), ("str", true), ("tuple", false), ("list", false), ("dict", false)] (by decide +kernel)
theorem isi_tuple {K : PySem.W.Frag} {ct : CT} : IsiOk K ct (.type "tuple") (isiL ["tuple"]) := isi_any (by decide +kernel) [("NoneType", false), ("bool", false), ("int", false), ("str", false), ("tuple", true), ("list", false), ("dict", false)] (by decide +kernel)
theorem isi_list {K : PySem.W.Frag} {ct : CT} : IsiOk K ct (.type "list") (isiL ["list"]) := isi_any (by decide +kernel) [("NoneType", false), ("bool", false), ("int", false), ("str", false), ("tuple", false), ("list", true), ("dict", false)] (by decide +kernel)
theorem isi_dict {K : PySem.W.Frag} {ct : CT} : IsiOk K ct (.type "dict") (isiL ["dict"]) := isi_any (by decide +kernel) [("NoneType", false), ("bool", false), ("int", false), ("str", false), ("tuple", false), ("list", false), ("dict", true)] (by decide +kernel)
/-- what a call of a def leans on -/
structure FnI (K : PySem.W.Frag) (F : Fn) : Prop where
  kp : PySem.W.keepIn K (.ref F.f) = true
  bi : Binds K F.fd F.ps []
/-- .. of the context -/
structure Cq (X : Cx) (ct : CT) (fns : List Fn) (call : CallT) (n : Nat) : Prop where
  co : CallOk X.prog X.w X.K X.mg X.base ct fns call n
  ro : Room (2 * n + 1) X.A
theorem takesW {X : Cx} : Takes X W0 := fun _ _ ⟨_, _, _, _, _, _, _, _, _, _, _, _, _, _, _, _, w⟩ => w.elim
section
variable {X : Cx} {ct : CT} {W : WX} {pos p apos : Pos} {e o : Expr} {es : List Expr} {f : SemE} {fs : SemA} {call : CallT} {n i : Nat} {F : Fn} {x : Str} {fns : List Fn}
theorem sc_call (c : Cq X ct fns call n) (tk : Takes X W) (fi : FnI X.K F) (hm : X.mg x = some (.ref F.f)) (hF : fns[i]? = some F) (hg : Gl X x) (ha : SA X ct W (e :: es) fs) (hdb : (x == ("__debug__" : Str)) = false := by decide)
    (he : starEach (e :: es) X.env = (false, eval e X.env) :: starEach es X.env := by rfl) (hpl : (backTo pos (starEach es X.env)).any (·.1) = false := by rfl) : SE X ct W (.Call (.Name x p) (e :: es) [] pos) (eCl call i [] fs) :=
  se_call c.co tk (c.ro.mono (Nat.le_succ _)) hF hg hm fi.kp fi.bi .nil Dfl.nil ha hdb he hpl
theorem sc_call0 (c : Cq X ct fns call n) (tk : Takes X W) (fi : FnI X.K F) (hm : X.mg x = some (.ref F.f)) (hF : fns[i]? = some F) (hg : Gl X x) (hdb : (x == ("__debug__" : Str)) = false := by decide) : SE X ct W (.Call (.Name x p) [] [] pos) (eCl call i [] aNil) :=
  se_call0 c.co tk (c.ro.mono (Nat.le_succ _)) hF hg hm fi.kp fi.bi .nil Dfl.nil hdb
theorem sc_make {C : Nat} (c : Cq X ct fns call n) (tk : Takes X W) (fi : FnI X.K F) (M : Mk X.K (ct.ca C) F.f) (hm : X.mg x = some (.ref (ct.ca C))) (hF : fns[i]? = some F) (hg : Gl X x) (ha : SA X ct W (e :: es) fs) (hdb : (x == ("__debug__" : Str)) = false := by decide)
    (he : starEach (e :: es) X.env = (false, eval e X.env) :: starEach es X.env := by rfl) (hpl : (backTo pos (starEach es X.env)).any (·.1) = false := by rfl) : SE X ct W (.Call (.Name x p) (e :: es) [] pos) (eMk call i C [] fs) :=
  se_make c.co tk c.ro hF M hg hm fi.bi .nil Dfl.nil ha hdb he hpl
theorem sc_own {C : Nat} (c : Cq X ct fns call n) (fi : FnI X.K F) (M : Meth X.K (ct.ca C) "__eq__" F.f) (hF : fns[i]? = some F) : OpR X (compareOp .Eq) (rOp X.K ct (oOwn call i C)) :=
  own_sound c.co (c.ro.mono (Nat.le_succ _)) hF M.at_ M.fn fi.bi
theorem unR {k : Nat} {A : Around} (r : Room k A) : A.units + 64 < cLine := by have := r.un; omega
theorem unR5 {k : Nat} {A : Around} (r : Room k A) : A.units + 65 < cLine := by have := r.un; omega
theorem un (c : Cq X ct fns call n) : X.A.units + 65 < cLine := by have := c.ro.un; omega
theorem un' (c : Cq X ct fns call n) : X.A.units + 64 < cLine := by have := c.ro.un; omega
end

/-! ### a head that tells further facts -/
open He in
def obsMG (n : Nat) (xf : PySem.W.Frag → Bool) (fa : List Fa) (fn : List DefD) (g : Addr → Option Obj) : Bool × AlD := obsM xf fa fn (frG g (asD g n))
open He in
def hookM (n : Nat) (xf : PySem.W.Frag → Bool) (fa : List Fa) (fn : List DefD) : PySem.W.Hook where
  α := Bool × AlD
  obs := fun s => obsMG n xf fa fn s.heap.get?
  val := fun _ => (true, valD fn)
  says := fun _ h => ∃ K : PySem.W.Frag, K.In h ∧ SaysM xf fa fn K
  of := fun _ _ e => ⟨_, frG_in, e⟩
  keeps := fun _ _ _ ⟨K, hK, c⟩ k => ⟨K, PySem.W.Frag.In.keeps hK k, c⟩
open He in
theorem obsMG_eq {n : Nat} {xf : PySem.W.Frag → Bool} {fa : List Fa} {fn : List DefD} {g : Addr → Option Obj} {s : Shared} (h : ∀ a, g a = s.heap.get? a) : obsMG n xf fa fn g = (hookM n xf fa fn).obs s := by
  rw [show g = s.heap.get? from funext h]; rfl
theorem SaysM.d {xf : PySem.W.Frag → Bool} {fa : List He.Fa} {fn : List He.DefD} {K : PySem.W.Frag} (c : SaysM xf fa fn K) : He.SaysD fa fn K := congrArg (fun z : Bool × He.AlD => z.2) c
theorem SaysM.x {xf : PySem.W.Frag → Bool} {fa : List He.Fa} {fn : List He.DefD} {K : PySem.W.Frag} (c : SaysM xf fa fn K) : xf K = true := congrArg (fun z : Bool × He.AlD => z.1) c
theorem isiB_ok {K : PySem.W.Frag} {C : Addr} (c : Cls K C) (h : isiB K C = true) : IsiC K C := by
  unfold isiB at h
  simp only [Bool.and_eq_true, decide_eq_true_eq] at h
  exact ⟨c, He.eqO_ok h.1, He.eqO_ok h.2.1, h.2.2.1, h.2.2.2⟩
theorem kitA_ok {K : PySem.W.Frag} {t u : Value} {b : Bool} (h : kitA K t u b = true) : PySem.W.kitOne K t u = some b := of_decide_eq_true h
/-! ### the law's end -/
/-- the script as it comes in -/
theorem scr_in {K : PySem.W.Frag} {ct : CT} {H : Hp} {a : Addr} {ns : List Int} (hO : Only H) (h : SqL K H a (ns.map V.int)) : HR K ct [] [] H ∧ DR K ct (Sf [] []) H (.scr (ns.map D.int)) (.ref a) := by
  have r : DRs K ct (Sf [] []) H (ns.map D.int) (ns.map V.int) := by
    clear h hO
    induction ns with
    | nil => exact .nil
    | cons n ns ih => exact .cons (.int n) ih
  have s : Sf [] [] a := fun ⟨k, o, e, _⟩ => by simp at e
  refine ⟨⟨rfl, fun i j a e => by simp at e, fun k a o e => by simp at e⟩, ?_⟩
  refine .scr (h.imp (fun h => ⟨?_, s⟩) id) r
  rcases h with h | h
  · rcases hO a with z | ⟨o, xs, z⟩ <;> rw [z] at h <;> cases h
  · exact h
end Mi

/-! Mi11: the end of a law -/
namespace Mi
open PySem PySem.Spec L2

theorem FnOk.still {P : Program} {w : World} {K : PySem.W.Frag} {mg : Str → Option Value} {base : Heap} {k : Nat} {f : Addr} {fd : FuncData} {ps : List Str} {sp : Sp} (F : FnOk P w K mg base (L2.CX P w) k f fd ps sp) :
    FnOk P w K mg base L2.CX0 k f fd ps (fun vs H Q _ => sp vs H Q fun _ _ _ => False) :=
  ⟨fun vs H Q E h => F.len vs H Q _ h, fun A outer s H args us vs Q E hr e0 hb r h => codeAny_mono (F.run A outer s H args us vs Q _ hr e0 hb r h) fun r s' q => by
    cases r with
    | error e => obtain ⟨_, _, _, _, _, _, _, _, _, _, _, _, z⟩ := q; exact z.elim
    | ok fl => cases fl <;> exact q⟩
theorem law_sp {K : PySem.W.Frag} {ct : CT} {defs : List MDef} {n i : Nat} (hlaw : ∀ ns : List Int, ns.length ≤ 63 → ∃ h, callF defs n i [.d (.scr (ns.map D.int))] [] = .ok (.d (.bl true)) h)
    (H : Hp) (a : Addr) (ns : List Int) (hl : ns.length ≤ 63) (hO : Only H) (hS : SqL K H a (ns.map V.int)) : spC K ct (callF defs n) i [.ref a] H (fun v _ => v = .bl true) (fun _ _ _ => False) := by
  obtain ⟨h, e⟩ := hlaw ns hl
  refine ⟨[], [], [.d (.scr (ns.map D.int))], (scr_in (ct := ct) hO hS).1, .cons (scr_in hO hS).2 .nil, ?_⟩
  rw [e]
  intro m' H' v _ _ r
  cases r
  rfl
end Mi

/-! Mi12: meanings at work: what each combinator gives where it is applied; rules for loops; == of data -/
namespace Mi
open PySem

/-- what range(j) walks -/
def rngR (xs : List Vl) (h1 : Hs) : Res (List D) := match xs with
  | [.d (.int j)] => if smI j = true then .ok (rngD 0 j.toNat) h1 else .bad
  | _ => .bad
theorem rngR_int {i : Int} {h : Hs} (h0 : 0 ≤ i) (h1 : i < 16777216) : rngR [.d (.int i)] h = .ok (rngD 0 i.toNat) h := if_pos (Nat.ble_eq_true_of_le (by omega))
theorem rngR_nat {k : Nat} {h : Hs} (h1 : k < 16777216) : rngR [.d (.int (k : Int))] h = .ok (rngD 0 k) h := by
  rw [rngR_int (by omega) (by omega), Int.toNat_natCast]
/-- tuple(range(n)) -/
def trR (x : Vl) (h1 : Hs) : Res Vl := match x with
  | .d (.int n) => if smR n = true then .ok (.d (.tup (rngD 0 n.toNat))) h1 else .bad
  | _ => .bad
theorem trR_nat {k : Nat} {h : Hs} (h1 : k < 16777216) : trR (.d (.int (k : Int))) h = .ok (.d (.tup (rngD 0 k))) h := by
  unfold trR
  dsimp only
  rw [if_pos (by unfold smR; rw [decide_eq_true (by omega : (0 : Int) ≤ (k : Int)), Bool.true_and]; exact Nat.ble_eq_true_of_le (by omega)), Int.toNat_natCast]
section
variable {σ : Lo} {h : Hs} {f g k : SemE} {t u : SemT} {fs : SemA} {p q : SemS} {call : CallT}
@[simp] theorem ap_var (i : Nat) : eVar i σ h = (match σ[i]? with
  | some (some v) => .ok v h
  | _ => .bad) := rfl
@[simp] theorem ap_k (d : D) : eK d σ h = .ok (.d d) h := rfl
@[simp] theorem ap_bin (op : Op2) : eBin op f g σ h = rb (f σ h) fun x h1 => rb (g σ h1) fun y h2 => ro (op x y h2) := rfl
@[simp] theorem ap_un (op : Op1) : eUn op f σ h = rb (f σ h) fun x h1 => ro (op x h1) := rfl
@[simp] theorem ap_chain (o o' : Op2) : eChain o o' f g k σ h = rb (f σ h) fun x h1 => rb (g σ h1) fun y h2 => rb (ro (o x y h2)) fun z h3 => match z with
  | .d (.bl b) => if b = true then rb (k σ h3) fun w h4 => ro (o' y w h4) else .ok (.d (.bl false)) h3
  | _ => .bad := rfl
@[simp] theorem ap_if : eIf t f g σ h = rb (t σ h) fun b h1 => if b = true then f σ h1 else g σ h1 := rfl
@[simp] theorem ap_an : eAn f g σ h = rb (f σ h) fun x h1 => match truO x h1 with
  | some b => if b = true then g σ h1 else .ok x h1
  | none => .bad := rfl
@[simp] theorem ap_or : eOr f g σ h = rb (f σ h) fun x h1 => match truO x h1 with
  | some b => if b = true then .ok x h1 else g σ h1
  | none => .bad := rfl
@[simp] theorem ap_no : eNo f σ h = rb (f σ h) fun x h1 => match truO x h1 with
  | some b => .ok (.d (.bl (!b))) h1
  | none => .bad := rfl
@[simp] theorem ap_tru : tTru f σ h = rb (f σ h) fun x h1 => match truO x h1 with
  | some b => .ok b h1
  | none => .bad := rfl
@[simp] theorem ap_tbl : tBl f σ h = rb (f σ h) fun x h1 => match x with
  | .d (.bl b) => .ok b h1
  | _ => .bad := rfl
@[simp] theorem ap_tan : tAn t u σ h = rb (t σ h) fun b h1 => if b = true then u σ h1 else .ok false h1 := rfl
@[simp] theorem ap_tor : tOr' t u σ h = rb (t σ h) fun b h1 => if b = true then .ok true h1 else u σ h1 := rfl
@[simp] theorem ap_tno : tNo t σ h = rb (t σ h) fun b h1 => .ok (!b) h1 := rfl
@[simp] theorem ap_tys : tYs σ h = .ok true h := rfl
@[simp] theorem ap_nil : aNil σ h = .ok [] h := rfl
@[simp] theorem ap_cons : aCons f fs σ h = rb (f σ h) fun x h1 => rb (fs σ h1) fun xs h2 => .ok (x :: xs) h2 := rfl
@[simp] theorem ap_tup : eTup fs σ h = rb (fs σ h) fun xs h1 => match toDs xs h1 with
  | some (ds, h2) => if ds.length ≤ 1000 then .ok (.d (.tup ds)) h2 else .bad
  | none => .bad := rfl
@[simp] theorem ap_lv : eLv fs σ h = rb (fs σ h) fun xs h1 => match toDs xs h1 with
  | some (ds, h2) => if ds.length ≤ 1000 then .ok (.d (.lv ds)) h2 else .bad
  | none => .bad := rfl
@[simp] theorem ap_lst : eLst fs σ h = rb (fs σ h) fun xs h1 => match toDs xs h1 with
  | some (ds, h2) => if ds.length ≤ 1000 then .ok (.r h2.length) (h2 ++ [.lst ds]) else .bad
  | none => .bad := rfl
@[simp] theorem ap_onone : oNone σ h = .ok none h := rfl
@[simp] theorem ap_osome : oSome f σ h = rb (f σ h) fun x h1 => match x with
  | .d (.int i) => .ok (some i) h1
  | _ => .bad := rfl
@[simp] theorem ap_sl (lo hi : SemO) : eSl f lo hi σ h = rb (f σ h) fun x h1 => rb (lo σ h1) fun a h2 => rb (hi σ h2) fun b h3 => ro (slO x a b h3) := rfl
@[simp] theorem ap_n (op : OpN) : eN op fs σ h = rb (fs σ h) fun xs h1 => ro (op xs h1) := rfl
@[simp] theorem ap_cl (i : Nat) (ds : List D) : eCl call i ds fs σ h = rb (fs σ h) fun xs h1 => call i (xs ++ ds.map Vl.d) h1 := rfl
@[simp] theorem ap_mk (i C : Nat) (ds : List D) : eMk call i C ds fs σ h = rb (fs σ h) fun xs h1 => mkI call i C (xs ++ ds.map Vl.d) h1 := rfl
@[simp] theorem ap_fd (ok : Nat → Bool) (n : Nat) : eFd ok n f σ h = rb (f σ h) fun x h1 => match insOf x h1 with
  | some (C, fs) => if ok C = true then (match fs.lookup n with
    | some d => .ok (.d d) h1
    | none => .bad) else .bad
  | none => .bad := rfl
@[simp] theorem ap_isi (l : List (Ty × Bool)) : eIsi l f σ h = rb (f σ h) fun x h1 => match tyD x h1 with
  | some t => (match lookT t l with
    | some b => .ok (.d (.bl b)) h1
    | none => .bad)
  | none => .bad := rfl
@[simp] theorem ap_tr : eTR f σ h = rb (f σ h) trR := congrFun (funext fun (_ : Unit) => rfl : (fun _ => eTR f σ h) = fun _ : Unit => rb (f σ h) trR) ()
@[simp] theorem ap_lc (mu : Bool) (vs : List Nat) (it : SemI) (gg : SemG) : eLc mu vs it gg t f σ h = rb (it σ h) fun ds h1 => match cmpL vs gg t f h1.length ds σ (h1 ++ [.lst []]) with
  | some h2 => lcEnd mu h1.length h2
  | none => .bad := rfl
@[simp] theorem ap_lm (op : List D → List D → Hs → Option (List D × Vl)) : eLm op f fs σ h = rb (f σ h) fun x h1 => match x with
  | .r k => (match h1[k]? with
    | some (.lst _) => rb (fs σ h1) fun ys h2 => (match h2[k]? with
      | some (.lst xs) => (match toDs ys h2 with
        | some (ds, h3) => (match h3[k]? with
          | some (.lst _) => (match op xs ds h3 with
            | some (xs', v) => .ok v (h3.set k (.lst xs'))
            | none => .bad)
          | _ => .bad)
        | none => .bad)
      | _ => .bad)
    | _ => .bad)
  | _ => .bad := rfl
@[simp] theorem ap_xt : eXt f fs σ h = rb (f σ h) fun x h1 => match x with
  | .r k => (match h1[k]? with
    | some (.lst _) => rb (fs σ h1) fun ys h2 => (match ys, h2[k]? with
      | [y], some (.lst xs) => (match pureSeq y with
        | some zs => if xs.length + zs.length ≤ sizeLine then .ok (.d .non) (h2.set k (.lst (xs ++ zs))) else .bad
        | none => .bad)
      | _, _ => .bad)
    | _ => .bad)
  | _ => .bad := rfl
@[simp] theorem ap_snil : sNil σ h = .ok .nx σ h := rfl
@[simp] theorem ap_sq : sSq p q σ h = ss (p σ h) q := rfl
@[simp] theorem ap_ex : sEx f σ h = sb (f σ h) σ fun _ h1 => .ok .nx σ h1 := rfl
@[simp] theorem ap_rt : sRt f σ h = sb (f σ h) σ fun x h1 => .ok (.ret x) σ h1 := rfl
@[simp] theorem ap_rtn : sRtN σ h = .ok (.ret (.d .non)) σ h := rfl
@[simp] theorem ap_sif : sIf t p q σ h = sb (t σ h) σ fun b h1 => if b = true then p σ h1 else q σ h1 := rfl
@[simp] theorem ap_brk : sBrk σ h = .ok .brk σ h := rfl
@[simp] theorem ap_cnt : sCnt σ h = .ok .cnt σ h := rfl
@[simp] theorem ap_sbad : sBad σ h = .bad := rfl
@[simp] theorem ap_frz (i : Nat) : sFrz i σ h = (match σ[i]? with
  | some (some x) => (match toD x h with
    | some (d, h1) => .ok .nx (σ.set i (some (.d d))) h1
    | none => .bad)
  | _ => .bad) := rfl
@[simp] theorem ap_as (gg : SemG) : sAs f gg σ h = sb (f σ h) σ fun x h1 => match gg x σ h1 with
  | some (σ', h2) => .ok .nx σ' h2
  | none => .bad := rfl
@[simp] theorem ap_au (i : Nat) (op : Op2) : sAu i op f σ h = (match σ[i]? with
  | some (some x) => sb (f σ h) σ fun y h1 => match op x y h1 with
    | some (z, h2) => .ok .nx (σ.set i (some z)) h2
    | none => .bad
  | _ => .bad) := rfl
@[simp] theorem ap_sfd (ok : Nat → Bool) (n : Nat) : sFd ok n f g σ h = sb (g σ h) σ fun y h1 => match toD y h1 with
  | none => .bad
  | some (d, h2) => sb (f σ h2) σ fun x h3 => match x with
    | .r k => (match h3[k]? with
      | some (.ins C fs) => if ok C = true ∧ fs.length < 900 then .ok .nx σ (h3.set k (.ins C (putN n d fs))) else .bad
      | _ => .bad)
    | _ => .bad := rfl
@[simp] theorem ap_for (it : SemI) (gg : SemG) : sFor it gg p σ h = sb (it σ h) σ fun ds h1 => forL gg p ds σ h1 := rfl
@[simp] theorem ap_gnm (i : Nat) (x : Vl) : gNm i x σ h = some (σ.set i (some x), h) := rfl
@[simp] theorem ap_gni : gNi [] σ h = some (σ, h) := rfl
@[simp] theorem ap_gco (gg : SemG) (gs : SemGs) (x : D) (xs : List D) : gCo gg gs (x :: xs) σ h = (gg (.d x) σ h).bind fun p => gs xs p.1 p.2 := rfl
@[simp] theorem ap_gtp (n : Nat) (gs : SemGs) (xs : List D) : gTp n gs (.d (.tup xs)) σ h = if xs.length = n then gs xs σ h else none := rfl
@[simp] theorem ap_gst (x : Vl) : gSt f g x σ h = (match toD x h with
  | none => none
  | some (d, h0) => match f σ h0 with
    | .ok (.r k) h1 => (match g σ h1 with
      | .ok (.d (.int i)) h2 => (match h2[k]? with
        | some (.lst xs) => (match L2.ixN xs.length i with
          | some j => some (σ, h2.set k (.lst (xs.set j d)))
          | none => none)
        | _ => none)
      | _ => none)
    | _ => none) := rfl
@[simp] theorem ap_ia1 : iA1 fs σ h = rb (fs σ h) rngR := congrFun (funext fun (_ : Unit) => rfl : (fun _ => iA1 fs σ h) = fun _ : Unit => rb (fs σ h) rngR) ()
@[simp] theorem ap_ia2 : iA2 fs σ h = rb (fs σ h) fun xs h1 => match xs with
  | [.d (.int i), .d (.int j)] => if smI i = true ∧ smI j = true then .ok (rngD i (j - i).toNat) h1 else .bad
  | _ => .bad := rfl
@[simp] theorem ap_iseq : iSeq f σ h = rb (f σ h) fun x h1 => match pureSeq x with
  | some xs => .ok xs h1
  | none => .bad := rfl
@[simp] theorem ap_ient : iEnT fs σ h = rb (fs σ h) fun xs h1 => match xs with
  | [.d (.tup ds)] => .ok (enumD ds) h1
  | _ => .bad := rfl
end
@[simp] theorem toD_d (d : D) (h : Hs) : toD (.d d) h = some (d, h) := rfl
@[simp] theorem toDs_nil (h : Hs) : toDs [] h = some ([], h) := rfl
@[simp] theorem toDs_d (d : D) (xs : List Vl) (h : Hs) : toDs (.d d :: xs) h = (toDs xs h).map fun q => (d :: q.1, q.2) := rfl
@[simp] theorem pureSeq_tup (xs : List D) : pureSeq (.d (.tup xs)) = some xs := rfl
@[simp] theorem pureSeq_lv (xs : List D) : pureSeq (.d (.lv xs)) = some xs := rfl
@[simp] theorem seqOf_tup (xs : List D) (h : Hs) : seqOf (.d (.tup xs)) h = some xs := rfl
@[simp] theorem seqOf_lv (xs : List D) (h : Hs) : seqOf (.d (.lv xs)) h = some xs := rfl
@[simp] theorem lstOf_lv (xs : List D) (h : Hs) : lstOf (.d (.lv xs)) h = some xs := rfl
@[simp] theorem insOf_ins (C : Nat) (fs : List (Nat × D)) (h : Hs) : insOf (.d (.ins C fs)) h = some (C, fs) := rfl
@[simp] theorem insOf_r (k : Nat) (h : Hs) : insOf (.r k) h = (match h[k]? with
  | some (.ins C fs) => some (C, fs)
  | _ => none) := rfl
@[simp] theorem insOf_tup (xs : List D) (h : Hs) : insOf (.d (.tup xs)) h = none := rfl
@[simp] theorem insOf_lv (xs : List D) (h : Hs) : insOf (.d (.lv xs)) h = none := rfl
@[simp] theorem tyD_int (i : Int) (h : Hs) : tyD (.d (.int i)) h = some (.b "int") := rfl
@[simp] theorem tyD_bl (i : Bool) (h : Hs) : tyD (.d (.bl i)) h = some (.b "bool") := rfl
@[simp] theorem tyD_tup (xs : List D) (h : Hs) : tyD (.d (.tup xs)) h = some (.b "tuple") := rfl
@[simp] theorem tyD_lv (xs : List D) (h : Hs) : tyD (.d (.lv xs)) h = some (.b "list") := rfl
@[simp] theorem tyD_non (h : Hs) : tyD (.d .non) h = some (.b "NoneType") := rfl
@[simp] theorem tyD_str (x : Str) (h : Hs) : tyD (.d (.str x)) h = some (.b "str") := rfl
@[simp] theorem tyD_ins (C : Nat) (fs : List (Nat × D)) (h : Hs) : tyD (.d (.ins C fs)) h = some (.c C) := rfl
@[simp] theorem tru_bl (b : Bool) (h : Hs) : truO (.d (.bl b)) h = some b := rfl
@[simp] theorem tru_int (i : Int) (h : Hs) : truO (.d (.int i)) h = some (i != 0) := rfl
@[simp] theorem o_add (i j : Int) (h : Hs) : oAdd (.d (.int i)) (.d (.int j)) h = some (.d (.int (i + j)), h) := rfl
@[simp] theorem o_addT (a b : List D) (h : Hs) : oAdd (.d (.tup a)) (.d (.tup b)) h = if a.length + b.length ≤ sizeLine then some (.d (.tup (a ++ b)), h) else none := rfl
@[simp] theorem o_addL (a b : List D) (h : Hs) : oAdd (.d (.lv a)) (.d (.lv b)) h = if a.length + b.length ≤ sizeLine then some (.d (.lv (a ++ b)), h) else none := rfl
@[simp] theorem o_sub (i j : Int) (h : Hs) : oSub (.d (.int i)) (.d (.int j)) h = some (.d (.int (i - j)), h) := rfl
@[simp] theorem o_mul (i j : Int) (h : Hs) : oMulI (.d (.int i)) (.d (.int j)) h = if cMulW i j then some (.d (.int (i * j)), h) else none := rfl
@[simp] theorem o_div (i j : Int) (h : Hs) : oDiv (.d (.int i)) (.d (.int j)) h = if cDivW i j then some (.d (.int (i / j)), h) else none := rfl
@[simp] theorem o_mod (i j : Int) (h : Hs) : oMod (.d (.int i)) (.d (.int j)) h = if decide (0 < j) then some (.d (.int (i % j)), h) else none := rfl
@[simp] theorem o_pow (i j : Int) (h : Hs) : oPow (.d (.int i)) (.d (.int j)) h = if cPow i j then some (.d (.int (i ^ j.toNat)), h) else none := rfl
@[simp] theorem o_neg (i : Int) (h : Hs) : oNeg (.d (.int i)) h = some (.d (.int (-i)), h) := rfl
@[simp] theorem o_iadd (i j : Int) (h : Hs) : oIAdd (.d (.int i)) (.d (.int j)) h = some (.d (.int (i + j)), h) := rfl
@[simp] theorem o_lt (i j : Int) (h : Hs) : oLt (.d (.int i)) (.d (.int j)) h = some (.d (.bl (decide (i < j))), h) := rfl
@[simp] theorem o_le (i j : Int) (h : Hs) : oLe (.d (.int i)) (.d (.int j)) h = some (.d (.bl (decide (i ≤ j))), h) := rfl
@[simp] theorem o_gt (i j : Int) (h : Hs) : oGt (.d (.int i)) (.d (.int j)) h = some (.d (.bl (decide (j < i))), h) := rfl
@[simp] theorem o_ge (i j : Int) (h : Hs) : oGe (.d (.int i)) (.d (.int j)) h = some (.d (.bl (decide (j ≤ i))), h) := rfl
@[simp] theorem o_isn (x : Vl) (h : Hs) : oIsN x (.d .non) h = some (.d (.bl (isNon x)), h) := rfl
@[simp] theorem o_notn (x : Vl) (h : Hs) : oNotN x (.d .non) h = some (.d (.bl (!isNon x)), h) := rfl
@[simp] theorem isNon_non : isNon (.d .non) = true := rfl
@[simp] theorem isNon_str (x : Str) : isNon (.d (.str x)) = false := rfl
@[simp] theorem o_ixT (xs : List D) (i : Int) (h : Hs) : oIx (.d (.tup xs)) (.d (.int i)) h = (L2.atI xs i).map fun d => (.d d, h) := rfl
@[simp] theorem o_ixL (xs : List D) (i : Int) (h : Hs) : oIx (.d (.lv xs)) (.d (.int i)) h = (L2.atI xs i).map fun d => (.d d, h) := rfl
theorem o_ixR {k : Nat} {xs : List D} {h : Hs} (e : h[k]? = some (.lst xs)) (i : Int) : oIx (.r k) (.d (.int i)) h = (L2.atI xs i).map fun d => (.d d, h) := by
  show (match seqOf (.r k) h with
    | some xs => (L2.atI xs i).map fun d => (Vl.d d, h)
    | none => none) = _
  simp only [seqOf, e]
@[simp] theorem n_lenT (xs : List D) (h : Hs) : nLen [.d (.tup xs)] h = some (.d (.int xs.length), h) := rfl
@[simp] theorem n_lenL (xs : List D) (h : Hs) : nLen [.d (.lv xs)] h = some (.d (.int xs.length), h) := rfl
@[simp] theorem n_tupT (xs : List D) (h : Hs) : nTuple [.d (.tup xs)] h = some (.d (.tup xs), h) := rfl
@[simp] theorem n_tupL (xs : List D) (h : Hs) : nTuple [.d (.lv xs)] h = some (.d (.tup xs), h) := rfl
@[simp] theorem n_lstT (xs : List D) (h : Hs) : nListV [.d (.tup xs)] h = some (.d (.lv xs), h) := rfl
@[simp] theorem n_lstL (xs : List D) (h : Hs) : nListV [.d (.lv xs)] h = some (.d (.lv xs), h) := rfl
@[simp] theorem n_lstS (xs : List D) (h : Hs) : nListV [.d (.scr xs)] h = some (.d (.lv xs), h) := rfl
theorem n_tupR {k : Nat} {xs : List D} {h : Hs} (e : h[k]? = some (.lst xs)) : nTuple [.r k] h = some (.d (.tup xs), h) := by
  show (match seqOf (.r k) h with
    | some xs => some (Vl.d (.tup xs), h)
    | none => none) = _
  simp only [seqOf, e]
@[simp] theorem n_int (i : Int) (h : Hs) : nInt [.d (.int i)] h = some (.d (.int i), h) := rfl
@[simp] theorem n_min (i j : Int) (h : Hs) : nMin2 [.d (.int i), .d (.int j)] h = some (.d (.int (if j < i then j else i)), h) := rfl
@[simp] theorem sl_tup (xs : List D) (a b : Option Int) (h : Hs) : slO (.d (.tup xs)) a b h = some (.d (.tup (cutL xs a b)), h) := rfl
@[simp] theorem lmA (xs : List D) (d : D) (h : Hs) : lmAppend xs [d] h = if xs.length < sizeLine then some (xs ++ [d], .d .non) else none := rfl

/-! ### the heap's end -/
section
variable {h l : Hs} {a b : O}
@[simp] theorem at_len : (h ++ a :: l)[h.length]? = some a := by simp
@[simp] theorem set_len : (h ++ a :: l).set h.length b = h ++ b :: l := by
  rw [List.set_append_right _ _ (Nat.le_refl _), Nat.sub_self]; rfl
@[simp] theorem take_len : (h ++ l).take h.length = h := List.take_left' rfl
@[simp] theorem take_len1 : (h ++ a :: l).take (h.length + 1) = h ++ [a] := by
  rw [show h ++ a :: l = (h ++ [a]) ++ l by simp, show h.length + 1 = (h ++ [a]).length by simp, take_len]
@[simp] theorem take_len2 : (h ++ a :: b :: l).take (h.length + 2) = h ++ [a, b] := by
  rw [show h ++ a :: b :: l = (h ++ [a]) ++ b :: l by simp, show h.length + 2 = (h ++ [a]).length + 1 by simp, take_len1]; simp
@[simp] theorem at_len1 : (h ++ a :: b :: l)[h.length + 1]? = some b := by
  rw [show h ++ a :: b :: l = (h ++ [a]) ++ b :: l by simp, show h.length + 1 = (h ++ [a]).length by simp, at_len]
@[simp] theorem set_len1 {c : O} : (h ++ a :: b :: l).set (h.length + 1) c = h ++ a :: c :: l := by
  rw [show h ++ a :: b :: l = (h ++ [a]) ++ b :: l by simp, show h.length + 1 = (h ++ [a]).length by simp, set_len]; simp
end

def clr1 (n : Nat) (o : Option Vl) : Option Vl := match o with
  | some (.r k) => if k < n then some (.r k) else none
  | o => o
@[simp] theorem clr_nil (n : Nat) : clr n [] = [] := rfl
@[simp] theorem clr_cons (n : Nat) (o : Option Vl) (σ : Lo) : clr n (o :: σ) = clr1 n o :: clr n σ := rfl
@[simp] theorem clr1_d (n : Nat) (d : D) : clr1 n (some (.d d)) = some (.d d) := rfl
@[simp] theorem clr1_n (n : Nat) : clr1 n none = none := rfl
@[simp] theorem clr1_r (n k : Nat) : clr1 n (some (.r k)) = if k < n then some (.r k) else none := rfl

/-! ### calls -/
theorem callF_at {defs : List MDef} {n i : Nat} {md : MDef} {xs : List Vl} {h : Hs} (e : defs[i]? = some md) (hl : xs.length = md.np) : callF defs (n + 1) i xs h = fin md.keep h.length (md.body (callF defs n) (startL md.ns xs) h) := by
  show (match defs[i]? with
    | none => Res.bad
    | some md => runD md (callF defs n) xs h) = _
  rw [e]
  show runD md (callF defs n) xs h = _
  unfold runD
  rw [if_pos hl]
@[simp] theorem fin_ret (n0 : Nat) (d : D) (σ : Lo) (h : Hs) : fin false n0 (.ok (.ret (.d d)) σ h) = .ok (.d d) (h.take n0) := rfl
@[simp] theorem fin_nx (n0 : Nat) (keep : Bool) (σ : Lo) (h : Hs) : fin keep n0 (.ok .nx σ h) = .ok (.d .non) (h.take n0) := rfl
theorem fin_retR {n0 k : Nat} {σ : Lo} {h : Hs} {xs : List D} (e : h[k]? = some (.lst xs)) : fin false n0 (.ok (.ret (.r k)) σ h) = .ok (.d (.lv xs)) ((h.set k .dead).take n0) := by
  show (match toD (.r k) h with
    | some (d, h') => Res.ok (Vl.d d) (h'.take n0)
    | none => Res.bad) = _
  simp only [toD, e]

/-! ### loops -/
theorem forL_ind {g : SemG} {body : SemS} {R : RS → Prop} (P : Nat → Lo → Hs → Prop) : ∀ (ds : List D) (i : Nat) (σ : Lo) (h : Hs), P i σ h →
    (∀ j d σ h, ds[j]? = some d → P (i + j) σ h → ∃ σ1 h1, g (.d d) σ h = some (σ1, h1) ∧ match body σ1 h1 with
      | .ok .nx σ2 h2 => P (i + j + 1) (clr h.length σ2) (h2.take h.length)
      | .ok .cnt σ2 h2 => P (i + j + 1) (clr h.length σ2) (h2.take h.length)
      | .ok .brk σ2 h2 => R (.ok .nx (clr h.length σ2) (h2.take h.length))
      | .ok (.ret v) σ2 h2 => R (.ok (.ret v) σ2 h2)
      | _ => False) →
    (∀ σ h, P (i + ds.length) σ h → R (.ok .nx σ h)) → R (forL g body ds σ h)
  | [], i, σ, h, p, _, done => done σ h (by simpa using p)
  | d :: ds, i, σ, h, p, step, done => by
    obtain ⟨σ1, h1, e, q⟩ := step 0 d σ h rfl p
    unfold forL
    rw [e]
    dsimp only
    have st : ∀ j d' σ h, ds[j]? = some d' → P (i + 1 + j) σ h → _ := fun j d' σ h hj p => by
      have := step (j + 1) d' σ h (by simpa using hj) (by rw [show i + (j + 1) = i + 1 + j by omega]; exact p)
      rw [show i + (j + 1) + 1 = i + 1 + j + 1 by omega] at this
      exact this
    have dn : ∀ σ h, P (i + 1 + ds.length) σ h → R (.ok .nx σ h) := fun σ h p => done σ h (by rw [List.length_cons, show i + (ds.length + 1) = i + 1 + ds.length by omega]; exact p)
    cases e2 : body σ1 h1 with
    | bad => rw [e2] at q; exact q.elim
    | exc x σ2 h2 => rw [e2] at q; exact q.elim
    | ok f σ2 h2 =>
      rw [e2] at q
      cases f with
      | nx => exact forL_ind P ds (i + 1) _ _ q st dn
      | cnt => exact forL_ind P ds (i + 1) _ _ q st dn
      | brk => exact q
      | ret v => exact q
theorem for_ind {g : SemG} {body : SemS} {R : RS → Prop} {ds : List D} {σ : Lo} {h : Hs} (P : Nat → Lo → Hs → Prop) (p : P 0 σ h)
    (step : ∀ j d σ h, ds[j]? = some d → P j σ h → ∃ σ1 h1, g (.d d) σ h = some (σ1, h1) ∧ match body σ1 h1 with
      | .ok .nx σ2 h2 => P (j + 1) (clr h.length σ2) (h2.take h.length)
      | .ok .cnt σ2 h2 => P (j + 1) (clr h.length σ2) (h2.take h.length)
      | .ok .brk σ2 h2 => R (.ok .nx (clr h.length σ2) (h2.take h.length))
      | .ok (.ret v) σ2 h2 => R (.ok (.ret v) σ2 h2)
      | _ => False)
    (done : ∀ σ h, P ds.length σ h → R (.ok .nx σ h)) : R (forL g body ds σ h) :=
  forL_ind P ds 0 σ h p (fun j d σ h hj q => by
    have := step j d σ h hj (by rw [Nat.zero_add] at q; exact q)
    rw [Nat.zero_add]; exact this) fun σ h q => done σ h (by rw [Nat.zero_add] at q; exact q)
/-- a while with an invariant and turns left -/
theorem whL_ind {t : SemT} {body : SemS} {R : RS → Prop} (P : Nat → Lo → Hs → Prop)
    (step : ∀ n σ h, P n σ h → match t σ h with
      | .ok false h1 => R (.ok .nx σ h1)
      | .ok true h1 => ∃ m, n = m + 1 ∧ match body σ h1 with
        | .ok .nx σ2 h2 => P m (clr h.length σ2) (h2.take h.length)
        | .ok .cnt σ2 h2 => P m (clr h.length σ2) (h2.take h.length)
        | .ok .brk σ2 h2 => R (.ok .nx (clr h.length σ2) (h2.take h.length))
        | .ok (.ret v) σ2 h2 => R (.ok (.ret v) σ2 h2)
        | _ => False
      | _ => False) : ∀ (n : Nat) (σ : Lo) (h : Hs), P n σ h → ∃ r, whL t body (n + 1) σ h = r ∧ r ≠ .bad ∧ R r
  | n, σ, h, p => by
    have q := step n σ h p
    unfold whL
    cases e : t σ h with
    | bad => rw [e] at q; exact q.elim
    | exc x h1 => rw [e] at q; exact q.elim
    | ok b h1 =>
      rw [e] at q
      cases b with
      | false => exact ⟨_, rfl, by simp, q⟩
      | true =>
        obtain ⟨m, rfl, q⟩ := q
        simp only [sb_ok, if_true]
        cases e2 : body σ h1 with
        | bad => rw [e2] at q; exact q.elim
        | exc x σ2 h2 => rw [e2] at q; exact q.elim
        | ok f σ2 h2 =>
          rw [e2] at q
          cases f with
          | nx => exact whL_ind P step m _ _ q
          | cnt => exact whL_ind P step m _ _ q
          | brk => exact ⟨_, rfl, by simp, q⟩
          | ret v => exact ⟨_, rfl, by simp, q⟩
theorem wh_ind {t : SemT} {body : SemS} {R : RS → Prop} (P : Nat → Lo → Hs → Prop) {n : Nat} {σ : Lo} {h : Hs} (p : P n σ h) (hn : n < 1000000000)
    (step : ∀ n σ h, P n σ h → match t σ h with
      | .ok false h1 => R (.ok .nx σ h1)
      | .ok true h1 => ∃ m, n = m + 1 ∧ match body σ h1 with
        | .ok .nx σ2 h2 => P m (clr h.length σ2) (h2.take h.length)
        | .ok .cnt σ2 h2 => P m (clr h.length σ2) (h2.take h.length)
        | .ok .brk σ2 h2 => R (.ok .nx (clr h.length σ2) (h2.take h.length))
        | .ok (.ret v) σ2 h2 => R (.ok (.ret v) σ2 h2)
        | _ => False
      | _ => False) : R (sWh t body σ h) := by
  obtain ⟨r, e, hb, q⟩ := whL_ind P step n σ h p
  have hm : n + 1 ≤ most := Nat.le_trans (by omega : n + 1 ≤ 1000000000) (by unfold most; decide)
  rw [sWh_of e hb hm]
  exact q
theorem cmpL_ind {vs : List Nat} {g : SemG} {t : SemT} {f : SemE} {n0 : Nat} {σ : Lo} {R : Hs → Prop} (P : Nat → Hs → Prop) : ∀ (ds : List D) (i : Nat) (h : Hs), P i h →
    (∀ j d h, ds[j]? = some d → P (i + j) h → ∃ σ1 h1 b h2, g (.d d) (wipeL σ vs) h = some (σ1, h1) ∧ t σ1 h1 = .ok b h2 ∧ if b = true then ∃ y h3 h4, f σ1 h2 = .ok y h3 ∧ cmpAdd n0 y h3 = some h4 ∧ P (i + j + 1) h4 else P (i + j + 1) (h2.take (n0 + 1))) →
    (∀ h, P (i + ds.length) h → R h) → ∃ h', cmpL vs g t f n0 ds σ h = some h' ∧ R h'
  | [], i, h, p, _, done => ⟨h, rfl, done h (by simpa using p)⟩
  | d :: ds, i, h, p, step, done => by
    obtain ⟨σ1, h1, b, h2, e1, e2, q⟩ := step 0 d h rfl p
    have st : ∀ j d' h, ds[j]? = some d' → P (i + 1 + j) h → _ := fun j d' h hj p => by
      have := step (j + 1) d' h (by simpa using hj) (by rw [show i + (j + 1) = i + 1 + j by omega]; exact p)
      rw [show i + (j + 1) + 1 = i + 1 + j + 1 by omega] at this
      exact this
    have dn : ∀ h, P (i + 1 + ds.length) h → R h := fun h p => done h (by rw [List.length_cons, show i + (ds.length + 1) = i + 1 + ds.length by omega]; exact p)
    unfold cmpL
    rw [e1]
    dsimp only
    rw [e2]
    dsimp only
    cases b with
    | true =>
      rw [if_pos rfl] at q ⊢
      obtain ⟨y, h3, h4, e3, e4, q⟩ := q
      rw [e3]
      dsimp only
      rw [e4]
      exact cmpL_ind P ds (i + 1) h4 q st dn
    | false =>
      rw [if_neg Bool.false_ne_true] at q ⊢
      exact cmpL_ind P ds (i + 1) _ q st dn
/-- one more in the list that is made -/
theorem cmpAdd_d {h : Hs} {acc : List D} {d : D} (hz : acc.length < sizeLine) : cmpAdd h.length (.d d) (h ++ [.lst acc]) = some (h ++ [.lst (acc ++ [d])]) := by
  unfold cmpAdd
  simp only [toD_d, at_len, if_pos hz, set_len]
  rw [List.take_of_length_le (by simp)]
/-- a comprehension of values that change nothing -/
theorem cmpL_map {vs : List Nat} {g : SemG} {t : SemT} {f : SemE} {σ : Lo} {h : Hs} {ds : List D} {keep : D → Bool} {k : D → D} (hz : ds.length < sizeLine)
    (step : ∀ d h', d ∈ ds → ∃ σ1, g (.d d) (wipeL σ vs) h' = some (σ1, h') ∧ t σ1 h' = .ok (keep d) h' ∧ (keep d = true → f σ1 h' = .ok (.d (k d)) h')) :
    cmpL vs g t f h.length ds σ (h ++ [.lst []]) = some (h ++ [.lst ((ds.filter keep).map k)]) := by
  have key : ∃ h', cmpL vs g t f h.length ds σ (h ++ [.lst []]) = some h' ∧ h' = h ++ [.lst ((ds.filter keep).map k)] := by
    refine cmpL_ind (fun i h' => h' = h ++ [.lst (((ds.take i).filter keep).map k)]) ds 0 _ (by simp) (fun j d h' hj p => ?_) (fun h' p => by rw [p, Nat.zero_add, List.take_length])
    rw [Nat.zero_add] at p ⊢
    subst p
    obtain ⟨σ1, e1, e2, e3⟩ := step d (h ++ [.lst (((ds.take j).filter keep).map k)]) (List.mem_of_getElem? hj)
    have ej : ds.take (j + 1) = ds.take j ++ [d] := by
      rw [List.take_add_one, hj]; rfl
    refine ⟨σ1, _, keep d, _, e1, e2, ?_⟩
    cases q : keep d with
    | true =>
      rw [if_pos rfl]
      refine ⟨_, _, _, e3 q, cmpAdd_d ?_, ?_⟩
      · rw [List.length_map]
        refine Nat.lt_of_le_of_lt (List.length_filter_le _ _) (Nat.lt_of_le_of_lt ?_ hz)
        rw [List.length_take]; omega
      · rw [ej, List.filter_append, List.map_append, List.filter_cons, if_pos q]; rfl
    | false =>
      rw [if_neg Bool.false_ne_true, ej, List.filter_append, List.filter_cons, if_neg (by simp [q])]
      rw [List.take_of_length_le (by simp)]
      simp
  obtain ⟨h', e, rfl⟩ := key
  exact e

/-! ### == of data -/
def fl0 : D → Prop
  | .non => True
  | .bl _ => True
  | .int _ => True
  | .str x => PyData.strOk x = true
  | _ => False
/-- data of depth n at most -/
def Sm : Nat → D → Prop
  | 0, d => fl0 d
  | n + 1, .tup xs => ∀ x ∈ xs, Sm n x
  | n + 1, .lv xs => ∀ x ∈ xs, Sm n x
  | _ + 1, d => fl0 d
theorem all_lay : ∀ {xs : List D}, (∀ x ∈ xs, x.pd.canLay0 = true) → PyData.canLayAll0 (D.pds xs) = true
  | [], _ => rfl
  | x :: xs, h => by
    rw [D.pds, PyData.canLayAll0, h x List.mem_cons_self, all_lay fun y hy => h y (List.mem_cons_of_mem _ hy)]; rfl
theorem all_dep {n : Nat} : ∀ {xs : List D}, (∀ x ∈ xs, x.pd.depth ≤ n) → PyData.depthAll (D.pds xs) ≤ n
  | [], _ => Nat.zero_le _
  | x :: xs, h => by
    rw [D.pds, PyData.depthAll]
    exact Nat.max_le.mpr ⟨h x List.mem_cons_self, all_dep fun y hy => h y (List.mem_cons_of_mem _ hy)⟩
theorem all_eqv : ∀ {xs : List D}, (∀ x ∈ xs, PyData.eqv x.pd x.pd = true) → PyData.eqvAll (D.pds xs) (D.pds xs) = true
  | [], _ => rfl
  | x :: xs, h => by
    rw [D.pds, PyData.eqvAll, h x List.mem_cons_self, all_eqv fun y hy => h y (List.mem_cons_of_mem _ hy)]; rfl
theorem fl0_ok {d : D} (h : fl0 d) : d.pd.canLay0 = true ∧ d.pd.depth = 0 ∧ PyData.eqv d.pd d.pd = true := by
  cases d with
  | non => exact ⟨by simp [D.pd, PyData.canLay0], by simp [D.pd, PyData.depth], by simp [D.pd, PyData.eqv]⟩
  | bl b => exact ⟨by simp [D.pd, PyData.canLay0], by simp [D.pd, PyData.depth], by simp [D.pd, PyData.eqv]⟩
  | int i => exact ⟨by simp [D.pd, PyData.canLay0], by simp [D.pd, PyData.depth], by simp [D.pd, PyData.eqv]⟩
  | str x => exact ⟨by simp only [D.pd, PyData.canLay0]; exact h, by simp [D.pd, PyData.depth], by simp [D.pd, PyData.eqv]⟩
  | _ => exact h.elim
theorem Sm.ok : ∀ {n : Nat} {d : D}, Sm n d → d.pd.canLay0 = true ∧ d.pd.depth ≤ n ∧ PyData.eqv d.pd d.pd = true
  | 0, d, h => let ⟨a, b, c⟩ := fl0_ok h; ⟨a, Nat.le_of_eq b, c⟩
  | n + 1, .tup xs, h => by
    simp only [D.pd, PyData.canLay0, PyData.depth, PyData.eqv]
    exact ⟨all_lay fun x hx => (Sm.ok (h x hx)).1, Nat.succ_le_succ (all_dep fun x hx => (Sm.ok (h x hx)).2.1), all_eqv fun x hx => (Sm.ok (h x hx)).2.2⟩
  | n + 1, .lv xs, h => by
    simp only [D.pd, PyData.canLay0, PyData.depth, PyData.eqv]
    exact ⟨all_lay fun x hx => (Sm.ok (h x hx)).1, Nat.succ_le_succ (all_dep fun x hx => (Sm.ok (h x hx)).2.1), all_eqv fun x hx => (Sm.ok (h x hx)).2.2⟩
  | n + 1, .non, h => let ⟨a, b, c⟩ := fl0_ok (d := .non) h; ⟨a, by omega, c⟩
  | n + 1, .bl i, h => let ⟨a, b, c⟩ := fl0_ok (d := .bl i) h; ⟨a, by omega, c⟩
  | n + 1, .int i, h => let ⟨a, b, c⟩ := fl0_ok (d := .int i) h; ⟨a, by omega, c⟩
  | n + 1, .str i, h => let ⟨a, b, c⟩ := fl0_ok (d := .str i) h; ⟨a, by omega, c⟩
  | n + 1, .scr i, h => h.elim
  | n + 1, .dk i, h => h.elim
  | n + 1, .dt i, h => h.elim
  | n + 1, .ins C i, h => h.elim
theorem Sm.shp {n : Nat} {d : D} (h : Sm n d) (hn : n ≤ 64) : shp d = true := by
  unfold Mi.shp SeqAt.shaped
  rw [h.ok.1, decide_eq_true (Nat.le_trans h.ok.2.1 hn)]; rfl
theorem o_eqS {n m : Nat} {a b : D} {h : Hs} (ha : Sm n a) (hb : Sm m b) (hn : n ≤ 64) (hm : m ≤ 64) : oEq (.d a) (.d b) h = some (.d (.bl (PyData.eqv a.pd b.pd)), h) := by
  show (deq a b).map _ = _
  unfold deq
  rw [ha.shp hn, hb.shp hm]; rfl
theorem o_neS {n m : Nat} {a b : D} {h : Hs} (ha : Sm n a) (hb : Sm m b) (hn : n ≤ 64) (hm : m ≤ 64) : oNe (.d a) (.d b) h = some (.d (.bl (!PyData.eqv a.pd b.pd)), h) := by
  show (deq a b).map _ = _
  unfold deq
  rw [ha.shp hn, hb.shp hm]; rfl
theorem o_eqR {n : Nat} {a : D} {h : Hs} (ha : Sm n a) (hn : n ≤ 64) : oEq (.d a) (.d a) h = some (.d (.bl true), h) := by rw [o_eqS ha ha hn hn, ha.ok.2.2]
theorem o_neR {n : Nat} {a : D} {h : Hs} (ha : Sm n a) (hn : n ≤ 64) : oNe (.d a) (.d a) h = some (.d (.bl false), h) := by rw [o_neS ha ha hn hn, ha.ok.2.2]; rfl
@[simp] theorem o_eqI (i j : Int) (h : Hs) : oEq (.d (.int i)) (.d (.int j)) h = some (.d (.bl (decide (i = j))), h) := by
  rw [o_eqS (a := .int i) (b := .int j) (n := 0) (m := 0) trivial trivial (by omega) (by omega)]
  simp only [D.pd, PyData.eqv]
  rfl
@[simp] theorem o_neI (i j : Int) (h : Hs) : oNe (.d (.int i)) (.d (.int j)) h = some (.d (.bl (!decide (i = j))), h) := by
  rw [o_neS (a := .int i) (b := .int j) (n := 0) (m := 0) trivial trivial (by omega) (by omega)]
  simp only [D.pd, PyData.eqv]
  rfl
def iT (xs : List Int) : D := .tup (xs.map D.int)
theorem sm_iT (xs : List Int) : Sm 1 (iT xs) := fun x hx => by
  obtain ⟨i, _, rfl⟩ := List.mem_map.mp hx
  exact trivial
theorem eqv_iT : ∀ xs ys : List Int, PyData.eqvAll (D.pds (xs.map D.int)) (D.pds (ys.map D.int)) = decide (xs = ys)
  | [], [] => by simp [D.pds, PyData.eqvAll]
  | [], _ :: _ => by simp [D.pds, PyData.eqvAll]
  | _ :: _, [] => by simp [D.pds, PyData.eqvAll]
  | x :: xs, y :: ys => by
    have := eqv_iT xs ys
    rw [List.map_cons, List.map_cons, D.pds, D.pds, PyData.eqvAll, this]
    simp only [D.pd, PyData.eqv]
    by_cases e : x = y <;> simp [e]
theorem o_eqT (xs ys : List Int) (h : Hs) : oEq (.d (iT xs)) (.d (iT ys)) h = some (.d (.bl (decide (xs = ys))), h) := by
  rw [o_eqS (sm_iT xs) (sm_iT ys) (by omega) (by omega)]
  simp only [iT, D.pd, PyData.eqv, eqv_iT]
theorem o_neT (xs ys : List Int) (h : Hs) : oNe (.d (iT xs)) (.d (iT ys)) h = some (.d (.bl (!decide (xs = ys))), h) := by
  rw [o_neS (sm_iT xs) (sm_iT ys) (by omega) (by omega)]
  simp only [iT, D.pd, PyData.eqv, eqv_iT]
end Mi

/-! Mi13: == and != at any depth, own __eq__ within -/
namespace GB
open PySem PySem.SeqAt GQ
open AutoSeq1 (wpAny_loadPart')
open MeetsSeq MeetsSeq2 MeetsSeq3 SeqRoads2
section
variable {prog : Program} {w : World} {A : Around} {R : Result → Shared → Prop} {l b : Addr} {N M : Nat} {bs : Nat → Bool} {J : Shared → Prop}
/-- what is known of two lists that are compared, item by item, up to the first unlike pair -/
def Both (prog : Program) (w : World) (A : Around) (E : Value → Shared → Prop) (l b : Addr) (N : Nat) (bs : Nat → Bool) (J : Shared → Prop) : Prop :=
  ∀ s, J s → ∃ (p q : Array Value) (n k : Nat), s.heap.get? l = some { cls := .type "list", data := .seq p n } ∧ s.heap.get? b = some { cls := .type "list", data := .seq q k } ∧ p.size = N ∧ q.size = N ∧
    ∀ i (h1 : i < p.size) (h2 : i < q.size), (∀ j, j < i → bs j = true) → wpAny (model prog w) A.in1 (eqBool p[i] q[i]) (fun r s' => r = bs i ∧ J s') E s
theorem all_true (h : ∀ j, j < N → bs j = true) : (List.range N).all bs = true := List.all_eq_true.mpr fun x hx => h x (List.mem_range.mp hx)
theorem all_false {i : Nat} (hi : i < N) (h : bs i = false) : (List.range N).all bs = false := by
  rw [Bool.eq_false_iff]
  intro z
  rw [List.all_eq_true.mp z i (List.mem_range.mpr hi)] at h
  cases h
theorem lst_eqLoop (hl : Both prog w A (fun e s' => R (.error e) s') l b N bs J) (fin : ∀ s, J s → R (.ok (.ret (.bool ((List.range N).all bs)))) s) : ∀ (k i : Nat), N - i = k → i ≤ N → (∀ j, j < i → bs j = true) → ∀ s, J s →
    wpAny (model prog w) A.in1 (Builtin.«list.__eq__.loop» ⟨[.ref l, .ref b, rawInt i, rawInt 2], []⟩) (FinOf prog w A R) (fun e s' => R (.error e) s') s
  | 0, i, hk, hi, ht, s, h => by
    obtain ⟨p, q, n, n2, g1, g2, z1, z2, _⟩ := hl _ h
    have ei : i = N := by omega
    subst ei
    have hR := fin s h
    rw [all_true ht] at hR
    obtain ⟨h0, gs, dd, tk, oss⟩ := s
    wp_walk using wpAny_loadPart' g1, wpAny_loadPart' g2
    have e1 : p[((i : Nat) : Int).toNat]? = none := by simp <;> omega
    have e2 : q[((i : Nat) : Int).toNat]? = none := by simp <;> omega
    rw [e1, e2]
    wp_walk using wpAny_loadPart' g1, wpAny_loadPart' g2
    show R (.ok (.ret (.bool (p.size == q.size)))) _
    rw [z1, z2, beq_self_eq_true]
    exact hR
  | k + 1, i, hk, hi, ht, s, h => by
    obtain ⟨p, q, n, n2, g1, g2, z1, z2, turn⟩ := hl _ h
    have h1 : i < p.size := by omega
    have h2 : i < q.size := by omega
    have tt := turn i h1 h2 ht
    obtain ⟨h0, gs, dd, tk, oss⟩ := s
    wp_walk using wpAny_loadPart' g1, wpAny_loadPart' g2
    have e1 : p[((i : Nat) : Int).toNat]? = some p[i] := by simp [h1]
    have e2 : q[((i : Nat) : Int).toNat]? = some q[i] := by simp [h2]
    have ec : ((i : Int) + 1) = ((i + 1 : Nat) : Int) := by omega
    rw [e1, e2]
    refine wpAny_bind (wpAny_mono tt (fun r s2 q2 => ?_) fun _ _ x => x)
    obtain ⟨rfl, q2⟩ := q2
    cases hb : bs i with
    | true =>
      have hrec := lst_eqLoop hl fin k (i + 1) (by omega) (by omega) (fun j hj => by
        rcases Nat.lt_succ_iff_lt_or_eq.mp hj with hj | rfl
        · exact ht j hj
        · exact hb) s2 q2
      obtain ⟨hp2, gs2, d2, tk2, os2⟩ := s2
      wp_walk
      rw [ec]
      exact ⟨plainId_quiet plain_eq_loop _, codeAny_builtin entry_eq_loop (by rw [Around.under_plainId plain_eq_loop _]; exact hrec)⟩
    | false =>
      have hR := fin s2 q2
      rw [all_false (by omega) hb] at hR
      obtain ⟨p', q', n', n2', g1', g2', z1', z2', _⟩ := hl _ q2
      obtain ⟨hp2, gs2, d2, tk2, os2⟩ := s2
      have f1 : p'[((i : Nat) : Int).toNat]? = some (p'[i]'(by omega)) := by simp <;> omega
      have f2 : q'[((i : Nat) : Int).toNat]? = some (q'[i]'(by omega)) := by simp <;> omega
      wp_walk using wpAny_loadPart' g1', wpAny_loadPart' g2'
      rw [f1, f2]
      wp_walk
      simpa using hR
theorem lst_neLoop (hl : Both prog w A (fun e s' => R (.error e) s') l b N bs J) (fin : ∀ s, J s → R (.ok (.ret (.bool (!(List.range N).all bs)))) s) : ∀ (k i : Nat), N - i = k → i ≤ N → (∀ j, j < i → bs j = true) → ∀ s, J s →
    wpAny (model prog w) A.in1 (Builtin.«list.__eq__.loop» ⟨[.ref l, .ref b, rawInt i, rawInt 3], []⟩) (FinOf prog w A R) (fun e s' => R (.error e) s') s
  | 0, i, hk, hi, ht, s, h => by
    obtain ⟨p, q, n, n2, g1, g2, z1, z2, _⟩ := hl _ h
    have ei : i = N := by omega
    subst ei
    have hR := fin s h
    rw [all_true ht] at hR
    obtain ⟨h0, gs, dd, tk, oss⟩ := s
    wp_walk using wpAny_loadPart' g1, wpAny_loadPart' g2
    have e1 : p[((i : Nat) : Int).toNat]? = none := by simp <;> omega
    have e2 : q[((i : Nat) : Int).toNat]? = none := by simp <;> omega
    rw [e1, e2]
    wp_walk using wpAny_loadPart' g1, wpAny_loadPart' g2
    show R (.ok (.ret (.bool (p.size != q.size)))) _
    rw [z1, z2, bne_self_eq_false]
    exact hR
  | k + 1, i, hk, hi, ht, s, h => by
    obtain ⟨p, q, n, n2, g1, g2, z1, z2, turn⟩ := hl _ h
    have h1 : i < p.size := by omega
    have h2 : i < q.size := by omega
    have tt := turn i h1 h2 ht
    obtain ⟨h0, gs, dd, tk, oss⟩ := s
    wp_walk using wpAny_loadPart' g1, wpAny_loadPart' g2
    have e1 : p[((i : Nat) : Int).toNat]? = some p[i] := by simp [h1]
    have e2 : q[((i : Nat) : Int).toNat]? = some q[i] := by simp [h2]
    have ec : ((i : Int) + 1) = ((i + 1 : Nat) : Int) := by omega
    rw [e1, e2]
    refine wpAny_bind (wpAny_mono tt (fun r s2 q2 => ?_) fun _ _ x => x)
    obtain ⟨rfl, q2⟩ := q2
    cases hb : bs i with
    | true =>
      have hrec := lst_neLoop hl fin k (i + 1) (by omega) (by omega) (fun j hj => by
        rcases Nat.lt_succ_iff_lt_or_eq.mp hj with hj | rfl
        · exact ht j hj
        · exact hb) s2 q2
      obtain ⟨hp2, gs2, d2, tk2, os2⟩ := s2
      wp_walk
      rw [ec]
      exact ⟨plainId_quiet plain_eq_loop _, codeAny_builtin entry_eq_loop (by rw [Around.under_plainId plain_eq_loop _]; exact hrec)⟩
    | false =>
      have hR := fin s2 q2
      rw [all_false (by omega) hb] at hR
      obtain ⟨p', q', n', n2', g1', g2', z1', z2', _⟩ := hl _ q2
      obtain ⟨hp2, gs2, d2, tk2, os2⟩ := s2
      have f1 : p'[((i : Nat) : Int).toNat]? = some (p'[i]'(by omega)) := by simp <;> omega
      have f2 : q'[((i : Nat) : Int).toNat]? = some (q'[i]'(by omega)) := by simp <;> omega
      wp_walk using wpAny_loadPart' g1', wpAny_loadPart' g2'
      rw [f1, f2]
      wp_walk
      simpa using hR
theorem lst_eqB (hl : Both prog w A (fun e s' => R (.error e) s') l b N bs J) (fin : ∀ s, J s → R (.ok (.ret (.bool ((List.range N).all bs)))) s) {s : Shared} (h : J s) :
    wpAny (model prog w) A.in1 (Builtin.«list.__eq__» ⟨[.ref l, .ref b], []⟩) (FinOf prog w A R) (fun e s' => R (.error e) s') s := by
  obtain ⟨p, q, n, n2, g1, g2, z1, z2, _⟩ := hl _ h
  have hrec := lst_eqLoop (A := A) (R := R) hl fin _ 0 rfl (Nat.zero_le _) (fun j hj => absurd hj (Nat.not_lt_zero _)) s h
  obtain ⟨h0, gs, dd, tk, oss⟩ := s
  have f3 := AutoSeq1.sub_list_list
  have ne : ¬ (p.size != q.size) = true := by simp [z1, z2]
  wp_walk using wpAny_loadPart' g1, wpAny_loadPart' g2
  exact ⟨plainId_quiet plain_eq_loop _, codeAny_builtin entry_eq_loop (by rw [Around.under_plainId plain_eq_loop _]; exact hrec)⟩
theorem lst_neB (hl : Both prog w A (fun e s' => R (.error e) s') l b N bs J) (fin : ∀ s, J s → R (.ok (.ret (.bool (!(List.range N).all bs)))) s) {s : Shared} (h : J s) :
    wpAny (model prog w) A.in1 (Builtin.«list.__ne__» ⟨[.ref l, .ref b], []⟩) (FinOf prog w A R) (fun e s' => R (.error e) s') s := by
  obtain ⟨p, q, n, n2, g1, g2, z1, z2, _⟩ := hl _ h
  have hrec := lst_neLoop (A := A) (R := R) hl fin _ 0 rfl (Nat.zero_le _) (fun j hj => absurd hj (Nat.not_lt_zero _)) s h
  obtain ⟨h0, gs, dd, tk, oss⟩ := s
  have f3 := AutoSeq1.sub_list_list
  have ne : ¬ (p.size != q.size) = true := by simp [z1, z2]
  wp_walk using wpAny_loadPart' g1, wpAny_loadPart' g2
  exact ⟨plainId_quiet plain_eq_loop _, codeAny_builtin entry_eq_loop (by rw [Around.under_plainId plain_eq_loop _]; exact hrec)⟩
end
section
variable {prog : Program} {w : World} {A : Around} {R : Result → Shared → Prop} {l b : Addr} {bs : Nat → Bool} {J : Shared → Prop}
theorem tup_eqB (p q : Array Value) (n n2 : Nat) (dd dd2 : Option Addr) (sl sl2 : Array (Option Value))
    (turn : ∀ i (h1 : i < p.size) (h2 : i < q.size), (∀ j, j < i → bs j = true) → ∀ s, J s → wpAny (model prog w) A.in1 (eqBool p[i] q[i]) (fun r s' => r = bs i ∧ J s') (fun e s' => R (.error e) s') s)
    (fin : ∀ s, J s → R (.ok (.ret (.bool ((List.range (min p.size q.size)).all bs && p.size == q.size)))) s) {s : Shared} (g1 : s.heap.get? l = some { cls := .type "tuple", dict := dd, data := .seq p n, slots := sl })
    (g2 : s.heap.get? b = some { cls := .type "tuple", dict := dd2, data := .seq q n2, slots := sl2 }) (h : J s) :
    wpAny (model prog w) A.in1 (Builtin.«tuple.__eq__» ⟨[.ref l, .ref b], []⟩) (FinOf prog w A R) (fun e s' => R (.error e) s') s := by
  have f2 := AutoSeq1.sub_tuple_tuple
  have hZ : (p.toList.zip q.toList).length = min p.size q.size := by simp
  have hJ := h
  obtain ⟨h0, gs, dr, tk, oss⟩ := s
  wp_walk using wpAny_loadPart' g1, wpAny_loadPart' g2, wpAny_forIn_list _ (fun rest c s' => c.1 = none ∧ ∃ i, rest = (p.toList.zip q.toList).drop i ∧ i ≤ min p.size q.size ∧ (∀ j, j < i → bs j = true) ∧ J s') _
  case turn =>
    rintro ⟨y, x⟩ rest c s' ⟨hc, i, hz, hi, ht, hI⟩
    have hlt : i < (p.toList.zip q.toList).length := (Nat.lt_or_ge i _).resolve_right fun z => by rw [List.drop_of_length_le z] at hz; cases hz
    have hm : i < min p.size q.size := hZ ▸ hlt
    have h1 : i < p.size := by omega
    have h2 : i < q.size := by omega
    rw [List.drop_eq_getElem_cons hlt] at hz
    injection hz with e1 e2
    have hy : y = p[i] := by simpa using congrArg Prod.fst e1
    have hx : x = q[i] := by simpa using congrArg Prod.snd e1
    subst hy hx
    refine wpAny_bind (wpAny_mono (turn i h1 h2 ht s' hI) (fun r s2 q2 => ?_) fun _ _ x => x)
    obtain ⟨rfl, q2⟩ := q2
    cases hb : bs i with
    | true =>
      wp_walk
      refine ⟨rfl, i + 1, e2, hm, fun j hj => ?_, q2⟩
      rcases Nat.lt_succ_iff_lt_or_eq.mp hj with hj | rfl
      · exact ht j hj
      · exact hb
    | false =>
      have hR := fin s2 q2
      rw [all_false hm hb, Bool.false_and] at hR
      wp_walk
      simpa using hR
  case fin =>
    rintro ⟨c1, c2⟩ s' ⟨hc, i, hz, hi, ht, hI⟩
    simp only at hc
    subst hc
    have hge : min p.size q.size ≤ i := (Nat.lt_or_ge i (p.toList.zip q.toList).length).elim (fun z => by rw [List.drop_eq_getElem_cons z] at hz; cases hz) fun z => hZ ▸ z
    have ei : i = min p.size q.size := by omega
    subst ei
    have hR := fin s' hI
    rw [all_true ht, Bool.true_and] at hR
    wp_walk
    simpa [Builtin.Tuple.tupleCompareSizes, bne] using hR
  case h => exact ⟨rfl, 0, rfl, Nat.zero_le _, fun j hj => absurd hj (Nat.not_lt_zero _), hJ⟩
end
section
variable {prog : Program} {w : World} {A : Around} {R : Result → Shared → Prop} {l b : Addr} {bs : Nat → Bool} {J : Shared → Prop}
theorem tup_neB (p q : Array Value) (n n2 : Nat) (dd dd2 : Option Addr) (sl sl2 : Array (Option Value))
    (turn : ∀ i (h1 : i < p.size) (h2 : i < q.size), (∀ j, j < i → bs j = true) → ∀ s, J s → wpAny (model prog w) A.in1 (eqBool p[i] q[i]) (fun r s' => r = bs i ∧ J s') (fun e s' => R (.error e) s') s)
    (fin : ∀ s, J s → R (.ok (.ret (.bool !((List.range (min p.size q.size)).all bs && p.size == q.size)))) s) {s : Shared} (g1 : s.heap.get? l = some { cls := .type "tuple", dict := dd, data := .seq p n, slots := sl })
    (g2 : s.heap.get? b = some { cls := .type "tuple", dict := dd2, data := .seq q n2, slots := sl2 }) (h : J s) :
    wpAny (model prog w) A.in1 (Builtin.«tuple.__ne__» ⟨[.ref l, .ref b], []⟩) (FinOf prog w A R) (fun e s' => R (.error e) s') s := by
  have f2 := AutoSeq1.sub_tuple_tuple
  have hZ : (p.toList.zip q.toList).length = min p.size q.size := by simp
  have hJ := h
  obtain ⟨h0, gs, dr, tk, oss⟩ := s
  wp_walk using wpAny_loadPart' g1, wpAny_loadPart' g2, wpAny_forIn_list _ (fun rest c s' => c.1 = none ∧ ∃ i, rest = (p.toList.zip q.toList).drop i ∧ i ≤ min p.size q.size ∧ (∀ j, j < i → bs j = true) ∧ J s') _
  case turn =>
    rintro ⟨y, x⟩ rest c s' ⟨hc, i, hz, hi, ht, hI⟩
    have hlt : i < (p.toList.zip q.toList).length := (Nat.lt_or_ge i _).resolve_right fun z => by rw [List.drop_of_length_le z] at hz; cases hz
    have hm : i < min p.size q.size := hZ ▸ hlt
    have h1 : i < p.size := by omega
    have h2 : i < q.size := by omega
    rw [List.drop_eq_getElem_cons hlt] at hz
    injection hz with e1 e2
    have hy : y = p[i] := by simpa using congrArg Prod.fst e1
    have hx : x = q[i] := by simpa using congrArg Prod.snd e1
    subst hy hx
    refine wpAny_bind (wpAny_mono (turn i h1 h2 ht s' hI) (fun r s2 q2 => ?_) fun _ _ x => x)
    obtain ⟨rfl, q2⟩ := q2
    cases hb : bs i with
    | true =>
      wp_walk
      refine ⟨rfl, i + 1, e2, hm, fun j hj => ?_, q2⟩
      rcases Nat.lt_succ_iff_lt_or_eq.mp hj with hj | rfl
      · exact ht j hj
      · exact hb
    | false =>
      have hR := fin s2 q2
      rw [all_false hm hb, Bool.false_and] at hR
      wp_walk
      simpa using hR
  case fin =>
    rintro ⟨c1, c2⟩ s' ⟨hc, i, hz, hi, ht, hI⟩
    simp only at hc
    subst hc
    have hge : min p.size q.size ≤ i := (Nat.lt_or_ge i (p.toList.zip q.toList).length).elim (fun z => by rw [List.drop_eq_getElem_cons z] at hz; cases hz) fun z => hZ ▸ z
    have ei : i = min p.size q.size := by omega
    subst ei
    have hR := fin s' hI
    rw [all_true ht, Bool.true_and] at hR
    wp_walk
    simpa [Builtin.Tuple.tupleCompareSizes, bne] using hR
  case h => exact ⟨rfl, 0, rfl, Nat.zero_le _, fun j hj => absurd hj (Nat.not_lt_zero _), hJ⟩
end
end GB

/-! Mi14: == and != of data that holds instances with an own __eq__ -/
namespace Mi
open PySem PySem.Spec L2

/-! ### might two values be one -/
mutual
def same : D → D → Bool
  | .non, .non => true
  | .bl a, .bl b => a == b
  | .int a, .int b => a == b
  | .str a, .str b => a == b
  | .tup xs, .tup ys => sames xs ys
  | .lv xs, .lv ys => sames xs ys
  | .ins _ fs, .ins _ gs => samef fs gs
  | x, y => !flD x && !flD y
def sames : List D → List D → Bool
  | [], [] => true
  | x :: xs, y :: ys => same x y && sames xs ys
  | _, _ => false
def samef : List (Nat × D) → List (Nat × D) → Bool
  | [], [] => true
  | (n, x) :: xs, (m, y) :: ys => n == m && (same x y && samef xs ys)
  | _, _ => false
end
theorem same_test : same (.tup [.int 1, .ins 3 [(1, .int 2)]]) (.tup [.int 1, .ins 3 [(1, .int 3)]]) = false := by decide
section
variable {X : Cx} {ct : CT} {pins : List (Addr × Obj)} {σ : L2.St} {H : Hp} {s : Shared} {S : Addr → Prop}
theorem lst_inj {a : Addr} {xs ys : List V} (h : H a = some (.lst xs)) (h' : H a = some (.lst ys)) : xs = ys := by
  rw [h] at h'; cases h'; rfl
theorem tup_inj (I : Inv X pins σ H s) {a : Addr} {xs ys : List V} (h : (Rd H a (.tup xs) ∧ S a) ∨ TupW X.K a xs) (h' : (Rd H a (.tup ys) ∧ S a) ∨ TupW X.K a ys) : xs = ys :=
  I.tuple_inj (h.imp (fun z => z.1) id) (h'.imp (fun z => z.1) id)
mutual
theorem same_of (I : Inv X pins σ H s) : ∀ {x : D} {v : V}, DR X.K ct S H x v → ∀ {y : D}, DR X.K ct S H y v → same x y = true
  | _, _, .non, _, r => by cases r; rfl
  | _, _, .bl b, _, r => by cases r; simp [same]
  | _, _, .int b, _, r => by cases r; simp [same]
  | _, _, .str b, _, r => by cases r; simp [same]
  | _, _, .tup h t, _, r => by
    cases r with
    | tup h' t' =>
      have e := tup_inj I h h'
      subst e
      simp only [same]
      exact sames_of I t t'
    | _ => simp [same, flD]
  | _, _, .lv h q t, _, r => by
    cases r with
    | lv h' _ t' =>
      have e := lst_inj h h'
      subst e
      simp only [same]
      exact sames_of I t t'
    | _ => simp [same, flD]
  | _, _, .scr h t, _, r => by cases r <;> simp [same, flD]
  | _, _, .dk h _ t, _, r => by cases r <;> simp [same, flD]
  | _, _, .dt h _ t, _, r => by cases r <;> simp [same, flD]
  | _, _, .ins h _ t, _, r => by
    cases r with
    | ins h' _ t' =>
      rw [h] at h'
      injection h' with h'
      injection h' with _ _ e
      subst e
      simp only [same]
      exact samef_of I t t'
    | _ => simp [same, flD]
theorem sames_of (I : Inv X pins σ H s) : ∀ {x : List D} {v : List V}, DRs X.K ct S H x v → ∀ {y : List D}, DRs X.K ct S H y v → sames x y = true
  | _, _, .nil, _, r => by cases r; rfl
  | _, _, .cons q t, _, r => by
    cases r with
    | cons q' t' => simp only [sames, same_of I q q', sames_of I t t']; rfl
theorem samef_of (I : Inv X pins σ H s) : ∀ {x : List (Nat × D)} {v : List (Str × V)}, DRf X.K ct S H x v → ∀ {y : List (Nat × D)}, DRf X.K ct S H y v → samef x y = true
  | _, _, .nil, _, r => by cases r; rfl
  | _, _, .cons (n := k) (d := d1) (v := v1) q t, y, r => by
    generalize hh : (ct.nm k, v1) = z at r
    cases r with
    | cons q' t' =>
      injection hh with e1 e2
      have := ct.inj _ _ e1
      subst this e2
      simp only [samef, same_of I q q', samef_of I t t', beq_self_eq_true]; rfl
end
mutual
theorem fun_of (I : Inv X pins σ H s) : ∀ {x : D} {v : V}, DR X.K ct S H x v → ∀ {y : D}, DR X.K ct S H y v → x.pd.canLay0 = true → y.pd.canLay0 = true → x = y
  | _, _, .non, _, r, _, _ => by cases r; rfl
  | _, _, .bl b, _, r, _, _ => by cases r; rfl
  | _, _, .int b, _, r, _, _ => by cases r; rfl
  | _, _, .str b, _, r, _, _ => by cases r; rfl
  | _, _, .tup h t, _, r, c, c' => by
    cases r with
    | tup h' t' =>
      have e := tup_inj I h h'
      subst e
      simp only [D.pd, PyData.canLay0] at c c'
      rw [funs_of I t t' c c']
    | lv h' _ _ =>
      exfalso
      obtain ⟨its, _, ⟨o, e, hc, _⟩, _⟩ := I.tuple (h.imp (fun z => z.1) id)
      obtain ⟨_, n, _, e', _⟩ := I.lst h'
      rw [e] at e'
      have z := congrArg (Option.map Obj.cls) e'
      simp [hc] at z
    | _ => simp [D.pd, PyData.canLay0] at c'
  | _, _, .lv h q t, _, r, c, c' => by
    cases r with
    | lv h' _ t' =>
      have e := lst_inj h h'
      subst e
      simp only [D.pd, PyData.canLay0] at c c'
      rw [funs_of I t t' c c']
    | tup h' _ =>
      exfalso
      obtain ⟨its, _, ⟨o, e, hc, _⟩, _⟩ := I.tuple (h'.imp (fun z => z.1) id)
      obtain ⟨_, n, _, e', _⟩ := I.lst h
      rw [e] at e'
      have z := congrArg (Option.map Obj.cls) e'
      simp [hc] at z
    | _ => simp [D.pd, PyData.canLay0] at c'
  | _, _, .scr h t, _, r, c, _ => by simp [D.pd, PyData.canLay0] at c
  | _, _, .dk h _ t, _, r, c, _ => by simp [D.pd, PyData.canLay0] at c
  | _, _, .dt h _ t, _, r, c, _ => by simp [D.pd, PyData.canLay0] at c
  | _, _, .ins h _ t, _, r, c, _ => by simp [D.pd, PyData.canLay0] at c
theorem funs_of (I : Inv X pins σ H s) : ∀ {x : List D} {v : List V}, DRs X.K ct S H x v → ∀ {y : List D}, DRs X.K ct S H y v → PyData.canLayAll0 (D.pds x) = true → PyData.canLayAll0 (D.pds y) = true → x = y
  | _, _, .nil, _, r, _, _ => by cases r; rfl
  | _, _, .cons q t, _, r, c, c' => by
    cases r with
    | cons q' t' =>
      simp only [D.pds, PyData.canLayAll0, Bool.and_eq_true] at c c'
      rw [fun_of I q q' c.1 c'.1, funs_of I t t' c.2 c'.2]
end
mutual
theorem eqv_refl : ∀ {d : D}, d.pd.canLay0 = true → PyData.eqv d.pd d.pd = true
  | .non, _ => by simp [D.pd, PyData.eqv]
  | .bl _, _ => by simp [D.pd, PyData.eqv]
  | .int _, _ => by simp [D.pd, PyData.eqv]
  | .str _, _ => by simp [D.pd, PyData.eqv]
  | .tup xs, c => by
    simp only [D.pd, PyData.canLay0] at c
    simp only [D.pd, PyData.eqv]
    exact eqvs_refl c
  | .lv xs, c => by
    simp only [D.pd, PyData.canLay0] at c
    simp only [D.pd, PyData.eqv]
    exact eqvs_refl c
  | .scr _, c => by simp [D.pd, PyData.canLay0] at c
  | .dk _, c => by simp [D.pd, PyData.canLay0] at c
  | .dt _, c => by simp [D.pd, PyData.canLay0] at c
  | .ins _ _, c => by simp [D.pd, PyData.canLay0] at c
theorem eqvs_refl : ∀ {d : List D}, PyData.canLayAll0 (D.pds d) = true → PyData.eqvAll (D.pds d) (D.pds d) = true
  | [], _ => by simp [D.pds, PyData.eqvAll]
  | x :: xs, c => by
    simp only [D.pds, PyData.canLayAll0, Bool.and_eq_true] at c
    simp only [D.pds, PyData.eqvAll, eqv_refl c.1, eqvs_refl c.2]; rfl
end

/-! ### the meaning -/
def insE (T : List (Nat × Nat)) (call : CallT) : D → D → Option Bool
  | .ins C fs, .ins C' gs => (match T.lookup C, T.lookup C' with
    | some i, some _ => (match call i [.d (.ins C fs), .d (.ins C' gs)] [] with
      | .ok (.d (.bl b)) _ => if b = true ∨ samef fs gs = false then some b else none
      | _ => none)
    | _, _ => none)
  | _, _ => none
def eqZ (f : D → D → Option Bool) : List D → List D → Option Bool
  | x :: xs, y :: ys => (match f x y with
    | some true => eqZ f xs ys
    | some false => some false
    | none => none)
  | _, _ => some true
def eqP (x y : D) : Option Bool := if flD x = true ∧ flD y = true then some (eqF x y) else if shp x = true ∧ shp y = true then some (PyData.eqv x.pd y.pd) else none
def eqO (T : List (Nat × Nat)) (call : CallT) : Nat → D → D → Option Bool
  | 0, x, y => (match eqP x y with
    | some b => some b
    | none => insE T call x y)
  | n + 1, x, y => (match eqP x y with
    | some b => some b
    | none => (match x, y with
      | .tup xs, .tup ys => (eqZ (eqO T call n) xs ys).map fun r => r && xs.length == ys.length
      | .lv xs, .lv ys => if xs.length = ys.length then eqZ (eqO T call n) xs ys else some false
      | x, y => insE T call x y))
def bsOf (f : D → D → Option Bool) (xs ys : List D) (i : Nat) : Bool := match xs[i]?, ys[i]? with
  | some x, some y => f x y == some true
  | _, _ => true
theorem eqZ_spec {f : D → D → Option Bool} : ∀ {xs ys : List D} {r : Bool}, eqZ f xs ys = some r →
    (∀ (i : Nat) x y, xs[i]? = some x → ys[i]? = some y → (∀ j, j < i → bsOf f xs ys j = true) → f x y = some (bsOf f xs ys i)) ∧ r = (List.range (min xs.length ys.length)).all (bsOf f xs ys)
  | [], ys, r, h => by
    cases h
    exact ⟨fun i x y h => by simp at h, by simp⟩
  | x :: xs, [], r, h => by
    cases h
    exact ⟨fun i x y _ h => by simp at h, by simp⟩
  | x :: xs, y :: ys, r, h => by
    unfold eqZ at h
    have hm : min (x :: xs).length (y :: ys).length = min xs.length ys.length + 1 := by simp
    have hr : (List.range (min xs.length ys.length + 1)).all (bsOf f (x :: xs) (y :: ys)) = ((f x y == some true) && (List.range (min xs.length ys.length)).all (bsOf f xs ys)) := by
      rw [List.range_succ_eq_map, List.all_cons, List.all_map]
      rfl
    rw [hm, hr]
    split at h
    · rename_i e
      obtain ⟨i1, i2⟩ := eqZ_spec h
      refine ⟨fun i a b ha hb ht => ?_, by rw [e, ← i2]; rfl⟩
      cases i with
      | zero =>
        cases ha; cases hb
        show f x y = some (f x y == some true)
        rw [e]; rfl
      | succ i => exact i1 i a b ha hb fun j hj => ht (j + 1) (Nat.succ_lt_succ hj)
    · rename_i e
      cases h
      refine ⟨fun i a b ha hb ht => ?_, by rw [e]; rfl⟩
      cases i with
      | zero =>
        cases ha; cases hb
        show f x y = some (f x y == some true)
        rw [e]; rfl
      | succ i =>
        have := ht 0 (Nat.succ_pos _)
        have e2 : (f x y == some true) = true := this
        rw [e] at e2
        cases e2
    · cases h
end
end Mi

/-! Mi15: == and != of data that holds instances with an own __eq__: they are as the meaning says -/
namespace Mi
open PySem PySem.Spec L2

/-- somewhere below the running body, by so many steps of the C stack -/
structure Blw (X : Cx) (d : Nat) (A : Around) : Prop where
  hd : A.handled = X.A.handled
  dp : A.depth = X.A.depth
  un : A.units ≤ X.A.units + d
  fr : A.frames = X.A.frames
theorem Blw.top {X : Cx} : Blw X 0 X.A := ⟨rfl, rfl, Nat.le_refl _, rfl⟩
theorem Blw.in1 {X : Cx} {d : Nat} {A : Around} (b : Blw X d A) : Blw X (d + 1) A.in1 := ⟨b.hd, b.dp, by have := b.un; show A.units + 1 ≤ _; omega, b.fr⟩
theorem Blw.room {X : Cx} {d k : Nat} {A : Around} (b : Blw X d A) (hr : Room (k + 1) X.A) (h : d ≤ 16) : Room k A :=
  ⟨b.hd.trans hr.hd, by have := hr.dp; rw [b.dp]; omega, by have := hr.un; have := b.un; omega⟩
/-- the table of the classes with an own __eq__ -/
structure EqT (X : Cx) (ct : CT) (fns : List Fn) (T : List (Nat × Nat)) : Prop where
  own : ∀ C i, T.lookup C = some i → ∃ F, fns[i]? = some F ∧ PySem.W.findIn X.K (.ref (ct.ca C)) "__eq__" = some (some (.ref F.f)) ∧ PySem.W.isFn X.K (.ref F.f) = true ∧ Binds X.K F.fd F.ps []
  two : ∀ C i C' i', T.lookup C = some i → T.lookup C' = some i' → PySem.W.notFirst X.K (ct.ca C) (.ref (ct.ca C')) = true

section
variable {X : Cx} {ct : CT} {fns : List Fn} {T : List (Nat × Nat)} {call : CallT} {n : Nat}
/-- what == is to do -/
def EqS (X : Cx) (ct : CT) (d : Nat) (f : D → D → Option Bool) : Prop :=
  ∀ (A : Around) (pins : List (Addr × Obj)) (s : Shared) (σ : L2.St) (H : Hp) (x y : D) (v1 v2 : V) (u1 u2 : Value) (b : Bool), Blw X d A → Inv X pins σ H s → DR X.K ct (fun _ => True) H x v1 → DR X.K ct (fun _ => True) H y v2 → RelV v1 u1 → RelV v2 u2 → f x y = some b →
    wpAny (model X.prog X.w) A (eqBool u1 u2) (fun r s' => r = b ∧ ∃ H', Inv X pins σ H' s' ∧ L2.Ext H H') X.xe s
/-- an answer that is told of a value and itself is yes -/
def Rfl (X : Cx) (ct : CT) (f : D → D → Option Bool) : Prop :=
  ∀ (pins : List (Addr × Obj)) (s : Shared) (σ : L2.St) (H : Hp) (x y : D) (v : V) (b : Bool), Inv X pins σ H s → DR X.K ct (fun _ => True) H x v → DR X.K ct (fun _ => True) H y v → f x y = some b → b = true
theorem eqP_some {x y : D} {b : Bool} (h : eqP x y = some b) : (flD x = true ∧ flD y = true ∧ eqF x y = b) ∨ (shp x = true ∧ shp y = true ∧ PyData.eqv x.pd y.pd = b) := by
  unfold eqP at h
  split at h
  · rename_i c; cases h; exact .inl ⟨c.1, c.2, rfl⟩
  · split at h
    · rename_i c; cases h; exact .inr ⟨c.1, c.2, rfl⟩
    · cases h
theorem eqV_refl {v : V} (h : flatV v = true) : eqV v v = true := by
  cases v <;> first | (cases h; done) | simp [eqV]
theorem eqP_rfl : Rfl X ct eqP := fun pins s σ H x y v b I r1 r2 h => by
  rcases eqP_some h with ⟨c1, c2, e⟩ | ⟨c1, c2, e⟩
  · rw [← e, ← eqF_of c1 c2 r1 r2]
    exact eqV_refl (fl_of c1 r1)
  · have k1 := SeqAt.canLay_of_shaped c1
    have k2 := SeqAt.canLay_of_shaped c2
    have := fun_of I r1 r2 k1 k2
    subst this
    rw [← e]
    exact eqv_refl k1
theorem eqP_sound {d : Nat} (hr : Room 1 X.A) (hd : d ≤ 16) : EqS X ct d eqP := fun A pins s σ H x y v1 v2 u1 u2 b sb I r1 r2 q1 q2 h => by
  rcases eqP_some h with ⟨c1, c2, e⟩ | ⟨c1, c2, e⟩
  · have q := eqAt_V (A := A) (s := s) q1 q2 (fl_of c1 r1) (fl_of c2 r2)
    rw [eqF_of c1 c2 r1 r2, e] at q
    exact q X.prog X.w X.xe _ ⟨rfl, H, I, Ext.rfl'⟩
  · have k1 := SeqAt.canLay_of_shaped c1
    have k2 := SeqAt.canLay_of_shaped c2
    obtain ⟨as, e1⟩ := Dp.reads I x.pd v1 u1 (dp_of r1 k1) q1
    obtain ⟨bs, e2⟩ := Dp.reads I y.pd v2 u2 (dp_of r2 k2) q2
    have q := SeqAt.eqAt_reads x.pd y.pd A s u1 u2 as bs e1 e2 k1 k2 (SeqAt.room_of_shaped c1 (by have := sb.un; have := hr.un; omega))
    rw [e] at q
    exact q X.prog X.w X.xe _ ⟨rfl, H, I, Ext.rfl'⟩
theorem insE_some {x y : D} {b : Bool} (h : insE T call x y = some b) : ∃ C fs C' gs i i' h', x = .ins C fs ∧ y = .ins C' gs ∧ T.lookup C = some i ∧ T.lookup C' = some i' ∧ call i [.d x, .d y] [] = .ok (.d (.bl b)) h' ∧ (b = true ∨ samef fs gs = false) := by
  unfold insE at h
  split at h
  · split at h
    · rename_i C fs C' gs _ _ i i' e1 e2
      split at h
      · rename_i b' h' e3
        split at h
        · rename_i hb
          cases h
          exact ⟨C, fs, C', gs, i, i', h', rfl, rfl, e1, e2, e3, hb⟩
        · cases h
      · cases h
    · cases h
  · cases h
theorem insE_rfl : Rfl X ct (insE T call) := fun pins s σ H x y v b I r1 r2 h => by
  obtain ⟨C, fs, C', gs, i, i', h', rfl, rfl, e1, e2, e3, hb⟩ := insE_some h
  rcases hb with hb | hb
  · exact hb
  · have := same_of I r1 r2
    simp only [same] at this
    rw [hb] at this
    cases this
theorem sf_nil (a : Addr) : Sf [] [] a := fun ⟨k, o, e, _⟩ => by simp at e
theorem hr_nil {K : PySem.W.Frag} {H : Hp} : HR K ct [] [] H := ⟨rfl, fun i j a e => by simp at e, fun k a o e => by simp at e⟩
/-- the rich comparison by an own __eq__ -/
theorem insE_rc (co : CallOk X.prog X.w X.K X.mg X.base ct fns call n) (ET : EqT X ct fns T) {A : Around} (hr : Room (2 * n) A) (hf : A.frames = X.A.frames) {pins : List (Addr × Obj)} {s : Shared} {σ : L2.St} {H : Hp} {x y : D} {v1 v2 : V} {u1 u2 : Value} {b : Bool}
    (I : Inv X pins σ H s) (r1 : DR X.K ct (fun _ => True) H x v1) (r2 : DR X.K ct (fun _ => True) H y v2) (q1 : RelV v1 u1) (q2 : RelV v2 u2) (h : insE T call x y = some b) :
    wpAny (model X.prog X.w) A (richCompare .Eq u1 u2) (fun r s' => r = .bool b ∧ ∃ H', Inv X pins σ H' s' ∧ L2.Ext H H') X.xe s := by
  obtain ⟨C, fs, C', gs, i, i', h', rfl, rfl, e1, e2, e3, hb⟩ := insE_some h
  obtain ⟨F, hF, hs, hfn, hbd⟩ := ET.own C i e1
  have hnf := ET.two C i C' i' e1 e2
  have G := co.ok i F hF
  have kp : Kp (fun _ => True) H (Sf [] []) H := fun a o e _ => ⟨e, sf_nil a⟩
  have hsp : spC X.K ct call i [v1, v2] H (fun v H' => v = .bl b ∧ L2.Ext H H') (fun _ _ _ => False) := by
    refine ⟨[], [], [.d (.ins C fs), .d (.ins C' gs)], hr_nil, .cons (DR.mono kp r1) (.cons (DR.mono kp r2) .nil), ?_⟩
    rw [e3]
    refine fun m2 H2 w2 hr2 ex2 rw2 => ?_
    cases rw2
    exact ⟨rfl, fun a o e => (ex2.kp a o e (sf_nil a)).1⟩
  cases r1 with
  | @ins a1 _ dx1 _ vs1 g1 _ t1 =>
  cases r2 with
  | @ins a2 _ dx2 _ vs2 g2 _ t2 =>
  cases q1
  cases q2
  obtain ⟨mA, J, _⟩ := ins_get I.hok g1
  obtain ⟨mB, J', _⟩ := ins_get I.hok g2
  obtain ⟨od, J, _⟩ := J.look
  obtain ⟨od', J', _⟩ := J'.look
  obtain ⟨m, hFr⟩ := I.fr
  refine PySem.W.cmp_K (op := .Eq) (tb := .ref (ct.ca C')) hr.units0 hFr I.ok.mod.kin J J'.type hnf hs hfn ?_
  have ee := I.env0
  have e0 : Env0 X.prog X.w X.K X.mg X.base A X.stack s H := ⟨by rw [hf]; exact ee.frames, ee.mod, ee.bs, ee.bsz, ee.funs, ee.frf, ee.hok, ee.bare⟩
  have hl := G.len _ _ _ _ hsp
  have hv : Vals [V.ref a1, V.ref a2] [Value.ref a1, Value.ref a2] := .cons rfl (.cons rfl .nil)
  have hbn := hbd s [.ref a1, .ref a2] I.kIn (by simpa using hl)
  refine wpAny_call (codeAny_mono (G.run A X.stack s H ⟨[.ref a1, .ref a2], []⟩ [.ref a1, .ref a2] [.ref a1, .ref a2] _ _ hr e0 (by simpa using hbn) hv hsp) fun r s' hq => ?_)
  cases r with
  | error e =>
    obtain ⟨_, _, _, _, _, _, _, _, _, _, _, _, _, _, _, _, w⟩ := XE.of_call (W := W0) I (fun _ _ _ q => q) hq
    exact w.elim
  | ok fl =>
    cases fl with
    | ret w =>
      obtain ⟨z, H', I', rz, ez, ex⟩ := I.after hq
      subst ez
      cases rz
      exact ⟨rfl, H', I', ex⟩
    | next => exact False.elim hq
    | brk => exact False.elim hq
    | cont => exact False.elim hq
theorem ref_of {K : PySem.W.Frag} {S : Addr → Prop} {H : Hp} {x : D} {v : V} (r : DR K ct S H x v) (h : flD x = false) : ∃ a, v = .ref a := by
  cases r <;> first | (cases h; done) | exact ⟨_, rfl⟩
/-- from the rich comparison of two references to == -/
theorem eqb_ref {A : Around} {pins : List (Addr × Obj)} {s : Shared} {σ : L2.St} {H : Hp} {a1 a2 : Addr} {b : Bool} (I : Inv X pins σ H s) (hb : a1 = a2 → b = true)
    (h : wpAny (model X.prog X.w) A (richCompare .Eq (.ref a1) (.ref a2)) (fun r s' => r = .bool b ∧ ∃ H', Inv X pins σ H' s' ∧ L2.Ext H H') X.xe s) :
    wpAny (model X.prog X.w) A (eqBool (.ref a1) (.ref a2)) (fun r s' => r = b ∧ ∃ H', Inv X pins σ H' s' ∧ L2.Ext H H') X.xe s := by
  by_cases e : a1 = a2
  · subst e
    exact SeqAt.EqAt.same (A := A) (s := s) (.ref a1) X.prog X.w X.xe _ ⟨(hb rfl).symm, H, I, Ext.rfl'⟩
  · refine GQ.eqBool_refG e (wpAny_mono h (fun r s' q => ?_) fun _ _ x => x)
    exact ⟨b, q.1, rfl, q.2⟩
/-- the turn of a loop over two rows of items -/
theorem turn_of {d : Nat} {f : D → D → Option Bool} (h : EqS X ct (d + 1) f) {A : Around} (sb : Blw X d A) {pins : List (Addr × Obj)} {σ : L2.St} {H : Hp} {xs ys : List D} {vs ws : List V} {p q : List Value} (rx : DRs X.K ct (fun _ => True) H xs vs) (ry : DRs X.K ct (fun _ => True) H ys ws)
    (rp : Vals vs p) (rq : Vals ws q) {r : Bool} (hz : eqZ f xs ys = some r) (i : Nat) (h1 : i < p.toArray.size) (h2 : i < q.toArray.size) (ht : ∀ j, j < i → bsOf f xs ys j = true) (s' : Shared) (l : ∃ H', Inv X pins σ H' s' ∧ L2.Ext H H') :
    wpAny (model X.prog X.w) A.in1 (eqBool p.toArray[i] q.toArray[i]) (fun r s2 => r = bsOf f xs ys i ∧ ∃ H', Inv X pins σ H' s2 ∧ L2.Ext H H') X.xe s' := by
  obtain ⟨H1, I1, e1⟩ := l
  have kp : Kp (fun _ => True) H (fun _ => True) H1 := fun a o e _ => ⟨e1 a o e, trivial⟩
  have k1 : i < xs.length := by rw [rx.length, rp.length]; simpa using h1
  have k2 : i < ys.length := by rw [ry.length, rq.length]; simpa using h2
  obtain ⟨v1, g1, t1⟩ := (rx.mono kp).get (List.getElem?_eq_getElem k1)
  obtain ⟨v2, g2, t2⟩ := (ry.mono kp).get (List.getElem?_eq_getElem k2)
  obtain ⟨u1, m1, w1⟩ := rp.get g1
  obtain ⟨u2, m2, w2⟩ := rq.get g2
  have z1 : p.toArray[i] = u1 := by
    have : i < p.length := by simpa using h1
    rw [List.getElem?_eq_getElem this] at m1
    simpa using m1
  have z2 : q.toArray[i] = u2 := by
    have : i < q.length := by simpa using h2
    rw [List.getElem?_eq_getElem this] at m2
    simpa using m2
  rw [z1, z2]
  refine wpAny_mono (h A.in1 pins s' σ H1 _ _ v1 v2 u1 u2 _ sb.in1 I1 t1 t2 w1 w2 ((eqZ_spec hz).1 i _ _ (List.getElem?_eq_getElem k1) (List.getElem?_eq_getElem k2) ht)) (fun r s2 q => ?_) fun _ _ x => x
  exact ⟨q.1, let ⟨H2, I2, e2⟩ := q.2; ⟨H2, I2, e1.trans e2⟩⟩
theorem eqZ_rfl {f : D → D → Option Bool} (h : Rfl X ct f) {pins : List (Addr × Obj)} {s : Shared} {σ : L2.St} {H : Hp} (I : Inv X pins σ H s) : ∀ {xs ys : List D} {vs : List V} {b : Bool}, DRs X.K ct (fun _ => True) H xs vs → DRs X.K ct (fun _ => True) H ys vs → eqZ f xs ys = some b → b = true
  | [], _, _, _, _, _, e => by cases e; rfl
  | _ :: _, [], _, _, _, _, e => by cases e; rfl
  | x :: xs, y :: ys, _, b, .cons r t, .cons r' t', e => by
    unfold eqZ at e
    split at e
    · exact eqZ_rfl h I t t' e
    · rename_i e2
      cases e
      exact h _ _ _ _ _ _ _ _ I r r' e2
    · cases e
theorem eqO_rfl : ∀ k : Nat, Rfl X ct (eqO T call k)
  | 0 => fun pins s σ H x y v b I r1 r2 h => by
    unfold eqO at h
    split at h
    · rename_i e; cases h; exact eqP_rfl _ _ _ _ _ _ _ _ I r1 r2 e
    · exact insE_rfl _ _ _ _ _ _ _ _ I r1 r2 h
  | k + 1 => fun pins s σ H x y v b I r1 r2 h => by
    unfold eqO at h
    split at h
    · rename_i e; cases h; exact eqP_rfl _ _ _ _ _ _ _ _ I r1 r2 e
    · split at h
      · cases r1 with
        | tup g1 t1 =>
        cases r2 with
        | tup g2 t2 =>
        have e := tup_inj (S := fun _ => True) I g1 g2
        subst e
        cases hz : eqZ (eqO T call k) _ _ with
        | none => rw [hz] at h; cases h
        | some r =>
          rw [hz] at h
          cases h
          rw [eqZ_rfl (eqO_rfl k) I t1 t2 hz, t1.length, t2.length, beq_self_eq_true]; rfl
      · cases r1 with
        | lv g1 _ t1 =>
        cases r2 with
        | lv g2 _ t2 =>
        have e := lst_inj g1 g2
        subst e
        rw [if_pos (t1.length.trans t2.length.symm)] at h
        exact eqZ_rfl (eqO_rfl k) I t1 t2 h
      · exact insE_rfl _ _ _ _ _ _ _ _ I r1 r2 h
/-- the rich comparison of two lists, of two tuples, of two instances -/
theorem eqO_rc (ne : Bool) (co : CallOk X.prog X.w X.K X.mg X.base ct fns call n) (ET : EqT X ct fns T) (hr : Room (2 * n + 1) X.A) {d k : Nat} (hd : d + k < 16) (ih : EqS X ct (d + 1) (eqO T call k)) {A : Around} {pins : List (Addr × Obj)} {s : Shared} {σ : L2.St} {H : Hp} {xs ys : List D} {t : Bool} {v1 v2 : V} {u1 u2 : Value} {b : Bool}
    (sb : Blw X d A) (I : Inv X pins σ H s) (r1 : DR X.K ct (fun _ => True) H (if t then .tup xs else .lv xs) v1) (r2 : DR X.K ct (fun _ => True) H (if t then .tup ys else .lv ys) v2) (q1 : RelV v1 u1) (q2 : RelV v2 u2)
    (h : (if t then (eqZ (eqO T call k) xs ys).map fun r => r && xs.length == ys.length else if xs.length = ys.length then eqZ (eqO T call k) xs ys else some false) = some b) :
    wpAny (model X.prog X.w) A (richCompare (if ne then .NotEq else .Eq) u1 u2) (fun r s' => r = .bool (if ne then !b else b) ∧ ∃ H', Inv X pins σ H' s' ∧ L2.Ext H H') X.xe s := by
  have hu : A.units < cLine := (sb.room hr (by omega)).units0
  cases t with
  | true =>
    simp only [if_true] at r1 r2 h
    cases r1 with
    | @tup a1 _ vs1 g1 t1 =>
    cases r2 with
    | @tup a2 _ vs2 g2 t2 =>
    cases q1
    cases q2
    obtain ⟨p, rp, ⟨⟨c1, dd1, da1, sl1⟩, o1, hc1, n1, hd1⟩, _⟩ := I.tuple (g1.imp (fun z => z.1) id)
    obtain ⟨q, rq, ⟨⟨c2, dd2, da2, sl2⟩, o2, hc2, n2, hd2⟩, _⟩ := I.tuple (g2.imp (fun z => z.1) id)
    simp only at hc1 hd1 hc2 hd2
    subst hc1 hd1 hc2 hd2
    cases hz : eqZ (eqO T call k) xs ys with
    | none => rw [hz] at h; cases h
    | some r =>
      rw [hz] at h
      cases h
      have sp := (eqZ_spec hz).2
      have l1 : p.toArray.size = xs.length := by rw [List.size_toArray, ← rp.length, t1.length]
      have l2 : q.toArray.size = ys.length := by rw [List.size_toArray, ← rq.length, t2.length]
      cases ne with
      | false =>
        refine wpAny_richCompare_same_room (op := .Eq) ⟨_, o1, rfl⟩ ⟨_, o2, rfl⟩ F.slot_tuple_eq (GQ.call_here F.slot_tuple_eq ⟨_, o1, rfl⟩ F.entry_tuple_eq (F.args_tuple_eq_2 _ _) ?_) hu
        refine GB.tup_eqB (J := fun s' => ∃ H', Inv X pins σ H' s' ∧ L2.Ext H H') (bs := bsOf (eqO T call k) xs ys) p.toArray q.toArray n1 n2 dd1 dd2 sl1 sl2 (fun i h1 h2 ht s' l => turn_of ih sb t1 t2 rp rq hz i h1 h2 ht s' l) (fun s' l => ⟨(fun z => nomatch z), ?_, l⟩) o1 o2 ⟨H, I, Ext.rfl'⟩
        rw [l1, l2, ← sp]; rfl
      | true =>
        refine wpAny_richCompare_same_room (op := .NotEq) ⟨_, o1, rfl⟩ ⟨_, o2, rfl⟩ F.slot_tuple_ne (GQ.call_here F.slot_tuple_ne ⟨_, o1, rfl⟩ F.entry_tuple_ne (F.args_tuple_ne_2 _ _) ?_) hu
        refine GB.tup_neB (J := fun s' => ∃ H', Inv X pins σ H' s' ∧ L2.Ext H H') (bs := bsOf (eqO T call k) xs ys) p.toArray q.toArray n1 n2 dd1 dd2 sl1 sl2 (fun i h1 h2 ht s' l => turn_of ih sb t1 t2 rp rq hz i h1 h2 ht s' l) (fun s' l => ⟨(fun z => nomatch z), ?_, l⟩) o1 o2 ⟨H, I, Ext.rfl'⟩
        rw [l1, l2, ← sp]; rfl
  | false =>
    rw [if_neg Bool.false_ne_true] at r1 r2 h
    cases r1 with
    | @lv a1 _ vs1 g1 _ t1 =>
    cases r2 with
    | @lv a2 _ vs2 g2 _ t2 =>
    cases q1
    cases q2
    obtain ⟨p, n1, rp, o1, _⟩ := I.lst g1
    obtain ⟨q, n2, rq, o2, _⟩ := I.lst g2
    have l1 : p.length = xs.length := by rw [← rp.length, t1.length]
    have l2 : q.length = ys.length := by rw [← rq.length, t2.length]
    by_cases hl : xs.length = ys.length
    · rw [if_pos hl] at h
      have sp := (eqZ_spec h).2
      rw [← hl, Nat.min_self] at sp
      have bo : GB.Both X.prog X.w A X.xe a1 a2 xs.length (bsOf (eqO T call k) xs ys) (fun s' => ∃ H', Inv X pins σ H' s' ∧ L2.Ext H H') := fun s' l => by
        obtain ⟨H1, I1, e1⟩ := id l
        obtain ⟨p', n1', rp', o1', _⟩ := I1.lst (e1 _ _ g1)
        obtain ⟨q', n2', rq', o2', _⟩ := I1.lst (e1 _ _ g2)
        exact ⟨p'.toArray, q'.toArray, n1', n2', o1', o2', by rw [List.size_toArray, ← rp'.length, t1.length], by rw [List.size_toArray, ← rq'.length, ← t2.length, hl], fun i h1 h2 ht => turn_of ih sb t1 t2 rp' rq' h i h1 h2 ht s' l⟩
      cases ne with
      | false =>
        refine wpAny_richCompare_same_room (op := .Eq) ⟨_, o1, rfl⟩ ⟨_, o2, rfl⟩ F.slot_list_eq (GQ.call_here F.slot_list_eq ⟨_, o1, rfl⟩ F.entry_list_eq (F.args_list_eq_2 _ _) ?_) hu
        exact GB.lst_eqB bo (fun s' l => ⟨(fun z => nomatch z), by rw [← sp]; rfl, l⟩) ⟨H, I, Ext.rfl'⟩
      | true =>
        refine wpAny_richCompare_same_room (op := .NotEq) ⟨_, o1, rfl⟩ ⟨_, o2, rfl⟩ F.slot_list_ne (GQ.call_here F.slot_list_ne ⟨_, o1, rfl⟩ F.entry_list_ne (F.args_list_ne_2 _ _) ?_) hu
        exact GB.lst_neB bo (fun s' l => ⟨(fun z => nomatch z), by rw [← sp]; rfl, l⟩) ⟨H, I, Ext.rfl'⟩
    · rw [if_neg hl] at h
      cases h
      have hsz : (p.toArray.size != q.toArray.size) = true := by rw [List.size_toArray, List.size_toArray, l1, l2]; exact bne_iff_ne.mpr hl
      cases ne with
      | false => exact SeqAt.RcAt.lists_lengths ⟨_, o1, rfl, _, rfl⟩ ⟨_, o2, rfl, _, rfl⟩ hsz hu X.prog X.w X.xe _ ⟨rfl, H, I, Ext.rfl'⟩
      | true => exact SeqAt.RcNeAt.lists_lengths ⟨_, o1, rfl, _, rfl⟩ ⟨_, o2, rfl, _, rfl⟩ hsz hu X.prog X.w X.xe _ ⟨rfl, H, I, Ext.rfl'⟩
theorem eqO_sound (co : CallOk X.prog X.w X.K X.mg X.base ct fns call n) (ET : EqT X ct fns T) (hr : Room (2 * n + 1) X.A) : ∀ (k d : Nat), d + k < 16 → EqS X ct d (eqO T call k)
  | 0, d, hd => fun A pins s σ H x y v1 v2 u1 u2 b sb I r1 r2 q1 q2 h => by
    have hi := h
    unfold eqO at h
    split at h
    · rename_i e; cases h; exact eqP_sound (hr.mono (by omega)) (by omega) A pins s σ H x y v1 v2 u1 u2 _ sb I r1 r2 q1 q2 e
    · obtain ⟨C, fs, C', gs, i, i', h', rfl, rfl, _⟩ := insE_some h
      have rc := insE_rc co ET (sb.room hr (by omega)) sb.fr I r1 r2 q1 q2 h
      obtain ⟨a1, rfl⟩ := ref_of r1 rfl
      obtain ⟨a2, rfl⟩ := ref_of r2 rfl
      cases q1
      cases q2
      exact eqb_ref I (fun e => by subst e; exact insE_rfl _ _ _ _ _ _ _ _ I r1 r2 h) rc
  | k + 1, d, hd => fun A pins s σ H x y v1 v2 u1 u2 b sb I r1 r2 q1 q2 h => by
    have hi := h
    unfold eqO at h
    split at h
    · rename_i e; cases h; exact eqP_sound (hr.mono (by omega)) (by omega) A pins s σ H x y v1 v2 u1 u2 _ sb I r1 r2 q1 q2 e
    · split at h
      · have rc := eqO_rc false co ET hr (k := k) (by omega) (eqO_sound co ET hr k (d + 1) (by omega)) (t := true) sb I r1 r2 q1 q2 h
        obtain ⟨a1, rfl⟩ := ref_of r1 rfl
        obtain ⟨a2, rfl⟩ := ref_of r2 rfl
        cases q1
        cases q2
        exact eqb_ref I (fun e => by subst e; exact eqO_rfl (k + 1) _ _ _ _ _ _ _ _ I r1 r2 hi) rc
      · have rc := eqO_rc false co ET hr (k := k) (by omega) (eqO_sound co ET hr k (d + 1) (by omega)) (t := false) sb I r1 r2 q1 q2 h
        obtain ⟨a1, rfl⟩ := ref_of r1 rfl
        obtain ⟨a2, rfl⟩ := ref_of r2 rfl
        cases q1
        cases q2
        exact eqb_ref I (fun e => by subst e; exact eqO_rfl (k + 1) _ _ _ _ _ _ _ _ I r1 r2 hi) rc
      · obtain ⟨C, fs, C', gs, i, i', h', rfl, rfl, _⟩ := insE_some h
        have rc := insE_rc co ET (sb.room hr (by omega)) sb.fr I r1 r2 q1 q2 h
        obtain ⟨a1, rfl⟩ := ref_of r1 rfl
        obtain ⟨a2, rfl⟩ := ref_of r2 rfl
        cases q1
        cases q2
        exact eqb_ref I (fun e => by subst e; exact insE_rfl _ _ _ _ _ _ _ _ I r1 r2 h) rc
/-- data as it is seen by a comparison: a changeable list is its items -/
def eqTop (T : List (Nat × Nat)) (call : CallT) (x y : D) : Option Bool := match deq x y with
  | some b => some b
  | none => (match x, y with
    | .tup xs, .tup ys => (eqZ (eqO T call 6) xs ys).map fun r => r && xs.length == ys.length
    | .lv xs, .lv ys => if xs.length = ys.length then eqZ (eqO T call 6) xs ys else some false
    | _, _ => none)
def oEqO (ne : Bool) (T : List (Nat × Nat)) (call : CallT) : Op2 := fun x y h => match viewD x h, viewD y h with
  | some a, some b => (match eqTop T call a b with
    | some r => some (.d (.bl (if ne then !r else r)), h)
    | none => (match ne, x, y with
      | false, .d u, .d v => (insE T call u v).map fun r => (.d (.bl r), h)
      | _, _, _ => none))
  | _, _ => none
theorem view_dr {K : PySem.W.Frag} {m : List Addr} {ah : Hs} {x : Vl} {d : D} {v : V} {H : Hp} (e : viewD x ah = some d) (hr : HR K ct m ah H) (r : VlR K ct m ah H x v) : DR K ct (fun _ => True) H d v := by
  have kp : Kp (Sf m ah) H (fun _ => True) H := fun a o e _ => ⟨e, trivial⟩
  unfold viewD at e
  split at e
  · cases e; exact DR.mono kp r
  · rename_i k
    split at e
    · rename_i xs hk
      cases e
      obtain ⟨a, vs, _, rfl, h1, h2⟩ := hr.lstK hk r
      exact .lv h1 trivial (h2.mono kp)
    · cases e
theorem cmp_rc (ne : Bool) (u1 u2 : Value) : compareOp (if ne then .NotEq else .Eq) u1 u2 = richCompare (if ne then .NotEq else .Eq) u1 u2 := by cases ne <;> rfl
theorem eqo_sound (ne : Bool) (co : CallOk X.prog X.w X.K X.mg X.base ct fns call n) (ET : EqT X ct fns T) (hr : Room (2 * n + 1) X.A) : OpR X (compareOp (if ne then .NotEq else .Eq)) (rOp X.K ct (oEqO ne T call)) := by
  intro pins s σ H x y u1 u2 Q I q1 q2 ⟨m, ah, a, b, h1, ra, rb, p⟩
  unfold oEqO at p
  split at p
  · rename_i d e va vb
    have r1 := view_dr va h1 ra
    have r2 := view_dr vb h1 rb
    have go : ∀ {r : Bool} {H' : Hp} {s' : Shared}, Inv X pins σ H' s' → L2.Ext H H' → Pp X.K ct m ah H (some (.d (.bl r), ah)) Q → EP X pins σ Q (.bool r) s' := fun I' ex p' => by
      obtain ⟨hr', ex'⟩ := h1.more ex
      exact ⟨.bl _, _, I', rfl, p' m _ _ hr' ex' (.bl _)⟩
    split at p
    · rename_i r hq
      unfold eqTop at hq
      split at hq
      · rename_i r' hd
        cases hq
        unfold deq at hd
        split at hd
        · rename_i hc
          cases hd
          have hc' := Bool.and_eq_true_iff.mp hc
          cases ne with
          | false => exact (op_eqD hr.units) pins s σ H x y u1 u2 Q I q1 q2 ⟨d.pd, e.pd, view_dp h1 va ra hc'.1, view_dp h1 vb rb hc'.2, hc'.1, hc'.2, p.same h1 (.bl _)⟩
          | true => exact (op_neD hr.units) pins s σ H x y u1 u2 Q I q1 q2 ⟨d.pd, e.pd, view_dp h1 va ra hc'.1, view_dp h1 vb rb hc'.2, hc'.1, hc'.2, p.same h1 (.bl _)⟩
        · cases hd
      · split at hq
        · have rc := eqO_rc ne co ET hr (d := 0) (k := 6) (by omega) (eqO_sound co ET hr 6 1 (by omega)) (t := true) Blw.top I r1 r2 q1 q2 hq
          rw [cmp_rc]
          refine wpAny_mono rc (fun w s' q => ?_) fun _ _ z => z
          obtain ⟨rfl, H', I', ex⟩ := q
          exact go I' ex p
        · have rc := eqO_rc ne co ET hr (d := 0) (k := 6) (by omega) (eqO_sound co ET hr 6 1 (by omega)) (t := false) Blw.top I r1 r2 q1 q2 hq
          rw [cmp_rc]
          refine wpAny_mono rc (fun w s' q => ?_) fun _ _ z => z
          obtain ⟨rfl, H', I', ex⟩ := q
          exact go I' ex p
        · cases hq
    · split at p
      · rename_i u v
        have eu : viewD (.d u) ah = some u := rfl
        have ev : viewD (.d v) ah = some v := rfl
        cases hi : insE T call u v with
        | none => rw [hi] at p; exact p.elim
        | some r =>
          rw [hi] at p
          have rc := insE_rc co ET (hr.mono (by omega)) rfl I (view_dr eu h1 ra) (view_dr ev h1 rb) q1 q2 hi
          refine wpAny_mono (show wpAny (model X.prog X.w) X.A (compareOp .Eq u1 u2) _ X.xe s from rc) (fun w s' q => ?_) fun _ _ z => z
          obtain ⟨rfl, H', I', ex⟩ := q
          exact go I' ex p
      · exact p.elim
  · exact p.elim
theorem eqoE_sound (co : CallOk X.prog X.w X.K X.mg X.base ct fns call n) (ET : EqT X ct fns T) (hr : Room (2 * n + 1) X.A) : OpR X (compareOp .Eq) (rOp X.K ct (oEqO false T call)) := eqo_sound false co ET hr
theorem eqoN_sound (co : CallOk X.prog X.w X.K X.mg X.base ct fns call n) (ET : EqT X ct fns T) (hr : Room (2 * n + 1) X.A) : OpR X (compareOp .NotEq) (rOp X.K ct (oEqO true T call)) := eqo_sound true co ET hr
end
end Mi

/-! Mi16: tuples and texts repeated, orders of texts, all, any, a sign in a text -/
namespace Mi
open PySem PySem.Spec L2

/-! ### tuple * int: the same object, none -/
theorem tmul_same (l : Addr) (p : Array Value) (n : Nat) (dd : Option Addr) (sl : Array (Option Value)) (x : Int) (u : Tok) (c0 : (decide (x < -(2 ^ 63)) || decide (x ≥ 2 ^ 63)) = false) (c1 : (p.isEmpty || x == 1) = true) :
    Meets (Builtin.«tuple.__mul__» ⟨[.ref l, .int x u], []⟩) (fun _ R s => s.heap.get? l = some { cls := .type "tuple", dict := dd, data := .seq p n, slots := sl } ∧ R (.ok (.ret (Value.ref l))) s) :=
  .of_wp fun prog w A R s h => by
    obtain ⟨hp, g, d, tk, os⟩ := s
    obtain ⟨hl, h⟩ := h
    have f1 := AutoSeq1.idx_int
    wp_walk using AutoSeq1.wpAny_loadPart' hl
    refine wpAny_ite_false (decide_eq_false (by rw [c0]; exact Bool.false_ne_true)) ?_
    wp_walk using AutoSeq1.wpAny_loadPart' hl
    exact ⟨_, rfl, h⟩
theorem tmul_none (l : Addr) (p : Array Value) (n : Nat) (dd : Option Addr) (sl : Array (Option Value)) (x : Int) (u : Tok) (c0 : (decide (x < -(2 ^ 63)) || decide (x ≥ 2 ^ 63)) = false) (c1 : (p.isEmpty || x == 1) = false) (c2 : (decide (x ≤ 0) || p.isEmpty) = true) :
    Meets (Builtin.«tuple.__mul__» ⟨[.ref l, .int x u], []⟩) (fun _ R s => s.heap.get? l = some { cls := .type "tuple", dict := dd, data := .seq p n, slots := sl } ∧
      R (.ok (.ret (Value.ref s.heap.objs.size))) { s with heap := s.heap.push { cls := Value.type "tuple", data := Data.seq #[] }, toks := s.toks }) :=
  .of_wp fun prog w A R s h => by
    obtain ⟨hp, g, d, tk, os⟩ := s
    obtain ⟨hl, h⟩ := h
    have f1 := AutoSeq1.idx_int
    wp_walk using AutoSeq1.wpAny_loadPart' hl
    refine wpAny_ite_false (decide_eq_false (by rw [c0]; exact Bool.false_ne_true)) ?_
    wp_walk using AutoSeq1.wpAny_loadPart' hl
    exact ⟨_, rfl, h⟩
def rRepM (K : PySem.W.Frag) : R2 := fun x y H Q => ∃ l k xs, x = .ref l ∧ y = .int k ∧ SqT K H l xs ∧ -1000 ≤ k ∧ k ≤ 1000 ∧ xs.length ≤ 1000 ∧ ((xs = [] ∨ k = 1) → Q (.ref l) H) ∧ (xs ≠ [] → k ≠ 1 → ∀ p, H p = none → Q (.ref p) (upd H p (.tup (List.replicate k.toNat xs).flatten)))
theorem op_repM {X : Cx} : OpR X (binaryOp .Mult) (rRepM X.K) := by
  intro pins s σ H x y v u Q I rx ry h
  obtain ⟨l, k, xs, rfl, rfl, hT, h1, h2, hz, q1, q2⟩ := h
  by_cases hs : xs = [] ∨ k = 1
  · cases rx
    obtain ⟨t, rfl⟩ := ry
    obtain ⟨its, r, ⟨⟨cls, dd, data, sl⟩, ho, hc, n, hd⟩, hss⟩ := I.tuple hT
    simp only at hc hd
    subst hc hd
    have c0 : (decide (k < -(2 ^ 63)) || decide (k ≥ 2 ^ 63)) = false := by
      rw [decide_eq_false (by omega), decide_eq_false (by omega)]; rfl
    have c1 : (its.toArray.isEmpty || k == 1) = true := by
      rcases hs with rfl | rfl
      · cases r; rfl
      · simp
    refine wpAny_binaryOp_repeat_ref (T := "tuple") (U := "int") (by decide) ⟨_, ho, rfl⟩ (fun s' => typeIs_int s' k t) noFill_tuple_mul F.fills_int_mul F.slot_int_rmul repeat_tuple F.slot_int_index.lookup
      (call_meets F.slot_int_rmul (typeIs_int s k t) F.entry_int_rmul (F.args_int_rmul_2 _ _) (int_rmul_tuple k t l its.toArray n dd sl)
        ⟨ho, rfl, ⟨_, ho, rfl⟩, call_meets F.slot_tuple_mul ⟨_, ho, rfl⟩ F.entry_tuple_mul (F.args_tuple_mul_2 _ _) (tmul_same l its.toArray n dd sl k t c0 c1) ⟨ho, ?_⟩⟩)
    exact ⟨.ref l, H, I, rfl, q1 hs⟩
  · have hne : xs ≠ [] := fun e => hs (.inl e)
    have hk1 : k ≠ 1 := fun e => hs (.inr e)
    by_cases h3 : 2 ≤ k
    · exact op_repT pins s σ H _ _ v u Q I rx ry ⟨l, k, xs, rfl, rfl, hT, hne, h3, h2, hz, q2 hne hk1⟩
    · cases rx
      obtain ⟨t, rfl⟩ := ry
      obtain ⟨its, r, ⟨⟨cls, dd, data, sl⟩, ho, hc, n, hd⟩, hss⟩ := I.tuple hT
      simp only at hc hd
      subst hc hd
      have c0 : (decide (k < -(2 ^ 63)) || decide (k ≥ 2 ^ 63)) = false := by
        rw [decide_eq_false (by omega), decide_eq_false (by omega)]; rfl
      have hi : its.toArray.isEmpty = false := by
        cases its with
        | nil => cases r; exact absurd rfl hne
        | cons a b => rfl
      have c1 : (its.toArray.isEmpty || k == 1) = false := by
        rw [hi, Bool.false_or]; exact beq_eq_false_iff_ne.mpr hk1
      have c2 : (decide (k ≤ 0) || its.toArray.isEmpty) = true := by
        rw [decide_eq_true (by omega)]; rfl
      have e0 : k.toNat = 0 := by omega
      have q := q2 hne hk1
      rw [e0, List.replicate_zero, List.flatten_nil] at q
      refine wpAny_binaryOp_repeat_ref (T := "tuple") (U := "int") (by decide) ⟨_, ho, rfl⟩ (fun s' => typeIs_int s' k t) noFill_tuple_mul F.fills_int_mul F.slot_int_rmul repeat_tuple F.slot_int_index.lookup
        (call_meets F.slot_int_rmul (typeIs_int s k t) F.entry_int_rmul (F.args_int_rmul_2 _ _) (int_rmul_tuple k t l its.toArray n dd sl)
          ⟨ho, rfl, ⟨_, ho, rfl⟩, call_meets F.slot_tuple_mul ⟨_, ho, rfl⟩ F.entry_tuple_mul (F.args_tuple_mul_2 _ _) (tmul_none l its.toArray n dd sl k t c0 c1 c2) ⟨ho, ?_⟩⟩)
      refine ⟨.ref s.heap.objs.size, _, I.laid (t' := s.toks) (o := .tup []) (fun b ob q => Heap.get?_push_of_some _ q) (Nat.le_refl _) ?_, rfl, q _ (I.hok.fresh (Nat.le_refl _))⟩
      exact ⟨Nat.zero_le _, [], .nil, PyProof.Rows.IsTup.new _ _⟩
/-- text * int -/
def rRepS : R2 := fun x y H Q => ∃ (z : Str) (k : Int), x = .str z ∧ y = .int k ∧ 0 ≤ k ∧ k ≤ 1000 ∧ z.length ≤ 1000 ∧ Q (.str ⟨(List.replicate k.toNat z.cps.toList).flatten.toArray⟩) H
theorem fold_rep (p : Array Nat) : ∀ (m : Nat) (acc : Array Nat), (List.replicate m p).foldl (· ++ ·) acc = (acc.toList ++ (List.replicate m p.toList).flatten).toArray
  | 0, acc => by simp
  | m + 1, acc => by
    rw [List.replicate_succ, List.foldl_cons, fold_rep p m, List.replicate_succ, List.flatten_cons]
    simp
theorem op_repS {X : Cx} : OpR X (binaryOp .Mult) rRepS := by
  intro pins s σ H x y v u Q I rx ry h
  obtain ⟨z, k, rfl, rfl, h1, h2, hz, q⟩ := h
  obtain ⟨t, rfl⟩ := rx
  obtain ⟨t2, rfl⟩ := ry
  have lz : z.length = z.cps.size := rfl
  have bnd : z.length * k.toNat ≤ 1000000 := by
    have a1 : z.length * k.toNat ≤ 1000 * 1000 := Nat.mul_le_mul hz (by omega)
    omega
  have e : ((List.replicate k.toNat z.cps).foldl (· ++ ·) #[]) = (List.replicate k.toNat z.cps.toList).flatten.toArray := by
    rw [fold_rep]; simp
  have ln : (List.replicate k.toNat z.cps.toList).flatten.length = z.length * k.toNat := by
    rw [PyProof.Rows.lm_len_rep_flat, lz, Nat.mul_comm]; rfl
  refine PySem.P.mul_str (by rw [decide_eq_false (by omega), decide_eq_false (by omega)]; rfl) (fun g1 _ => ?_) (fun _ _ => ?_) ?_
  · have hk : (0 : Int) < k := by omega
    have : (z.length : Int) ≤ (2 ^ 63 - 1) / k := by
      rw [Int.le_ediv_iff_mul_le hk]
      have a2 : (z.length : Int) * k = ((z.length * k.toNat : Nat) : Int) := by rw [Int.natCast_mul, Int.toNat_of_nonneg h1]
      rw [a2]; omega
    omega
  · unfold PySem.Builtin.Str.tooLong
    rw [sizeLine_eq]
    exact decide_eq_false (by omega)
  · have fin : ∀ (y : Str) (tk t' : Nat), y = ⟨(List.replicate k.toNat z.cps.toList).flatten.toArray⟩ → EP X pins σ Q (.str y tk) { s with toks := t' } := fun y tk t' e => by
      subst e
      exact ⟨.str _, H, I.tok t', ⟨tk, rfl⟩, q⟩
    by_cases g1 : k < 1
    · rw [if_pos g1]
      have e0 : k.toNat = 0 := by omega
      refine ⟨by decide, fin _ _ _ ?_⟩
      rw [e0]; rfl
    · rw [if_neg g1]
      by_cases g2 : (k == 1 || z.length == 0) = true
      · rw [if_pos g2]
        refine fin z t s.toks ?_
        rcases Bool.or_eq_true_iff.mp g2 with g | g
        · rw [beq_iff_eq.mp g]; simp
        · have : z.cps = #[] := Array.eq_empty_of_size_eq_zero (by rw [← lz]; exact beq_iff_eq.mp g)
          obtain ⟨c⟩ := z
          simp only at this
          subst this
          simp
      · rw [if_neg g2, e]
        refine ⟨?_, fin _ _ _ rfl⟩
        show (List.replicate k.toNat z.cps.toList).flatten.toArray.size ≤ _
        rw [List.size_toArray, ln, sizeLine_eq]
        omega

/-! ### the operators -/
def oMulT : Op2 := fun x y h => match x, y with
  | .d (.tup xs), .d (.int k) => if decide (-1000 ≤ k) && (decide (k ≤ 1000) && Nat.ble xs.length 1000) then some (.d (.tup (List.replicate k.toNat xs).flatten), h) else none
  | .d (.str z), .d (.int k) => if decide (0 ≤ k) && (decide (k ≤ 1000) && Nat.ble z.length 1000) then some (.d (.str ⟨(List.replicate k.toNat z.cps.toList).flatten.toArray⟩), h) else none
  | _, _ => none
section
variable {X : Cx} {ct : CT} {W : WX}
theorem rep_drs {K : PySem.W.Frag} {S : Addr → Prop} {H : Hp} {xs : List D} {vs : List V} (r : DRs K ct S H xs vs) : ∀ n : Nat, DRs K ct S H (List.replicate n xs).flatten (List.replicate n vs).flatten
  | 0 => .nil
  | n + 1 => by
    rw [List.replicate_succ, List.replicate_succ, List.flatten_cons, List.flatten_cons]
    exact r.append (rep_drs r n)
theorem mulT_sound : OpR X (binaryOp .Mult) (rOp X.K ct oMulT) := by
  refine OpR.imp (op_repM.or op_repS) fun x y H Q ⟨m, ah, a, b, hr, ra, rb, p⟩ => ?_
  unfold oMulT at p
  split at p
  · rename_i xs k
    cases rb
    split at p
    · rename_i hc
      simp only [Bool.and_eq_true, decide_eq_true_eq] at hc
      obtain ⟨l, vs, rfl, h1, r1⟩ := tup_of ra
      refine .inl ⟨l, k, vs, rfl, rfl, h1, hc.1, hc.2.1, by rw [← r1.length]; exact Nat.le_of_ble_eq_true hc.2.2, fun hs => ?_, fun _ _ => p.new hr fun a ha kp s => new_tup (rep_drs r1 _) kp s⟩
      refine p.same hr ?_
      rcases hs with rfl | rfl
      · cases r1
        have : (List.replicate k.toNat ([] : List D)).flatten = [] := by simp
        rw [this]; exact ra
      · have : (List.replicate (Int.toNat 1) xs).flatten = xs := by simp
        rw [this]; exact ra
    · exact p.elim
  · cases ra; cases rb
    split at p
    · rename_i hc
      simp only [Bool.and_eq_true, decide_eq_true_eq] at hc
      exact .inr ⟨_, _, rfl, rfl, hc.1, hc.2.1, Nat.le_of_ble_eq_true hc.2.2, p.same hr (.str _)⟩
    · exact p.elim
  · exact p.elim
/-- texts by their order -/
def oS (g : List Nat → List Nat → Bool) : Op2 := fun x y h => match x, y with
  | .d (.str a), .d (.str b) => some (.d (.bl (g a.cps.toList b.cps.toList)), h)
  | _, _ => none
theorem oS_sound {op : CmpOp} {g : List Nat → List Nat → Bool} (ho : OpR X (compareOp op) (fun x y H Q => ∃ i j, x = .str i ∧ y = .str j ∧ Q (.bl (g i.cps.toList j.cps.toList)) H)) : OpR X (compareOp op) (rOp X.K ct (oS g)) :=
  OpR.imp ho fun x y H Q ⟨m, ah, a, b, hr, ra, rb, p⟩ => by
    unfold oS at p
    split at p
    · cases ra; cases rb; exact ⟨_, _, rfl, rfl, p.same hr (.bl _)⟩
    · exact p.elim
def oLeS : Op2 := oS fun i j => !decide (j < i)
def oGtS : Op2 := oS fun i j => decide (j < i)
def oGeS : Op2 := oS fun i j => !decide (i < j)
theorem leS_sound : OpR X (compareOp .LtE) (rOp X.K ct oLeS) := oS_sound op_le_str
theorem gtS_sound : OpR X (compareOp .Gt) (rOp X.K ct oGtS) := oS_sound op_gt_str
theorem geS_sound : OpR X (compareOp .GtE) (rOp X.K ct oGeS) := oS_sound op_ge_str
/-- one sign in a text -/
def oInC (neg : Bool) : Op2 := fun x y h => match x, y with
  | .d (.str a), .d (.str z) => (match a.cps.toList with
    | [c] => some (.d (.bl (if neg then !decide (c ∈ z.cps.toList) else decide (c ∈ z.cps.toList))), h)
    | _ => none)
  | _, _ => none
theorem str_one {a : Str} {c : Nat} (h : a.cps.toList = [c]) : a = ⟨#[c]⟩ := by
  obtain ⟨⟨l⟩⟩ := a
  simp only at h
  subst h; rfl
theorem inC_sound : OpR X (compareOp .In) (rOp X.K ct (oInC false)) := OpR.imp op_in_sign fun x y H Q ⟨m, ah, a, b, hr, ra, rb, p⟩ => by
  unfold oInC at p
  split at p
  · split at p
    · rename_i e
      cases ra; cases rb; exact ⟨_, _, congrArg V.str (str_one e), rfl, p.same hr (.bl _)⟩
    · exact p.elim
  · exact p.elim
theorem notInC_sound : OpR X (compareOp .NotIn) (rOp X.K ct (oInC true)) := OpR.imp op_notIn_sign fun x y H Q ⟨m, ah, a, b, hr, ra, rb, p⟩ => by
  unfold oInC at p
  split at p
  · split at p
    · rename_i e
      cases ra; cases rb; exact ⟨_, _, congrArg V.str (str_one e), rfl, p.same hr (.bl _)⟩
    · exact p.elim
  · exact p.elim
/-- flat things of one kind -/
def scF : D → D → Bool
  | .non, .non => true | .bl _, .bl _ => true | .int _, .int _ => true | .str _, .str _ => true
  | .non, .str _ => true | .str _, .non => true | .non, .int _ => true | .int _, .non => true | .non, .bl _ => true | .bl _, .non => true
  | .int _, .str _ => true | .str _, .int _ => true | .bl _, .str _ => true | .str _, .bl _ => true
  | _, _ => false
def oEqF (ne : Bool) : Op2 := fun x y h => match x, y with
  | .d a, .d b => if scF a b = true then some (.d (.bl (if ne then !eqF a b else eqF a b)), h) else none
  | _, _ => none
theorem scF_of {K : PySem.W.Frag} {S : Addr → Prop} {H : Hp} {a b : D} {x y : V} (h : scF a b = true) (ra : DR K ct S H a x) (rb : DR K ct S H b y) : scal x y = true ∧ decide (x = y) = eqF a b := by
  cases ra <;> cases rb <;> first | (cases h; done) | (refine ⟨rfl, ?_⟩; simp [eqF, Bool.beq_eq_decide_eq])
theorem eqF_sound : OpR X (compareOp .Eq) (rOp X.K ct (oEqF false)) := OpR.imp op_eq fun x y H Q ⟨m, ah, a, b, hr, ra, rb, p⟩ => by
  unfold oEqF at p
  split at p
  · split at p
    · rename_i hs
      obtain ⟨h1, h2⟩ := scF_of hs ra rb
      refine ⟨h1, ?_⟩
      rw [h2]
      exact p.same hr (.bl _)
    · exact p.elim
  · exact p.elim
theorem neF_sound : OpR X (compareOp .NotEq) (rOp X.K ct (oEqF true)) := OpR.imp op_ne fun x y H Q ⟨m, ah, a, b, hr, ra, rb, p⟩ => by
  unfold oEqF at p
  split at p
  · split at p
    · rename_i hs
      obtain ⟨h1, h2⟩ := scF_of hs ra rb
      refine ⟨h1, ?_⟩
      rw [h2]
      exact p.same hr (.bl _)
    · exact p.elim
  · exact p.elim
/-! ### all, any of a list of truths -/
def bls : List D → Option (List Bool)
  | [] => some []
  | .bl b :: xs => (bls xs).map (b :: ·)
  | _ :: _ => none
theorem bls_of {K : PySem.W.Frag} {S : Addr → Prop} {H : Hp} : ∀ {xs : List D} {vs : List V} {bs : List Bool}, DRs K ct S H xs vs → bls xs = some bs → vs = bs.map V.bl
  | _, _, _, .nil, h => by cases h; rfl
  | _, _, _, .cons (d := d) r t, h => by
    cases r <;> first | (cases h; done) | skip
    rename_i b
    unfold bls at h
    cases q : bls _ with
    | none => rw [q] at h; cases h
    | some l =>
      rw [q] at h
      cases h
      rw [bls_of t q]; rfl
def nBs (g : List Bool → Bool) : OpN := fun xs h => match xs with
  | [x] => (match lstOf x h with
    | some ys => (bls ys).map fun bs => (.d (.bl (g bs)), h)
    | none => none)
  | _ => none
theorem nBs_sound {id : String} {g : List Bool → Bool} (hc : CallR X (.builtin id) (fun vs H Q => ∃ (a : Addr) (bs : List Bool), vs = [V.ref a] ∧ SqL X.K H a (bs.map V.bl) ∧ Q (.bl (g bs)) H)) : CallR X (.builtin id) (rN X.K ct (nBs g)) := by
  refine CallR.imp hc fun vs H Q ⟨m, ah, xs, hr, rs, p⟩ => ?_
  unfold nBs at p
  split at p
  · cases rs with
    | cons r t =>
      cases t
      split at p
      · rename_i ys e
        obtain ⟨a, ws, rfl, h1, r1⟩ := lst_of hr e r
        cases q : bls ys with
        | none => rw [q] at p; exact p.elim
        | some bs =>
          rw [q] at p
          have ew := bls_of r1 q
          subst ew
          exact ⟨a, bs, rfl, .of h1, p.same hr (.bl _)⟩
      · exact p.elim
  · exact p.elim
def nAll : OpN := nBs fun bs => bs.all id
def nAny : OpN := nBs fun bs => bs.any id
theorem all_sound (hc : X.calm = true) : CallR X (.builtin "all") (rN X.K ct nAll) := nBs_sound (cr_all hc)
theorem any_sound (hc : X.calm = true) : CallR X (.builtin "any") (rN X.K ct nAny) := nBs_sound (cr_any hc)
/-! ### try that runs through -/
end
section
variable {X : Cx} {ct : CT} {W : WX} {pos : Pos} {body : List Stmt} {h0 : ExceptHandler} {hs : List ExceptHandler} {u : SemS}
/-- no exception leaves -/
def sThru (f : SemS) : SemS := fun σ h => match f σ h with
  | .exc _ _ _ => .bad
  | r => r
theorem ss_thru (hb : SSs X.nox ct W0 body u) : SS X ct W (.Try body (h0 :: hs) [] [] pos) (sThru u) := PS.imp (ps_try_thru0 hb) fun D σV H ⟨m, ah, σ, hr, lr, p⟩ => by
  refine ⟨m, ah, σ, hr, lr, ?_⟩
  unfold sThru at p
  cases e : u σ ah with
  | ok f σ' h' => rw [e] at p; exact p
  | exc x σ' h' => rw [e] at p; exact p.elim
  | bad => rw [e] at p; exact p.elim
end
end Mi

/-! Mi17: facts of many classes at once -/
namespace Mi
open PySem PySem.Spec L2
/-- own classes told apart by isinstance, built-in ones denied -/
def isiT (ok : List Nat) (bt : List String) (C : Nat) : List (Ty × Bool) := ok.map (fun E => (Ty.c E, E == C)) ++ bt.map fun s => (Ty.b s, false)
theorem IsiOk.mapC {K : PySem.W.Frag} {ct : CT} {u : Value} {g : Nat → Bool} {l : List (Ty × Bool)} (h : IsiOk K ct u l) : ∀ {ok : List Nat}, (∀ E ∈ ok, PySem.W.kitOne K (.ref (ct.ca E)) u = some (g E) ∧ IsiC K (ct.ca E)) → IsiOk K ct u (ok.map (fun E => (Ty.c E, g E)) ++ l)
  | [], _ => h
  | E :: ok, q => .consC (q E List.mem_cons_self).1 (q E List.mem_cons_self).2 (IsiOk.mapC h fun E' hE => q E' (List.mem_cons_of_mem _ hE))
theorem IsiOk.mapB {K : PySem.W.Frag} {ct : CT} {u : Value} : ∀ {bt : List String}, (∀ s ∈ bt, PySem.W.kitOne K (.type s) u = some false) → IsiOk K ct u (bt.map fun s => (Ty.b s, false))
  | [], _ => .nil
  | E :: ok, q => .consB (q E List.mem_cons_self) (IsiOk.mapB fun E' hE => q E' (List.mem_cons_of_mem _ hE))
theorem isiT_ok {K : PySem.W.Frag} {ct : CT} {cn : List Str} {ok : List Nat} {bt : List String} {cs : List Nat} {C : Nat} (hca : ∀ C, ct.ca C = cga K cn C) (hc : ∀ E ∈ ok, Cls K (ct.ca E)) (h1 : isiAllB K cn ok = true) (h2 : kitAllB K cn ok bt cs = true) (hC : C ∈ cs) : IsiOk K ct (.ref (ct.ca C)) (isiT ok bt C) := by
  have k := List.all_eq_true.mp h2 C hC
  have k1 := Bool.and_eq_true_iff.mp k
  rw [hca]
  refine IsiOk.mapC (.mapB fun s hs => kitA_ok (List.all_eq_true.mp k1.2 s hs)) fun E hE => ?_
  have h3 := List.all_eq_true.mp h1 E hE
  rw [← hca] at h3
  refine ⟨?_, isiB_ok (hc E hE) h3⟩
  rw [hca]
  exact kitA_ok (List.all_eq_true.mp k1.1 E hE)
/-- one class with an own __eq__ -/
structure EqC (X : Cx) (ct : CT) (fns : List Fn) (C i : Nat) : Prop where
  ex : ∃ F, fns[i]? = some F ∧ Meth X.K (ct.ca C) "__eq__" F.f ∧ FnI X.K F
theorem EqC.mk' {X : Cx} {ct : CT} {fns : List Fn} {C i : Nat} {F : Fn} (h : fns[i]? = some F) (m : Meth X.K (ct.ca C) "__eq__" F.f) (f : FnI X.K F) : EqC X ct fns C i := ⟨⟨F, h, m, f⟩⟩
inductive EqCs (X : Cx) (ct : CT) (fns : List Fn) : List (Nat × Nat) → Prop
  | nil : EqCs X ct fns []
  | cons {C i l} : EqC X ct fns C i → EqCs X ct fns l → EqCs X ct fns ((C, i) :: l)
theorem EqCs.at_ {X : Cx} {ct : CT} {fns : List Fn} {C i : Nat} : ∀ {l : List (Nat × Nat)}, EqCs X ct fns l → l.lookup C = some i → EqC X ct fns C i ∧ C ∈ l.map (·.1)
  | _, .nil, h => by cases h
  | _, .cons (C := C') (i := i') h t, e => by
    by_cases q : C = C'
    · subst q
      simp only [List.lookup, beq_self_eq_true] at e
      cases e
      exact ⟨h, List.mem_cons_self⟩
    · have b : (C == C') = false := beq_eq_false_iff_ne.mpr q
      simp only [List.lookup, b] at e
      exact ⟨(t.at_ e).1, List.mem_cons_of_mem _ (t.at_ e).2⟩
theorem EqCs.tab {X : Cx} {ct : CT} {fns : List Fn} {cn : List Str} {T : List (Nat × Nat)} (h : EqCs X ct fns T) (hca : ∀ C, ct.ca C = cga X.K cn C) (hn : nfAllB X.K cn (T.map (·.1)) = true) : EqT X ct fns T where
  own C i e := by
    obtain ⟨F, h1, h2, h3⟩ := (h.at_ e).1.ex
    exact ⟨F, h1, h2.at_, h2.fn, h3.bi⟩
  two C i C' i' e e' := by
    rw [hca, hca]
    exact List.all_eq_true.mp (List.all_eq_true.mp hn C (h.at_ e).2) C' (h.at_ e').2
/-- a number, a text of the module -/
theorem se_gI {X : Cx} {ct : CT} {W : WX} {pos : Pos} {x : Str} {i : Int} (hg : Gl X x) (hm : ∃ t, X.mg x = some (.int i t)) (hd : (x == ("__debug__" : Str)) = false := by decide) : SE X ct W (.Name x pos) (eK (.int i)) :=
  let ⟨_, h⟩ := hm; se_globI hg h hd
theorem se_gS {X : Cx} {ct : CT} {W : WX} {pos : Pos} {x : Str} {i : Str} (hg : Gl X x) (hm : ∃ t, X.mg x = some (.str i t)) (hd : (x == ("__debug__" : Str)) = false := by decide) : SE X ct W (.Name x pos) (eK (.str i)) :=
  let ⟨_, h⟩ := hm; se_globS hg h hd
end Mi

/-! Mi18: the head's own hook for many classes: each object is met once -/
namespace Mi
open PySem PySem.Spec L2
end Mi

/-! Mi19: drawn numbers, for any law; the further operators at work -/
namespace Mi
open PySem PySem.Spec
section
variable {h : Hs}
@[simp] theorem o_eqF_int (ne : Bool) (i j : Int) : oEqF ne (.d (.int i)) (.d (.int j)) h = some (.d (.bl (if ne then !(i == j) else i == j)), h) := rfl
@[simp] theorem o_eqF_str (ne : Bool) (i j : Str) : oEqF ne (.d (.str i)) (.d (.str j)) h = some (.d (.bl (if ne then !(i == j) else i == j)), h) := rfl
@[simp] theorem o_eqF_bl (ne : Bool) (i j : Bool) : oEqF ne (.d (.bl i)) (.d (.bl j)) h = some (.d (.bl (if ne then !(i == j) else i == j)), h) := rfl
@[simp] theorem ap_thru {σ : Lo} (f : SemS) : sThru f σ h = match f σ h with
  | .exc _ _ _ => .bad
  | r => r := rfl
end
/-- == of two data -/
def eqD2 (T : List (Nat × Nat)) (call : CallT) (x y : D) : Option Bool := match eqTop T call x y with
  | some r => some r
  | none => insE T call x y
theorem o_eqO {T : List (Nat × Nat)} {call : CallT} {x y : D} {b : Bool} (h : Hs) (e : eqD2 T call x y = some b) : oEqO false T call (.d x) (.d y) h = some (.d (.bl b), h) := by
  unfold eqD2 at e
  unfold oEqO
  dsimp only [viewD]
  cases q : eqTop T call x y with
  | some r => rw [q] at e; cases e; rfl
  | none => rw [q] at e; dsimp only at e ⊢; rw [e]; rfl
theorem o_neO {T : List (Nat × Nat)} {call : CallT} {x y : Vl} {d e : D} {b : Bool} (h : Hs) (hx : viewD x h = some d) (hy : viewD y h = some e) (q : eqTop T call d e = some b) : oEqO true T call x y h = some (.d (.bl (!b)), h) := by
  unfold oEqO
  rw [hx, hy]
  dsimp only
  rw [q]; rfl
def takeB (call : CallT) : SemS := (sSq (sIf (tBl (eBin (oEqF false) (eBin oIx (eVar 0) (eK (.int 2))) (eK (.int 0))))
      (sSq (sAs (eK (.int 0)) (gNm 2))
      (sSq (sIf (tBl (eBin oLt (eBin oIx (eVar 0) (eK (.int 1))) (eN nLen (aCons (eBin oIx (eVar 0) (eK (.int 0))) aNil))))
      (sAs (eBin oIx (eBin oIx (eVar 0) (eK (.int 0))) (eBin oIx (eVar 0) (eK (.int 1)))) (gNm 2))
      sNil)
      (sSq (sAs (eBin oAdd (eBin oIx (eVar 0) (eK (.int 1))) (eK (.int 1))) (gSt (eVar 0) (eK (.int 1))))
      (sIf (tBl (eBin oGe (eVar 2) (eBin oPow (eK (.int 10)) (eK (.int 18)))))
      (sAs (eVar 2) (gSt (eVar 0) (eK (.int 2))))
      (sSq (sAs (eBin oMod (eN nInt (aCons (eBin oAdd (eBin oAdd (eBin oAdd (eBin oMulI (eBin oIx (eVar 0) (eK (.int 3))) (eK (.int 69621))) (eBin oMulI (eBin oMod (eN nInt (aCons (eVar 2) aNil)) (eK (.int 2147483629))) (eK (.int 48271)))) (eBin oMulI (eBin oIx (eVar 0) (eK (.int 1))) (eK (.int 7919)))) (eK (.int 1))) aNil)) (eK (.int 2147483647))) (gNm 3))
      (sSq (sAs (eBin oMod (eN nInt (aCons (eBin oAdd (eBin oAdd (eBin oMulI (eVar 3) (eVar 3)) (eBin oMulI (eBin oIx (eVar 0) (eK (.int 1))) (eK (.int 104729)))) (eK (.int 13))) aNil)) (eK (.int 2147483629))) (gNm 3))
      (sSq (sAs (eVar 3) (gSt (eVar 0) (eK (.int 3))))
      (sRt (eBin oMod (eBin oDiv (eVar 3) (eK (.int 7))) (eVar 1))))))))))
      sNil)
      (sSq (sAs (eBin oMod (eN nInt (aCons (eBin oIx (eVar 0) (eK (.int 2))) aNil)) (eVar 1)) (gNm 4))
      (sSq (sAs (eBin oDiv (eBin oIx (eVar 0) (eK (.int 2))) (eVar 1)) (gSt (eVar 0) (eK (.int 2))))
      (sRt (eVar 4)))))
theorem atI_nat {α : Type} (xs : List α) (k : Nat) : L2.atI xs (k : Int) = xs[k]? := by
  unfold L2.atI L2.ixN
  by_cases h : k < xs.length
  · rw [if_pos (by omega), if_pos (by omega)]; simp
  · rw [if_pos (by omega), if_neg (by omega), List.getElem?_eq_none (by omega)]; rfl
theorem atI_back {α : Type} (xs : List α) (k : Nat) (h : k < xs.length) : L2.atI xs ((xs.length : Int) - 1 - (k : Int)) = xs.reverse[k]? := by
  rw [show (xs.length : Int) - 1 - (k : Int) = ((xs.length - 1 - k : Nat) : Int) by omega, atI_nat, List.getElem?_reverse h]
theorem cut_from {α : Type} (xs : List α) (k : Nat) : cutL xs (some (k : Int)) none = xs.drop k := by
  unfold cutL
  rw [HT.sIx_nat, HT.sIx_none]
  by_cases h : k ≤ xs.length
  · rw [Nat.min_eq_left h, List.take_of_length_le (by simp)]
  · rw [Nat.min_eq_right (by omega), List.drop_length, List.drop_eq_nil_of_le (by omega)]; simp
theorem cut_to {α : Type} (xs : List α) (k : Nat) : cutL xs none (some (k : Int)) = xs.take k := by
  unfold cutL
  rw [HT.sIx_nat, HT.sIx_none, List.drop_zero, Nat.sub_zero]
  by_cases h : k ≤ xs.length
  · rw [Nat.min_eq_left h]
  · rw [Nat.min_eq_right (by omega), List.take_length, List.take_of_length_le (by omega)]
/-! ### what both strippings do -/
def sF : List Int → List Int → List Int × List Int
  | x :: xs, y :: ys => if x = y then sF xs ys else (x :: xs, y :: ys)
  | xs, ys => (xs, ys)
def sB (l r : List Int) : List Int × List Int := ((sF (sF l r).1.reverse (sF l r).2.reverse).1.reverse, (sF (sF l r).1.reverse (sF l r).2.reverse).2.reverse)
theorem sF_nil_l (r : List Int) : sF [] r = ([], r) := by cases r <;> rfl
theorem sF_nil_r (l : List Int) : sF l [] = (l, []) := by cases l <;> rfl
theorem drop_cons {α : Type} {xs : List α} {k : Nat} {x : α} (e : xs[k]? = some x) : xs.drop k = x :: xs.drop (k + 1) := by
  obtain ⟨h, rfl⟩ := List.getElem?_eq_some_iff.mp e
  exact List.drop_eq_getElem_cons h
theorem map_get (l : List Int) (k : Nat) : (l.map D.int)[k]? = (l[k]?).map D.int := List.getElem?_map
theorem minI (a b : Nat) : (if (b : Int) < (a : Int) then (b : Int) else (a : Int)) = ((min a b : Nat) : Int) := by
  by_cases h : b < a
  · rw [if_pos (by omega), Nat.min_eq_right (by omega)]
  · rw [if_neg (by omega), Nat.min_eq_left (by omega)]
/-! ### drawn numbers -/
/-- the law's source of numbers, drawn from k times at most -/
def Src (k : Nat) (o : O) : Prop := ∃ (sc : List Int) (a : Nat) (b : Int) (c : Nat), o = .lst [.lv (sc.map D.int), .int (a : Int), .int b, .int (c : Int)] ∧ a ≤ k ∧ c < 2147483647
theorem Src.up {k m : Nat} {o : O} (h : Src k o) (hk : k ≤ m) : Src m o := by
  obtain ⟨sc, a, b, c, e, h1, h2⟩ := h
  exact ⟨sc, a, b, c, e, Nat.le_trans h1 hk, h2⟩
theorem cm {i j : Int} (h1 : i.natAbs < 2 ^ 200) (h2 : j.natAbs < 2 ^ 200) : cMulW i j = true := by
  unfold cMulW
  apply decide_eq_true
  have a : i.natAbs.log2 < 200 := by
    by_cases z : i.natAbs = 0
    · rw [z]; decide
    · exact (Nat.log2_lt z).mpr h1
  have b : j.natAbs.log2 < 200 := by
    by_cases z : j.natAbs = 0
    · rw [z]; decide
    · exact (Nat.log2_lt z).mpr h2
  omega
theorem cd {i j : Int} (h1 : 0 < j) (h2 : j.natAbs < 2 ^ 200) : cDivW i j = true := by
  unfold cDivW
  rw [Bool.and_eq_true, decide_eq_true_eq, decide_eq_true_eq]
  refine ⟨h1, ?_⟩
  have : j.natAbs.log2 < 200 := (Nat.log2_lt (by omega)).mpr h2
  omega
@[simp] theorem at0 {o : O} {t : Hs} : (o :: t)[0]? = some o := rfl
theorem e_take {defs : List MDef} {ix : Nat} (hd : defs[ix]? = some ⟨2, 5, false, takeB⟩) (n k : Nat) (hk : k < 1000000) {src : O} (hs : Src k src) (M : Nat) (hM : 0 < M) (hM2 : M < 2 ^ 180) (t : Hs) : ∃ v : Nat, v < M ∧ ∃ src', Src (k + 1) src' ∧ callF defs (n + 1) ix [.r 0, .d (.int (M : Int))] (src :: t) = .ok (.d (.int (v : Int))) (src' :: t) := by
  obtain ⟨sc, a, b, c, rfl, ha, hc⟩ := hs
  rw [callF_at (md := ⟨2, 5, false, takeB⟩) hd rfl]
  have dsh : ∀ (σ : Lo) (h : Hs), (⟨2, 5, false, takeB⟩ : MDef).body (callF defs n) σ h = takeB (callF defs n) σ h := fun _ _ => rfl
  have x0 : ∀ w x y z : D, L2.atI [w, x, y, z] 0 = some w := fun _ _ _ _ => rfl
  have x1 : ∀ w x y z : D, L2.atI [w, x, y, z] 1 = some x := fun _ _ _ _ => rfl
  have x2 : ∀ w x y z : D, L2.atI [w, x, y, z] 2 = some y := fun _ _ _ _ => rfl
  have x3 : ∀ w x y z : D, L2.atI [w, x, y, z] 3 = some z := fun _ _ _ _ => rfl
  have i1 : L2.ixN 4 1 = some 1 := rfl
  have i2 : L2.ixN 4 2 = some 2 := rfl
  have i3 : L2.ixN 4 3 = some 3 := rfl
  have rI : ∀ (xs : List D) (t : Hs) (i : Int), oIx (.r 0) (.d (.int i)) (.lst xs :: t) = (L2.atI xs i).map fun d => (.d d, .lst xs :: t) := fun xs t i => o_ixR rfl i
  have hMI : (0 : Int) < (M : Int) := by omega
  have dM : ∀ i : Int, cDivW i (M : Int) = true := fun i => cd hMI (by omega)
  have md : ∀ i : Int, ∃ v : Nat, v < M ∧ i % (M : Int) = (v : Int) := fun i => ⟨(i % (M : Int)).toNat, by
    have h1 := Int.emod_nonneg i (show (M : Int) ≠ 0 by omega)
    have h2 := Int.emod_lt_of_pos i hMI
    omega, by
    have h1 := Int.emod_nonneg i (show (M : Int) ≠ 0 by omega)
    omega⟩
  have pw : ∀ h : Hs, oPow (.d (.int 10)) (.d (.int 18)) h = some (.d (.int 1000000000000000000), h) := fun h => by
    rw [o_pow, show cPow 10 18 = true by decide +kernel]; rfl
  have d7 : ∀ i : Int, cDivW i 7 = true := fun i => cd (by omega) (by decide)
  by_cases hb : b = 0
  · subst hb
    have mix : ∀ cell : Int, ∃ c1 : Nat, c1 < 2147483647 ∧ ((c : Int) * 69621 + cell % 2147483629 * 48271 + ((a : Int) + 1) * 7919 + 1) % 2147483647 = (c1 : Int) := fun cell => by
      have h1 := Int.emod_nonneg ((c : Int) * 69621 + cell % 2147483629 * 48271 + ((a : Int) + 1) * 7919 + 1) (show (2147483647 : Int) ≠ 0 by omega)
      have h2 := Int.emod_lt_of_pos ((c : Int) * 69621 + cell % 2147483629 * 48271 + ((a : Int) + 1) * 7919 + 1) (show (0 : Int) < 2147483647 by omega)
      generalize ((c : Int) * 69621 + cell % 2147483629 * 48271 + ((a : Int) + 1) * 7919 + 1) % 2147483647 = z at *
      exact ⟨z.toNat, by omega, by omega⟩
    have mix2 : ∀ c1 : Nat, ∃ c2 : Nat, c2 < 2147483647 ∧ ((c1 : Int) * (c1 : Int) + ((a : Int) + 1) * 104729 + 13) % 2147483629 = (c2 : Int) := fun c1 => by
      have h1 := Int.emod_nonneg ((c1 : Int) * (c1 : Int) + ((a : Int) + 1) * 104729 + 13) (show (2147483629 : Int) ≠ 0 by omega)
      have h2 := Int.emod_lt_of_pos ((c1 : Int) * (c1 : Int) + ((a : Int) + 1) * 104729 + 13) (show (0 : Int) < 2147483629 by omega)
      generalize ((c1 : Int) * (c1 : Int) + ((a : Int) + 1) * 104729 + 13) % 2147483629 = z at *
      exact ⟨z.toNat, by omega, by omega⟩
    have q1 : cMulW (c : Int) 69621 = true := cm (by omega) (by decide)
    have q2 : ∀ cell : Int, cMulW (cell % 2147483629) 48271 = true := fun cell => by
      have h1 := Int.emod_nonneg cell (show (2147483629 : Int) ≠ 0 by omega)
      have h2 := Int.emod_lt_of_pos cell (show (0 : Int) < 2147483629 by omega)
      generalize cell % 2147483629 = z at *
      exact cm (by omega) (by decide)
    have q3 : cMulW ((a : Int) + 1) 7919 = true := cm (by omega) (by decide)
    have q4 : cMulW ((a : Int) + 1) 104729 = true := cm (by omega) (by decide)
    have q5 : ∀ c1 : Nat, c1 < 2147483647 → cMulW (c1 : Int) (c1 : Int) = true := fun c1 h => cm (by omega) (by omega)
    by_cases hlt : a < sc.length
    · have hlt' : (a : Int) < (sc.length : Int) := by omega
      have g : L2.atI (sc.map D.int) (a : Int) = some (.int sc[a]) := by rw [atI_nat, map_get, List.getElem?_eq_getElem hlt]; rfl
      generalize sc[a] = cell at *
      by_cases hbig : 1000000000000000000 ≤ cell
      · obtain ⟨v, hv, ev⟩ := md cell
        refine ⟨v, hv, .lst [.lv (sc.map D.int), .int ((a + 1 : Nat) : Int), .int (cell / (M : Int)), .int (c : Int)], ⟨sc, a + 1, _, c, rfl, by omega, hc⟩, ?_⟩
        simp [startL, takeB, rI, x0, x1, x2, x3, i1, i2, i3, hlt', g, pw, hbig, hM, dM, ev]
      · obtain ⟨c1, hc1, e1⟩ := mix cell
        obtain ⟨c2, hc2, e2⟩ := mix2 c1
        obtain ⟨v, hv, ev⟩ := md ((c2 : Int) / 7)
        refine ⟨v, hv, .lst [.lv (sc.map D.int), .int ((a + 1 : Nat) : Int), .int 0, .int (c2 : Int)], ⟨sc, a + 1, 0, c2, rfl, by omega, hc2⟩, ?_⟩
        simp [startL, takeB, rI, x0, x1, x2, x3, i1, i2, i3, hlt', g, pw, hbig, hM, dM, d7, q1, q2, q3, q4, q5 c1 hc1, e1, e2, ev]
    · have hlt' : ¬ (a : Int) < (sc.length : Int) := by omega
      obtain ⟨c1, hc1, e1⟩ := mix 0
      obtain ⟨c2, hc2, e2⟩ := mix2 c1
      obtain ⟨v, hv, ev⟩ := md ((c2 : Int) / 7)
      refine ⟨v, hv, .lst [.lv (sc.map D.int), .int ((a + 1 : Nat) : Int), .int 0, .int (c2 : Int)], ⟨sc, a + 1, 0, c2, rfl, by omega, hc2⟩, ?_⟩
      have q20 := q2 0
      simp at e1 q20
      simp [startL, takeB, rI, x0, x1, x2, x3, i1, i2, i3, hlt', pw, hM, dM, d7, q1, q20, q3, q4, q5 c1 hc1, e1, e2, ev]
  · obtain ⟨v, hv, ev⟩ := md b
    refine ⟨v, hv, .lst [.lv (sc.map D.int), .int (a : Int), .int (b / (M : Int)), .int (c : Int)], ⟨sc, a, _, c, rfl, by omega, hc⟩, ?_⟩
    simp [startL, takeB, rI, x0, x1, x2, x3, i1, i2, i3, hb, hM, dM, ev]
end Mi
namespace Mi
open PySem PySem.Spec
theorem cmpL_draw {vs : List Nat} {g : SemG} {f : SemE} {σ : Lo} (cost K : Nat) (P : D → Prop) (t : Hs) : ∀ (ds : List D) (k : Nat) (src : O) (acc : List D),
    (∀ d ∈ ds, ∀ k src h', k + cost ≤ K → Src k src → ∃ σ1 y src', (∀ h, g (.d d) (wipeL σ vs) h = some (σ1, h)) ∧ P y ∧ Src (k + cost) src' ∧ f σ1 (src :: h') = .ok (.d y) (src' :: h')) →
    Src k src → k + cost * ds.length ≤ K → acc.length + ds.length < sizeLine →
    ∃ ys src', ys.length = ds.length ∧ (∀ y ∈ ys, P y) ∧ Src (k + cost * ds.length) src' ∧ cmpL vs g tYs f (t.length + 1) ds σ (src :: (t ++ [.lst acc])) = some (src' :: (t ++ [.lst (acc ++ ys)]))
  | [], k, src, acc, _, hs, _, _ => ⟨[], src, rfl, fun y hy => (by cases hy), hs.up (by simp), by simp [cmpL]⟩
  | d :: ds, k, src, acc, step, hs, hK, hz => by
    rw [List.length_cons, Nat.mul_succ] at hK
    rw [List.length_cons] at hz
    obtain ⟨σ1, y, src1, e1, py, s1, e2⟩ := step d List.mem_cons_self k src (t ++ [.lst acc]) (by omega) hs
    obtain ⟨ys, src', h1, h2, h3, h4⟩ := cmpL_draw cost K P t ds (k + cost) src1 (acc ++ [y]) (fun d hd => step d (List.mem_cons_of_mem _ hd)) s1 (by omega) (by rw [List.length_append, List.length_singleton]; omega)
    have ca := cmpAdd_d (h := src1 :: t) (acc := acc) (d := y) (by omega)
    rw [List.length_cons, List.cons_append, List.cons_append] at ca
    refine ⟨y :: ys, src', by rw [List.length_cons, h1, List.length_cons], fun z hz => ?_, h3.up (by rw [List.length_cons, Nat.mul_succ]; omega), ?_⟩
    · rcases List.mem_cons.mp hz with rfl | hz
      · exact py
      · exact h2 z hz
    · rw [cmpL, e1]
      dsimp only
      rw [ap_tys]
      dsimp only
      rw [if_pos rfl, e2]
      dsimp only
      rw [ca]
      dsimp only
      rw [h4, List.append_assoc]
      rfl
theorem ints_of {P : Int → Prop} : ∀ {ys : List D}, (∀ y ∈ ys, ∃ i : Int, y = .int i ∧ P i) → ∃ w : List Int, ys = w.map D.int ∧ (∀ i ∈ w, P i) ∧ w.length = ys.length
  | [], _ => ⟨[], rfl, fun i hi => (by cases hi), rfl⟩
  | y :: ys, h => by
    obtain ⟨i, rfl, pi⟩ := h y List.mem_cons_self
    obtain ⟨w, rfl, pw, lw⟩ := ints_of fun z hz => h z (List.mem_cons_of_mem _ hz)
    refine ⟨i :: w, rfl, fun j hj => ?_, by simp⟩
    rcases List.mem_cons.mp hj with rfl | hj
    · exact pi
    · exact pw j hj
end Mi

/-! Mi20: calls with defaults -/
namespace Mi
open PySem PySem.Spec L2
/-- a def whose last parameters are filled by defaults -/
structure FnD (K : PySem.W.Frag) (ct : CT) (F : Fn) (ds : List D) : Prop where
  kp : PySem.W.keepIn K (.ref F.f) = true
  bi : ∃ (dvs : List V) (dus : List Value), Dfl K ct ds dvs ∧ Vals dvs dus ∧ Binds K F.fd F.ps dus
theorem Dfl.int {K : PySem.W.Frag} {ct : CT} {i : Int} {ds : List D} {dvs : List V} (h : Dfl K ct ds dvs) : Dfl K ct (.int i :: ds) (.int i :: dvs) := fun m ah H => .cons (.int i) (h m ah H)
theorem Dfl.str {K : PySem.W.Frag} {ct : CT} {i : Str} {ds : List D} {dvs : List V} (h : Dfl K ct ds dvs) : Dfl K ct (.str i :: ds) (.str i :: dvs) := fun m ah H => .cons (.str i) (h m ah H)
theorem Dfl.non {K : PySem.W.Frag} {ct : CT} {ds : List D} {dvs : List V} (h : Dfl K ct ds dvs) : Dfl K ct (.non :: ds) (.non :: dvs) := fun m ah H => .cons .non (h m ah H)
section
variable {X : Cx} {ct : CT} {W : WX} {pos p apos : Pos} {e o : Expr} {es : List Expr} {f : SemE} {fs : SemA} {call : CallT} {n i : Nat} {F : Fn} {x : Str} {fns : List Fn} {ds : List D}
theorem sc_callD (c : Cq X ct fns call n) (tk : Takes X W) (fi : FnD X.K ct F ds) (hm : X.mg x = some (.ref F.f)) (hF : fns[i]? = some F) (hg : Gl X x) (ha : SA X ct W (e :: es) fs) (hdb : (x == ("__debug__" : Str)) = false := by decide)
    (he : starEach (e :: es) X.env = (false, eval e X.env) :: starEach es X.env := by rfl) (hpl : (backTo pos (starEach es X.env)).any (·.1) = false := by rfl) : SE X ct W (.Call (.Name x p) (e :: es) [] pos) (eCl call i ds fs) :=
  let ⟨_, _, h1, h2, h3⟩ := fi.bi
  se_call c.co tk (c.ro.mono (Nat.le_succ _)) hF hg hm fi.kp h3 h2 h1 ha hdb he hpl
theorem sc_callD0 (c : Cq X ct fns call n) (tk : Takes X W) (fi : FnD X.K ct F ds) (hm : X.mg x = some (.ref F.f)) (hF : fns[i]? = some F) (hg : Gl X x) (hdb : (x == ("__debug__" : Str)) = false := by decide) : SE X ct W (.Call (.Name x p) [] [] pos) (eCl call i ds aNil) :=
  let ⟨_, _, h1, h2, h3⟩ := fi.bi
  se_call0 c.co tk (c.ro.mono (Nat.le_succ _)) hF hg hm fi.kp h3 h2 h1 hdb
theorem sc_makeD {C : Nat} (c : Cq X ct fns call n) (tk : Takes X W) (fi : FnD X.K ct F ds) (M : Mk X.K (ct.ca C) F.f) (hm : X.mg x = some (.ref (ct.ca C))) (hF : fns[i]? = some F) (hg : Gl X x) (ha : SA X ct W (e :: es) fs) (hdb : (x == ("__debug__" : Str)) = false := by decide)
    (he : starEach (e :: es) X.env = (false, eval e X.env) :: starEach es X.env := by rfl) (hpl : (backTo pos (starEach es X.env)).any (·.1) = false := by rfl) : SE X ct W (.Call (.Name x p) (e :: es) [] pos) (eMk call i C ds fs) :=
  let ⟨_, _, h1, h2, h3⟩ := fi.bi
  se_make c.co tk c.ro hF M hg hm h3 h2 h1 ha hdb he hpl
end
end Mi

namespace K99
open PySem PySem.Spec L2 Mi
/-! printed by gen.py: the defs, their meanings -/
def fl : List Str := ((["deeds", "ends", "rows", "states", "why", "at", "parts", "news", "told", "letters", "unknowns", "spares", "equations", "book", "front", "stays", "back", "numbers", "sets", "full"] : List Str) ++ (["step", "outcomes", "lots", "entries", "paper", "rules", "lengths", "table", "grammar", "words", "empties", "root", "turns", "stages", "used", "stop", "reads", "sayings", "filling", "papers"] : List Str) ++ (["tolds", "refused"] : List Str))
def ct (K : PySem.W.Frag) : CT := ⟨fun C => He.ga K (cn.getD C ""), nmL fl, nmL_inj (by decide +kernel)⟩
def ok_deeds (C : Nat) : Bool := C == 6 || C == 17
def ok_ends (C : Nat) : Bool := C == 6 || C == 11 || C == 20 || C == 25 || C == 26
def ok_rows (C : Nat) : Bool := C == 6 || C == 13 || C == 14
def ok_states (C : Nat) : Bool := C == 6
def ok_why (C : Nat) : Bool := C == 7
def ok_at (C : Nat) : Bool := C == 7
def ok_parts (C : Nat) : Bool := C == 8
def ok_news (C : Nat) : Bool := C == 8
def ok_told (C : Nat) : Bool := C == 8 || C == 10 || C == 22
def ok_letters (C : Nat) : Bool := C == 8 || C == 9 || C == 10 || C == 22
def ok_unknowns (C : Nat) : Bool := C == 8 || C == 9 || C == 10 || C == 22
def ok_spares (C : Nat) : Bool := C == 8 || C == 10 || C == 22
def ok_equations (C : Nat) : Bool := C == 8
def ok_book (C : Nat) : Bool := C == 9 || C == 16
def ok_front (C : Nat) : Bool := C == 11
def ok_stays (C : Nat) : Bool := C == 11
def ok_back (C : Nat) : Bool := C == 11
def ok_numbers (C : Nat) : Bool := C == 12
def ok_sets (C : Nat) : Bool := C == 14
def ok_full (C : Nat) : Bool := C == 14
def ok_step (C : Nat) : Bool := C == 15 || C == 16
def ok_outcomes (C : Nat) : Bool := C == 15
def ok_lots (C : Nat) : Bool := C == 16
def ok_entries (C : Nat) : Bool := C == 17
def ok_paper (C : Nat) : Bool := C == 18
def ok_rules (C : Nat) : Bool := C == 19
def ok_lengths (C : Nat) : Bool := C == 19
def ok_table (C : Nat) : Bool := C == 20
def ok_grammar (C : Nat) : Bool := C == 21 || C == 24
def ok_words (C : Nat) : Bool := C == 21
def ok_empties (C : Nat) : Bool := C == 22
def ok_root (C : Nat) : Bool := C == 23
def ok_turns (C : Nat) : Bool := C == 23 || C == 25 || C == 26 || C == 27
def ok_stages (C : Nat) : Bool := C == 24
def ok_used (C : Nat) : Bool := C == 25
def ok_stop (C : Nat) : Bool := C == 25 || C == 26
def ok_reads (C : Nat) : Bool := C == 26
def ok_sayings (C : Nat) : Bool := C == 26
def ok_filling (C : Nat) : Bool := C == 27
def ok_papers (C : Nat) : Bool := C == 28
def ok_tolds (C : Nat) : Bool := C == 29
def ok_refused (C : Nat) : Bool := C == 29
def m_is_whole (call : CallT) : SemS := (sRt (eAn (eIsi (isiL ["int", "bool"]) (eVar 0)) (eNo (eIsi (isiL ["bool"]) (eVar 0)))))
@[simp] theorem am_is_whole (call : CallT) (σ : Lo) (h : Hs) : m_is_whole call σ h = (sRt (eAn (eIsi (isiL ["int", "bool"]) (eVar 0)) (eNo (eIsi (isiL ["bool"]) (eVar 0))))) σ h := rfl
def m_is_sequence (call : CallT) : SemS := (sRt (eOr (eIsi (isiL ["list"]) (eVar 0)) (eIsi (isiL ["tuple"]) (eVar 0))))
@[simp] theorem am_is_sequence (call : CallT) (σ : Lo) (h : Hs) : m_is_sequence call σ h = (sRt (eOr (eIsi (isiL ["list"]) (eVar 0)) (eIsi (isiL ["tuple"]) (eVar 0)))) σ h := rfl
def m_is_state (call : CallT) : SemS := (sRt (eAn (eCl call 0 [] (aCons (eVar 0) aNil)) (eChain oLe oLt (eK (.int 0)) (eVar 0) (eVar 1))))
@[simp] theorem am_is_state (call : CallT) (σ : Lo) (h : Hs) : m_is_state call σ h = (sRt (eAn (eCl call 0 [] (aCons (eVar 0) aNil)) (eChain oLe oLt (eK (.int 0)) (eVar 0) (eVar 1)))) σ h := rfl
def b_checked_deeds_1 (call : CallT) : SemS := (sIf (tNo (tTru (eCl call 2 [] (aCons (eVar 4) (aCons (eVar 1) aNil)))))
      sBad
      sNil)
@[simp] theorem ab_checked_deeds_1 (call : CallT) (σ : Lo) (h : Hs) : b_checked_deeds_1 call σ h = (sIf (tNo (tTru (eCl call 2 [] (aCons (eVar 4) (aCons (eVar 1) aNil)))))
      sBad
      sNil) σ h := rfl
def b_checked_deeds_2 (call : CallT) : SemS := (sSq (sIf (tOr' (tNo (tTru (eCl call 1 [] (aCons (eVar 3) aNil)))) (tBl (eBin (oEqO true eqTab call) (eN nLen (aCons (eVar 3) aNil)) (eVar 1))))
      sBad
      sNil)
      (sSq (sFor (iSeq (eVar 3)) (gNm 4)
      (b_checked_deeds_1 call))
      (sEx (eLm lmAppend (eVar 2) (aCons (eN nTuple (aCons (eVar 3) aNil)) aNil)))))
@[simp] theorem ab_checked_deeds_2 (call : CallT) (σ : Lo) (h : Hs) : b_checked_deeds_2 call σ h = (sSq (sIf (tOr' (tNo (tTru (eCl call 1 [] (aCons (eVar 3) aNil)))) (tBl (eBin (oEqO true eqTab call) (eN nLen (aCons (eVar 3) aNil)) (eVar 1))))
      sBad
      sNil)
      (sSq (sFor (iSeq (eVar 3)) (gNm 4)
      (b_checked_deeds_1 call))
      (sEx (eLm lmAppend (eVar 2) (aCons (eN nTuple (aCons (eVar 3) aNil)) aNil))))) σ h := rfl
def m_checked_deeds (call : CallT) : SemS := (sSq (sIf (tNo (tTru (eCl call 1 [] (aCons (eVar 0) aNil))))
      sBad
      sNil)
      (sSq (sAs (eLst aNil) (gNm 2))
      (sSq (sFor (iSeq (eVar 0)) (gNm 3)
      (b_checked_deeds_2 call))
      (sRt (eN nTuple (aCons (eVar 2) aNil))))))
@[simp] theorem am_checked_deeds (call : CallT) (σ : Lo) (h : Hs) : m_checked_deeds call σ h = (sSq (sIf (tNo (tTru (eCl call 1 [] (aCons (eVar 0) aNil))))
      sBad
      sNil)
      (sSq (sAs (eLst aNil) (gNm 2))
      (sSq (sFor (iSeq (eVar 0)) (gNm 3)
      (b_checked_deeds_2 call))
      (sRt (eN nTuple (aCons (eVar 2) aNil)))))) σ h := rfl
def b_are_goals_1 (call : CallT) : SemS := (sSq (sIf (tOr' (tNo (tTru (eCl call 2 [] (aCons (eVar 3) (aCons (eVar 1) aNil))))) (tBl (eBin oLe (eVar 3) (eVar 2))))
      (sRt (eK (.bl false)))
      sNil)
      (sAs (eVar 3) (gNm 2)))
@[simp] theorem ab_are_goals_1 (call : CallT) (σ : Lo) (h : Hs) : b_are_goals_1 call σ h = (sSq (sIf (tOr' (tNo (tTru (eCl call 2 [] (aCons (eVar 3) (aCons (eVar 1) aNil))))) (tBl (eBin oLe (eVar 3) (eVar 2))))
      (sRt (eK (.bl false)))
      sNil)
      (sAs (eVar 3) (gNm 2))) σ h := rfl
def m_are_goals (call : CallT) : SemS := (sSq (sIf (tNo (tTru (eCl call 1 [] (aCons (eVar 0) aNil))))
      (sRt (eK (.bl false)))
      sNil)
      (sSq (sAs (eUn oNeg (eK (.int 1))) (gNm 2))
      (sSq (sFor (iSeq (eVar 0)) (gNm 3)
      (b_are_goals_1 call))
      (sRt (eK (.bl true))))))
@[simp] theorem am_are_goals (call : CallT) (σ : Lo) (h : Hs) : m_are_goals call σ h = (sSq (sIf (tNo (tTru (eCl call 1 [] (aCons (eVar 0) aNil))))
      (sRt (eK (.bl false)))
      sNil)
      (sSq (sAs (eUn oNeg (eK (.int 1))) (gNm 2))
      (sSq (sFor (iSeq (eVar 0)) (gNm 3)
      (b_are_goals_1 call))
      (sRt (eK (.bl true)))))) σ h := rfl
def b_checked_ends_1 (call : CallT) : SemS := (sSq (sIf (tOr' (tNo (tTru (eCl call 1 [] (aCons (eVar 3) aNil)))) (tBl (eBin (oEqF true) (eN nLen (aCons (eVar 3) aNil)) (eK (.int 2)))))
      sBad
      sNil)
      (sSq (sAs (eVar 3) (gTp 2 (gCo (gNm 4) (gCo (gNm 5) gNi))))
      (sSq (sIf (tOr' (tNo (tTru (eCl call 2 [] (aCons (eVar 4) (aCons (eVar 1) aNil))))) (tNo (tTru (eCl call 4 [] (aCons (eVar 5) (aCons (eVar 1) aNil))))))
      sBad
      sNil)
      (sEx (eLm lmAppend (eVar 2) (aCons (eTup (aCons (eVar 4) (aCons (eN nTuple (aCons (eVar 5) aNil)) aNil))) aNil))))))
@[simp] theorem ab_checked_ends_1 (call : CallT) (σ : Lo) (h : Hs) : b_checked_ends_1 call σ h = (sSq (sIf (tOr' (tNo (tTru (eCl call 1 [] (aCons (eVar 3) aNil)))) (tBl (eBin (oEqF true) (eN nLen (aCons (eVar 3) aNil)) (eK (.int 2)))))
      sBad
      sNil)
      (sSq (sAs (eVar 3) (gTp 2 (gCo (gNm 4) (gCo (gNm 5) gNi))))
      (sSq (sIf (tOr' (tNo (tTru (eCl call 2 [] (aCons (eVar 4) (aCons (eVar 1) aNil))))) (tNo (tTru (eCl call 4 [] (aCons (eVar 5) (aCons (eVar 1) aNil))))))
      sBad
      sNil)
      (sEx (eLm lmAppend (eVar 2) (aCons (eTup (aCons (eVar 4) (aCons (eN nTuple (aCons (eVar 5) aNil)) aNil))) aNil)))))) σ h := rfl
def m_checked_ends (call : CallT) : SemS := (sSq (sIf (tNo (tTru (eCl call 1 [] (aCons (eVar 0) aNil))))
      sBad
      sNil)
      (sSq (sAs (eLst aNil) (gNm 2))
      (sSq (sFor (iSeq (eVar 0)) (gNm 3)
      (b_checked_ends_1 call))
      (sRt (eN nTuple (aCons (eVar 2) aNil))))))
@[simp] theorem am_checked_ends (call : CallT) (σ : Lo) (h : Hs) : m_checked_ends call σ h = (sSq (sIf (tNo (tTru (eCl call 1 [] (aCons (eVar 0) aNil))))
      sBad
      sNil)
      (sSq (sAs (eLst aNil) (gNm 2))
      (sSq (sFor (iSeq (eVar 0)) (gNm 3)
      (b_checked_ends_1 call))
      (sRt (eN nTuple (aCons (eVar 2) aNil)))))) σ h := rfl
def b_checked_rows_1 (call : CallT) : SemS := (sIf (tNo (tTru (eCl call 0 [] (aCons (eVar 4) aNil))))
      sBad
      sNil)
@[simp] theorem ab_checked_rows_1 (call : CallT) (σ : Lo) (h : Hs) : b_checked_rows_1 call σ h = (sIf (tNo (tTru (eCl call 0 [] (aCons (eVar 4) aNil))))
      sBad
      sNil) σ h := rfl
def b_checked_rows_2 (call : CallT) : SemS := (sSq (sIf (tNo (tTru (eCl call 1 [] (aCons (eVar 3) aNil))))
      sBad
      sNil)
      (sFor (iSeq (eVar 3)) (gNm 4)
      (b_checked_rows_1 call)))
@[simp] theorem ab_checked_rows_2 (call : CallT) (σ : Lo) (h : Hs) : b_checked_rows_2 call σ h = (sSq (sIf (tNo (tTru (eCl call 1 [] (aCons (eVar 3) aNil))))
      sBad
      sNil)
      (sFor (iSeq (eVar 3)) (gNm 4)
      (b_checked_rows_1 call))) σ h := rfl
def b_checked_rows_3 (call : CallT) : SemS := (sSq (sIf (tOr' (tNo (tTru (eCl call 1 [] (aCons (eVar 2) aNil)))) (tBl (eBin (oEqF true) (eN nLen (aCons (eVar 2) aNil)) (eK (.int 2)))))
      sBad
      sNil)
      (sSq (sFor (iSeq (eVar 2)) (gNm 3)
      (b_checked_rows_2 call))
      (sSq (sAs (eVar 2) (gTp 2 (gCo (gNm 5) (gCo (gNm 6) gNi))))
      (sEx (eLm lmAppend (eVar 1) (aCons (eTup (aCons (eN nTuple (aCons (eVar 5) aNil)) (aCons (eN nTuple (aCons (eVar 6) aNil)) aNil))) aNil))))))
@[simp] theorem ab_checked_rows_3 (call : CallT) (σ : Lo) (h : Hs) : b_checked_rows_3 call σ h = (sSq (sIf (tOr' (tNo (tTru (eCl call 1 [] (aCons (eVar 2) aNil)))) (tBl (eBin (oEqF true) (eN nLen (aCons (eVar 2) aNil)) (eK (.int 2)))))
      sBad
      sNil)
      (sSq (sFor (iSeq (eVar 2)) (gNm 3)
      (b_checked_rows_2 call))
      (sSq (sAs (eVar 2) (gTp 2 (gCo (gNm 5) (gCo (gNm 6) gNi))))
      (sEx (eLm lmAppend (eVar 1) (aCons (eTup (aCons (eN nTuple (aCons (eVar 5) aNil)) (aCons (eN nTuple (aCons (eVar 6) aNil)) aNil))) aNil)))))) σ h := rfl
def m_checked_rows (call : CallT) : SemS := (sSq (sIf (tNo (tTru (eCl call 1 [] (aCons (eVar 0) aNil))))
      sBad
      sNil)
      (sSq (sAs (eLst aNil) (gNm 1))
      (sSq (sFor (iSeq (eVar 0)) (gNm 2)
      (b_checked_rows_3 call))
      (sRt (eN nTuple (aCons (eVar 1) aNil))))))
@[simp] theorem am_checked_rows (call : CallT) (σ : Lo) (h : Hs) : m_checked_rows call σ h = (sSq (sIf (tNo (tTru (eCl call 1 [] (aCons (eVar 0) aNil))))
      sBad
      sNil)
      (sSq (sAs (eLst aNil) (gNm 1))
      (sSq (sFor (iSeq (eVar 0)) (gNm 2)
      (b_checked_rows_3 call))
      (sRt (eN nTuple (aCons (eVar 1) aNil)))))) σ h := rfl
def b_check_signs_1 (call : CallT) : SemS := (sIf (tOr' (tBl (eBin oGe (eVar 5) (eVar 1))) (tBl (eBin oGe (eBin oSub (eUn oNeg (eK (.int 1))) (eVar 5)) (eVar 2))))
      sBad
      sNil)
@[simp] theorem ab_check_signs_1 (call : CallT) (σ : Lo) (h : Hs) : b_check_signs_1 call σ h = (sIf (tOr' (tBl (eBin oGe (eVar 5) (eVar 1))) (tBl (eBin oGe (eBin oSub (eUn oNeg (eK (.int 1))) (eVar 5)) (eVar 2))))
      sBad
      sNil) σ h := rfl
def b_check_signs_2 (call : CallT) : SemS := (sFor (iSeq (eBin oAdd (eVar 3) (eVar 4))) (gNm 5)
      (b_check_signs_1 call))
@[simp] theorem ab_check_signs_2 (call : CallT) (σ : Lo) (h : Hs) : b_check_signs_2 call σ h = (sFor (iSeq (eBin oAdd (eVar 3) (eVar 4))) (gNm 5)
      (b_check_signs_1 call)) σ h := rfl
def m_check_signs (call : CallT) : SemS := (sFor (iSeq (eVar 0)) (gTp 2 (gCo (gNm 3) (gCo (gNm 4) gNi)))
      (b_check_signs_2 call))
@[simp] theorem am_check_signs (call : CallT) (σ : Lo) (h : Hs) : m_check_signs call σ h = (sFor (iSeq (eVar 0)) (gTp 2 (gCo (gNm 3) (gCo (gNm 4) gNi)))
      (b_check_signs_2 call)) σ h := rfl
def m_Book__init_ (call : CallT) : SemS := (sSq (sIf (tOr' (tNo (tTru (eCl call 0 [] (aCons (eVar 4) aNil)))) (tBl (eBin oLt (eVar 4) (eK (.int 1)))))
      sBad
      sNil)
      (sSq (sFd ok_deeds 0 (eVar 0) (eCl call 3 [] (aCons (eVar 2) (aCons (eVar 4) aNil))))
      (sSq (sFd ok_ends 1 (eVar 0) (eCl call 5 [] (aCons (eVar 3) (aCons (eVar 4) aNil))))
      (sSq (sFd ok_rows 2 (eVar 0) (eCl call 6 [] (aCons (eVar 1) aNil)))
      (sSq (sFd ok_states 3 (eVar 0) (eVar 4))
      (sEx (eCl call 7 [] (aCons (eFd (ok_rows) 2 (eVar 0)) (aCons (eN nLen (aCons (eFd (ok_deeds) 0 (eVar 0)) aNil)) (aCons (eN nLen (aCons (eFd (ok_ends) 1 (eVar 0)) aNil)) aNil))))))))))
@[simp] theorem am_Book__init_ (call : CallT) (σ : Lo) (h : Hs) : m_Book__init_ call σ h = (sSq (sIf (tOr' (tNo (tTru (eCl call 0 [] (aCons (eVar 4) aNil)))) (tBl (eBin oLt (eVar 4) (eK (.int 1)))))
      sBad
      sNil)
      (sSq (sFd ok_deeds 0 (eVar 0) (eCl call 3 [] (aCons (eVar 2) (aCons (eVar 4) aNil))))
      (sSq (sFd ok_ends 1 (eVar 0) (eCl call 5 [] (aCons (eVar 3) (aCons (eVar 4) aNil))))
      (sSq (sFd ok_rows 2 (eVar 0) (eCl call 6 [] (aCons (eVar 1) aNil)))
      (sSq (sFd ok_states 3 (eVar 0) (eVar 4))
      (sEx (eCl call 7 [] (aCons (eFd (ok_rows) 2 (eVar 0)) (aCons (eN nLen (aCons (eFd (ok_deeds) 0 (eVar 0)) aNil)) (aCons (eN nLen (aCons (eFd (ok_ends) 1 (eVar 0)) aNil)) aNil)))))))))) σ h := rfl
def m_Book__eq_ (call : CallT) : SemS := (sRt (eAn (eIsi (isiT isOk isBt 6) (eVar 1)) (eAn (eBin (oEqO false eqTab call) (eFd (ok_rows) 2 (eVar 0)) (eFd (ok_rows) 2 (eVar 1))) (eAn (eBin (oEqO false eqTab call) (eFd (ok_deeds) 0 (eVar 0)) (eFd (ok_deeds) 0 (eVar 1))) (eAn (eBin (oEqO false eqTab call) (eFd (ok_ends) 1 (eVar 0)) (eFd (ok_ends) 1 (eVar 1))) (eBin (oEqO false eqTab call) (eFd (ok_states) 3 (eVar 0)) (eFd (ok_states) 3 (eVar 1))))))))
@[simp] theorem am_Book__eq_ (call : CallT) (σ : Lo) (h : Hs) : m_Book__eq_ call σ h = (sRt (eAn (eIsi (isiT isOk isBt 6) (eVar 1)) (eAn (eBin (oEqO false eqTab call) (eFd (ok_rows) 2 (eVar 0)) (eFd (ok_rows) 2 (eVar 1))) (eAn (eBin (oEqO false eqTab call) (eFd (ok_deeds) 0 (eVar 0)) (eFd (ok_deeds) 0 (eVar 1))) (eAn (eBin (oEqO false eqTab call) (eFd (ok_ends) 1 (eVar 0)) (eFd (ok_ends) 1 (eVar 1))) (eBin (oEqO false eqTab call) (eFd (ok_states) 3 (eVar 0)) (eFd (ok_states) 3 (eVar 1)))))))) σ h := rfl
def m_Clash__init_ (call : CallT) : SemS := (sSq (sFd ok_why 4 (eVar 0) (eVar 1))
      (sFd ok_at 5 (eVar 0) (eVar 2)))
@[simp] theorem am_Clash__init_ (call : CallT) (σ : Lo) (h : Hs) : m_Clash__init_ call σ h = (sSq (sFd ok_why 4 (eVar 0) (eVar 1))
      (sFd ok_at 5 (eVar 0) (eVar 2))) σ h := rfl
def m_Clash__eq_ (call : CallT) : SemS := (sRt (eAn (eIsi (isiT isOk isBt 7) (eVar 1)) (eAn (eBin (oEqO false eqTab call) (eFd (ok_why) 4 (eVar 0)) (eFd (ok_why) 4 (eVar 1))) (eBin (oEqO false eqTab call) (eFd (ok_at) 5 (eVar 0)) (eFd (ok_at) 5 (eVar 1))))))
@[simp] theorem am_Clash__eq_ (call : CallT) (σ : Lo) (h : Hs) : m_Clash__eq_ call σ h = (sRt (eAn (eIsi (isiT isOk isBt 7) (eVar 1)) (eAn (eBin (oEqO false eqTab call) (eFd (ok_why) 4 (eVar 0)) (eFd (ok_why) 4 (eVar 1))) (eBin (oEqO false eqTab call) (eFd (ok_at) 5 (eVar 0)) (eFd (ok_at) 5 (eVar 1)))))) σ h := rfl
def m_Guess__init_ (call : CallT) : SemS := (sSq (sFd ok_parts 6 (eVar 0) (eVar 1))
      (sSq (sFd ok_news 7 (eVar 0) (eVar 2))
      (sSq (sFd ok_told 8 (eVar 0) (eVar 3))
      (sSq (sFd ok_letters 9 (eVar 0) (eVar 4))
      (sSq (sFd ok_unknowns 10 (eVar 0) (eVar 5))
      (sSq (sFd ok_spares 11 (eVar 0) (eVar 6))
      (sFd ok_equations 12 (eVar 0) (eVar 7))))))))
@[simp] theorem am_Guess__init_ (call : CallT) (σ : Lo) (h : Hs) : m_Guess__init_ call σ h = (sSq (sFd ok_parts 6 (eVar 0) (eVar 1))
      (sSq (sFd ok_news 7 (eVar 0) (eVar 2))
      (sSq (sFd ok_told 8 (eVar 0) (eVar 3))
      (sSq (sFd ok_letters 9 (eVar 0) (eVar 4))
      (sSq (sFd ok_unknowns 10 (eVar 0) (eVar 5))
      (sSq (sFd ok_spares 11 (eVar 0) (eVar 6))
      (sFd ok_equations 12 (eVar 0) (eVar 7)))))))) σ h := rfl
def m_Guess__eq_ (call : CallT) : SemS := (sRt (eAn (eIsi (isiT isOk isBt 8) (eVar 1)) (eAn (eBin (oEqO false eqTab call) (eFd (ok_parts) 6 (eVar 0)) (eFd (ok_parts) 6 (eVar 1))) (eAn (eBin (oEqO false eqTab call) (eFd (ok_news) 7 (eVar 0)) (eFd (ok_news) 7 (eVar 1))) (eAn (eBin (oEqO false eqTab call) (eFd (ok_told) 8 (eVar 0)) (eFd (ok_told) 8 (eVar 1))) (eAn (eBin (oEqO false eqTab call) (eFd (ok_letters) 9 (eVar 0)) (eFd (ok_letters) 9 (eVar 1))) (eAn (eBin (oEqO false eqTab call) (eFd (ok_unknowns) 10 (eVar 0)) (eFd (ok_unknowns) 10 (eVar 1))) (eAn (eBin (oEqO false eqTab call) (eFd (ok_spares) 11 (eVar 0)) (eFd (ok_spares) 11 (eVar 1))) (eBin (oEqO false eqTab call) (eFd (ok_equations) 12 (eVar 0)) (eFd (ok_equations) 12 (eVar 1)))))))))))
@[simp] theorem am_Guess__eq_ (call : CallT) (σ : Lo) (h : Hs) : m_Guess__eq_ call σ h = (sRt (eAn (eIsi (isiT isOk isBt 8) (eVar 1)) (eAn (eBin (oEqO false eqTab call) (eFd (ok_parts) 6 (eVar 0)) (eFd (ok_parts) 6 (eVar 1))) (eAn (eBin (oEqO false eqTab call) (eFd (ok_news) 7 (eVar 0)) (eFd (ok_news) 7 (eVar 1))) (eAn (eBin (oEqO false eqTab call) (eFd (ok_told) 8 (eVar 0)) (eFd (ok_told) 8 (eVar 1))) (eAn (eBin (oEqO false eqTab call) (eFd (ok_letters) 9 (eVar 0)) (eFd (ok_letters) 9 (eVar 1))) (eAn (eBin (oEqO false eqTab call) (eFd (ok_unknowns) 10 (eVar 0)) (eFd (ok_unknowns) 10 (eVar 1))) (eAn (eBin (oEqO false eqTab call) (eFd (ok_spares) 11 (eVar 0)) (eFd (ok_spares) 11 (eVar 1))) (eBin (oEqO false eqTab call) (eFd (ok_equations) 12 (eVar 0)) (eFd (ok_equations) 12 (eVar 1))))))))))) σ h := rfl
def m_Canon__init_ (call : CallT) : SemS := (sSq (sFd ok_book 13 (eVar 0) (eVar 1))
      (sSq (sFd ok_letters 9 (eVar 0) (eVar 2))
      (sFd ok_unknowns 10 (eVar 0) (eVar 3))))
@[simp] theorem am_Canon__init_ (call : CallT) (σ : Lo) (h : Hs) : m_Canon__init_ call σ h = (sSq (sFd ok_book 13 (eVar 0) (eVar 1))
      (sSq (sFd ok_letters 9 (eVar 0) (eVar 2))
      (sFd ok_unknowns 10 (eVar 0) (eVar 3)))) σ h := rfl
def m_Canon__eq_ (call : CallT) : SemS := (sRt (eAn (eIsi (isiT isOk isBt 9) (eVar 1)) (eAn (eBin (oEqO false eqTab call) (eFd (ok_book) 13 (eVar 0)) (eFd (ok_book) 13 (eVar 1))) (eAn (eBin (oEqO false eqTab call) (eFd (ok_letters) 9 (eVar 0)) (eFd (ok_letters) 9 (eVar 1))) (eBin (oEqO false eqTab call) (eFd (ok_unknowns) 10 (eVar 0)) (eFd (ok_unknowns) 10 (eVar 1)))))))
@[simp] theorem am_Canon__eq_ (call : CallT) (σ : Lo) (h : Hs) : m_Canon__eq_ call σ h = (sRt (eAn (eIsi (isiT isOk isBt 9) (eVar 1)) (eAn (eBin (oEqO false eqTab call) (eFd (ok_book) 13 (eVar 0)) (eFd (ok_book) 13 (eVar 1))) (eAn (eBin (oEqO false eqTab call) (eFd (ok_letters) 9 (eVar 0)) (eFd (ok_letters) 9 (eVar 1))) (eBin (oEqO false eqTab call) (eFd (ok_unknowns) 10 (eVar 0)) (eFd (ok_unknowns) 10 (eVar 1))))))) σ h := rfl
def m_Settled__init_ (call : CallT) : SemS := (sSq (sFd ok_told 8 (eVar 0) (eVar 1))
      (sSq (sFd ok_letters 9 (eVar 0) (eVar 2))
      (sSq (sFd ok_unknowns 10 (eVar 0) (eVar 3))
      (sFd ok_spares 11 (eVar 0) (eVar 4)))))
@[simp] theorem am_Settled__init_ (call : CallT) (σ : Lo) (h : Hs) : m_Settled__init_ call σ h = (sSq (sFd ok_told 8 (eVar 0) (eVar 1))
      (sSq (sFd ok_letters 9 (eVar 0) (eVar 2))
      (sSq (sFd ok_unknowns 10 (eVar 0) (eVar 3))
      (sFd ok_spares 11 (eVar 0) (eVar 4))))) σ h := rfl
def m_Settled__eq_ (call : CallT) : SemS := (sRt (eAn (eIsi (isiT isOk isBt 10) (eVar 1)) (eAn (eBin (oEqO false eqTab call) (eFd (ok_told) 8 (eVar 0)) (eFd (ok_told) 8 (eVar 1))) (eAn (eBin (oEqO false eqTab call) (eFd (ok_letters) 9 (eVar 0)) (eFd (ok_letters) 9 (eVar 1))) (eAn (eBin (oEqO false eqTab call) (eFd (ok_unknowns) 10 (eVar 0)) (eFd (ok_unknowns) 10 (eVar 1))) (eBin (oEqO false eqTab call) (eFd (ok_spares) 11 (eVar 0)) (eFd (ok_spares) 11 (eVar 1))))))))
@[simp] theorem am_Settled__eq_ (call : CallT) (σ : Lo) (h : Hs) : m_Settled__eq_ call σ h = (sRt (eAn (eIsi (isiT isOk isBt 10) (eVar 1)) (eAn (eBin (oEqO false eqTab call) (eFd (ok_told) 8 (eVar 0)) (eFd (ok_told) 8 (eVar 1))) (eAn (eBin (oEqO false eqTab call) (eFd (ok_letters) 9 (eVar 0)) (eFd (ok_letters) 9 (eVar 1))) (eAn (eBin (oEqO false eqTab call) (eFd (ok_unknowns) 10 (eVar 0)) (eFd (ok_unknowns) 10 (eVar 1))) (eBin (oEqO false eqTab call) (eFd (ok_spares) 11 (eVar 0)) (eFd (ok_spares) 11 (eVar 1)))))))) σ h := rfl
def m_Shape__init_ (call : CallT) : SemS := (sSq (sFd ok_front 14 (eVar 0) (eVar 1))
      (sSq (sFd ok_stays 15 (eVar 0) (eVar 2))
      (sSq (sFd ok_back 16 (eVar 0) (eVar 3))
      (sFd ok_ends 1 (eVar 0) (eVar 4)))))
@[simp] theorem am_Shape__init_ (call : CallT) (σ : Lo) (h : Hs) : m_Shape__init_ call σ h = (sSq (sFd ok_front 14 (eVar 0) (eVar 1))
      (sSq (sFd ok_stays 15 (eVar 0) (eVar 2))
      (sSq (sFd ok_back 16 (eVar 0) (eVar 3))
      (sFd ok_ends 1 (eVar 0) (eVar 4))))) σ h := rfl
def m_Shape__eq_ (call : CallT) : SemS := (sRt (eAn (eIsi (isiT isOk isBt 11) (eVar 1)) (eAn (eBin (oEqO false eqTab call) (eFd (ok_front) 14 (eVar 0)) (eFd (ok_front) 14 (eVar 1))) (eAn (eBin (oEqO false eqTab call) (eFd (ok_stays) 15 (eVar 0)) (eFd (ok_stays) 15 (eVar 1))) (eAn (eBin (oEqO false eqTab call) (eFd (ok_back) 16 (eVar 0)) (eFd (ok_back) 16 (eVar 1))) (eBin (oEqO false eqTab call) (eFd (ok_ends) 1 (eVar 0)) (eFd (ok_ends) 1 (eVar 1))))))))
@[simp] theorem am_Shape__eq_ (call : CallT) (σ : Lo) (h : Hs) : m_Shape__eq_ call σ h = (sRt (eAn (eIsi (isiT isOk isBt 11) (eVar 1)) (eAn (eBin (oEqO false eqTab call) (eFd (ok_front) 14 (eVar 0)) (eFd (ok_front) 14 (eVar 1))) (eAn (eBin (oEqO false eqTab call) (eFd (ok_stays) 15 (eVar 0)) (eFd (ok_stays) 15 (eVar 1))) (eAn (eBin (oEqO false eqTab call) (eFd (ok_back) 16 (eVar 0)) (eFd (ok_back) 16 (eVar 1))) (eBin (oEqO false eqTab call) (eFd (ok_ends) 1 (eVar 0)) (eFd (ok_ends) 1 (eVar 1)))))))) σ h := rfl
def m_Answer__init_ (call : CallT) : SemS := (sFd ok_numbers 17 (eVar 0) (eVar 1))
@[simp] theorem am_Answer__init_ (call : CallT) (σ : Lo) (h : Hs) : m_Answer__init_ call σ h = (sFd ok_numbers 17 (eVar 0) (eVar 1)) σ h := rfl
def m_Answer__eq_ (call : CallT) : SemS := (sRt (eAn (eIsi (isiT isOk isBt 12) (eVar 1)) (eBin (oEqO false eqTab call) (eFd (ok_numbers) 17 (eVar 0)) (eFd (ok_numbers) 17 (eVar 1)))))
@[simp] theorem am_Answer__eq_ (call : CallT) (σ : Lo) (h : Hs) : m_Answer__eq_ call σ h = (sRt (eAn (eIsi (isiT isOk isBt 12) (eVar 1)) (eBin (oEqO false eqTab call) (eFd (ok_numbers) 17 (eVar 0)) (eFd (ok_numbers) 17 (eVar 1))))) σ h := rfl
def m_Carries__init_ (call : CallT) : SemS := (sFd ok_rows 2 (eVar 0) (eVar 1))
@[simp] theorem am_Carries__init_ (call : CallT) (σ : Lo) (h : Hs) : m_Carries__init_ call σ h = (sFd ok_rows 2 (eVar 0) (eVar 1)) σ h := rfl
def m_Carries__eq_ (call : CallT) : SemS := (sRt (eAn (eIsi (isiT isOk isBt 13) (eVar 1)) (eBin (oEqO false eqTab call) (eFd (ok_rows) 2 (eVar 0)) (eFd (ok_rows) 2 (eVar 1)))))
@[simp] theorem am_Carries__eq_ (call : CallT) (σ : Lo) (h : Hs) : m_Carries__eq_ call σ h = (sRt (eAn (eIsi (isiT isOk isBt 13) (eVar 1)) (eBin (oEqO false eqTab call) (eFd (ok_rows) 2 (eVar 0)) (eFd (ok_rows) 2 (eVar 1))))) σ h := rfl
def m_Case__init_ (call : CallT) : SemS := (sSq (sFd ok_rows 2 (eVar 0) (eVar 1))
      (sSq (sFd ok_sets 18 (eVar 0) (eVar 2))
      (sFd ok_full 19 (eVar 0) (eVar 3))))
@[simp] theorem am_Case__init_ (call : CallT) (σ : Lo) (h : Hs) : m_Case__init_ call σ h = (sSq (sFd ok_rows 2 (eVar 0) (eVar 1))
      (sSq (sFd ok_sets 18 (eVar 0) (eVar 2))
      (sFd ok_full 19 (eVar 0) (eVar 3)))) σ h := rfl
def m_Case__eq_ (call : CallT) : SemS := (sRt (eAn (eIsi (isiT isOk isBt 14) (eVar 1)) (eAn (eBin (oEqO false eqTab call) (eFd (ok_rows) 2 (eVar 0)) (eFd (ok_rows) 2 (eVar 1))) (eAn (eBin (oEqO false eqTab call) (eFd (ok_sets) 18 (eVar 0)) (eFd (ok_sets) 18 (eVar 1))) (eBin (oEqO false eqTab call) (eFd (ok_full) 19 (eVar 0)) (eFd (ok_full) 19 (eVar 1)))))))
@[simp] theorem am_Case__eq_ (call : CallT) (σ : Lo) (h : Hs) : m_Case__eq_ call σ h = (sRt (eAn (eIsi (isiT isOk isBt 14) (eVar 1)) (eAn (eBin (oEqO false eqTab call) (eFd (ok_rows) 2 (eVar 0)) (eFd (ok_rows) 2 (eVar 1))) (eAn (eBin (oEqO false eqTab call) (eFd (ok_sets) 18 (eVar 0)) (eFd (ok_sets) 18 (eVar 1))) (eBin (oEqO false eqTab call) (eFd (ok_full) 19 (eVar 0)) (eFd (ok_full) 19 (eVar 1))))))) σ h := rfl
def m_Look__init_ (call : CallT) : SemS := (sSq (sFd ok_step 20 (eVar 0) (eVar 1))
      (sFd ok_outcomes 21 (eVar 0) (eVar 2)))
@[simp] theorem am_Look__init_ (call : CallT) (σ : Lo) (h : Hs) : m_Look__init_ call σ h = (sSq (sFd ok_step 20 (eVar 0) (eVar 1))
      (sFd ok_outcomes 21 (eVar 0) (eVar 2))) σ h := rfl
def m_Look__eq_ (call : CallT) : SemS := (sRt (eAn (eIsi (isiT isOk isBt 15) (eVar 1)) (eAn (eBin (oEqO false eqTab call) (eFd (ok_step) 20 (eVar 0)) (eFd (ok_step) 20 (eVar 1))) (eBin (oEqO false eqTab call) (eFd (ok_outcomes) 21 (eVar 0)) (eFd (ok_outcomes) 21 (eVar 1))))))
@[simp] theorem am_Look__eq_ (call : CallT) (σ : Lo) (h : Hs) : m_Look__eq_ call σ h = (sRt (eAn (eIsi (isiT isOk isBt 15) (eVar 1)) (eAn (eBin (oEqO false eqTab call) (eFd (ok_step) 20 (eVar 0)) (eFd (ok_step) 20 (eVar 1))) (eBin (oEqO false eqTab call) (eFd (ok_outcomes) 21 (eVar 0)) (eFd (ok_outcomes) 21 (eVar 1)))))) σ h := rfl
def m_Entry__init_ (call : CallT) : SemS := (sSq (sFd ok_book 13 (eVar 0) (eVar 1))
      (sSq (sFd ok_step 20 (eVar 0) (eVar 2))
      (sFd ok_lots 22 (eVar 0) (eVar 3))))
@[simp] theorem am_Entry__init_ (call : CallT) (σ : Lo) (h : Hs) : m_Entry__init_ call σ h = (sSq (sFd ok_book 13 (eVar 0) (eVar 1))
      (sSq (sFd ok_step 20 (eVar 0) (eVar 2))
      (sFd ok_lots 22 (eVar 0) (eVar 3)))) σ h := rfl
def m_Entry__eq_ (call : CallT) : SemS := (sRt (eAn (eIsi (isiT isOk isBt 16) (eVar 1)) (eAn (eBin (oEqO false eqTab call) (eFd (ok_book) 13 (eVar 0)) (eFd (ok_book) 13 (eVar 1))) (eAn (eBin (oEqO false eqTab call) (eFd (ok_step) 20 (eVar 0)) (eFd (ok_step) 20 (eVar 1))) (eBin (oEqO false eqTab call) (eFd (ok_lots) 22 (eVar 0)) (eFd (ok_lots) 22 (eVar 1)))))))
@[simp] theorem am_Entry__eq_ (call : CallT) (σ : Lo) (h : Hs) : m_Entry__eq_ call σ h = (sRt (eAn (eIsi (isiT isOk isBt 16) (eVar 1)) (eAn (eBin (oEqO false eqTab call) (eFd (ok_book) 13 (eVar 0)) (eFd (ok_book) 13 (eVar 1))) (eAn (eBin (oEqO false eqTab call) (eFd (ok_step) 20 (eVar 0)) (eFd (ok_step) 20 (eVar 1))) (eBin (oEqO false eqTab call) (eFd (ok_lots) 22 (eVar 0)) (eFd (ok_lots) 22 (eVar 1))))))) σ h := rfl
def m_Paper__init_ (call : CallT) : SemS := (sSq (sFd ok_deeds 0 (eVar 0) (eN nTuple (aCons (eVar 1) aNil)))
      (sFd ok_entries 23 (eVar 0) (eN nTuple (aCons (eVar 2) aNil))))
@[simp] theorem am_Paper__init_ (call : CallT) (σ : Lo) (h : Hs) : m_Paper__init_ call σ h = (sSq (sFd ok_deeds 0 (eVar 0) (eN nTuple (aCons (eVar 1) aNil)))
      (sFd ok_entries 23 (eVar 0) (eN nTuple (aCons (eVar 2) aNil)))) σ h := rfl
def m_Paper__eq_ (call : CallT) : SemS := (sRt (eAn (eIsi (isiT isOk isBt 17) (eVar 1)) (eAn (eBin (oEqO false eqTab call) (eFd (ok_deeds) 0 (eVar 0)) (eFd (ok_deeds) 0 (eVar 1))) (eBin (oEqO false eqTab call) (eFd (ok_entries) 23 (eVar 0)) (eFd (ok_entries) 23 (eVar 1))))))
@[simp] theorem am_Paper__eq_ (call : CallT) (σ : Lo) (h : Hs) : m_Paper__eq_ call σ h = (sRt (eAn (eIsi (isiT isOk isBt 17) (eVar 1)) (eAn (eBin (oEqO false eqTab call) (eFd (ok_deeds) 0 (eVar 0)) (eFd (ok_deeds) 0 (eVar 1))) (eBin (oEqO false eqTab call) (eFd (ok_entries) 23 (eVar 0)) (eFd (ok_entries) 23 (eVar 1)))))) σ h := rfl
def m_Shut__init_ (call : CallT) : SemS := (sFd ok_paper 24 (eVar 0) (eVar 1))
@[simp] theorem am_Shut__init_ (call : CallT) (σ : Lo) (h : Hs) : m_Shut__init_ call σ h = (sFd ok_paper 24 (eVar 0) (eVar 1)) σ h := rfl
def m_Shut__eq_ (call : CallT) : SemS := (sRt (eAn (eIsi (isiT isOk isBt 18) (eVar 1)) (eBin (oEqO false eqTab call) (eFd (ok_paper) 24 (eVar 0)) (eFd (ok_paper) 24 (eVar 1)))))
@[simp] theorem am_Shut__eq_ (call : CallT) (σ : Lo) (h : Hs) : m_Shut__eq_ call σ h = (sRt (eAn (eIsi (isiT isOk isBt 18) (eVar 1)) (eBin (oEqO false eqTab call) (eFd (ok_paper) 24 (eVar 0)) (eFd (ok_paper) 24 (eVar 1))))) σ h := rfl
def m_is_outer_text (call : CallT) : SemS := (sRt (eAn (eIsi (isiL ["str"]) (eVar 0)) (eN nAll (aCons (eLc false [1] (iSt (eVar 0)) (gNm 1) tYs (eBin (oInC false) (eVar 1) (eK (.str "abc")))) aNil))))
@[simp] theorem am_is_outer_text (call : CallT) (σ : Lo) (h : Hs) : m_is_outer_text call σ h = (sRt (eAn (eIsi (isiL ["str"]) (eVar 0)) (eN nAll (aCons (eLc false [1] (iSt (eVar 0)) (gNm 1) tYs (eBin (oInC false) (eVar 1) (eK (.str "abc")))) aNil)))) σ h := rfl
def m_is_earlier (call : CallT) : SemS := (sRt (eAn (eCl call 0 [] (aCons (eVar 0) aNil)) (eChain oLe oLt (eK (.int 0)) (eVar 0) (eVar 1))))
@[simp] theorem am_is_earlier (call : CallT) (σ : Lo) (h : Hs) : m_is_earlier call σ h = (sRt (eAn (eCl call 0 [] (aCons (eVar 0) aNil)) (eChain oLe oLt (eK (.int 0)) (eVar 0) (eVar 1)))) σ h := rfl
def m_checked_rule (call : CallT) : SemS := (sSq (sIf (tOr' (tNo (tTru (eCl call 1 [] (aCons (eVar 0) aNil)))) (tOr' (tBl (eBin (oEqF false) (eN nLen (aCons (eVar 0) aNil)) (eK (.int 0)))) (tNo (tTru (eIsi (isiL ["str"]) (eBin oIx (eVar 0) (eK (.int 0))))))))
      (sRt (eK .non))
      sNil)
      (sSq (sIf (tBl (eBin (oEqF false) (eBin oIx (eVar 0) (eK (.int 0))) (eK (.str "text"))))
      (sAs (eAn (eBin (oEqF false) (eN nLen (aCons (eVar 0) aNil)) (eK (.int 2))) (eAn (eCl call 34 [] (aCons (eBin oIx (eVar 0) (eK (.int 1))) aNil)) (eChain oLe oLe (eK (.int 1)) (eN nLen (aCons (eBin oIx (eVar 0) (eK (.int 1))) aNil)) (eK (.int 400))))) (gNm 2))
      (sIf (tBl (eBin (oEqF false) (eBin oIx (eVar 0) (eK (.int 0))) (eK (.str "pair"))))
      (sAs (eAn (eBin (oEqF false) (eN nLen (aCons (eVar 0) aNil)) (eK (.int 3))) (eAn (eCl call 35 [] (aCons (eBin oIx (eVar 0) (eK (.int 1))) (aCons (eVar 1) aNil))) (eCl call 35 [] (aCons (eBin oIx (eVar 0) (eK (.int 2))) (aCons (eVar 1) aNil))))) (gNm 2))
      (sIf (tBl (eBin (oEqF false) (eBin oIx (eVar 0) (eK (.int 0))) (eK (.str "row"))))
      (sSq (sAs (eAn (eBin (oEqF false) (eN nLen (aCons (eVar 0) aNil)) (eK (.int 3))) (eAn (eCl call 35 [] (aCons (eBin oIx (eVar 0) (eK (.int 1))) (aCons (eVar 1) aNil))) (eCl call 0 [] (aCons (eBin oIx (eVar 0) (eK (.int 2))) aNil)))) (gNm 2))
      (sAs (eAn (eVar 2) (eChain oLe oLe (eK (.int 1)) (eBin oIx (eVar 0) (eK (.int 2))) (eK (.int 100000000000000000000000000000000000000000000000000000000000000)))) (gNm 2)))
      (sAs (eK (.bl false)) (gNm 2)))))
      (sRt (eIf (tTru (eVar 2)) (eN nTuple (aCons (eVar 0) aNil)) (eK .non)))))
@[simp] theorem am_checked_rule (call : CallT) (σ : Lo) (h : Hs) : m_checked_rule call σ h = (sSq (sIf (tOr' (tNo (tTru (eCl call 1 [] (aCons (eVar 0) aNil)))) (tOr' (tBl (eBin (oEqF false) (eN nLen (aCons (eVar 0) aNil)) (eK (.int 0)))) (tNo (tTru (eIsi (isiL ["str"]) (eBin oIx (eVar 0) (eK (.int 0))))))))
      (sRt (eK .non))
      sNil)
      (sSq (sIf (tBl (eBin (oEqF false) (eBin oIx (eVar 0) (eK (.int 0))) (eK (.str "text"))))
      (sAs (eAn (eBin (oEqF false) (eN nLen (aCons (eVar 0) aNil)) (eK (.int 2))) (eAn (eCl call 34 [] (aCons (eBin oIx (eVar 0) (eK (.int 1))) aNil)) (eChain oLe oLe (eK (.int 1)) (eN nLen (aCons (eBin oIx (eVar 0) (eK (.int 1))) aNil)) (eK (.int 400))))) (gNm 2))
      (sIf (tBl (eBin (oEqF false) (eBin oIx (eVar 0) (eK (.int 0))) (eK (.str "pair"))))
      (sAs (eAn (eBin (oEqF false) (eN nLen (aCons (eVar 0) aNil)) (eK (.int 3))) (eAn (eCl call 35 [] (aCons (eBin oIx (eVar 0) (eK (.int 1))) (aCons (eVar 1) aNil))) (eCl call 35 [] (aCons (eBin oIx (eVar 0) (eK (.int 2))) (aCons (eVar 1) aNil))))) (gNm 2))
      (sIf (tBl (eBin (oEqF false) (eBin oIx (eVar 0) (eK (.int 0))) (eK (.str "row"))))
      (sSq (sAs (eAn (eBin (oEqF false) (eN nLen (aCons (eVar 0) aNil)) (eK (.int 3))) (eAn (eCl call 35 [] (aCons (eBin oIx (eVar 0) (eK (.int 1))) (aCons (eVar 1) aNil))) (eCl call 0 [] (aCons (eBin oIx (eVar 0) (eK (.int 2))) aNil)))) (gNm 2))
      (sAs (eAn (eVar 2) (eChain oLe oLe (eK (.int 1)) (eBin oIx (eVar 0) (eK (.int 2))) (eK (.int 100000000000000000000000000000000000000000000000000000000000000)))) (gNm 2)))
      (sAs (eK (.bl false)) (gNm 2)))))
      (sRt (eIf (tTru (eVar 2)) (eN nTuple (aCons (eVar 0) aNil)) (eK .non))))) σ h := rfl
def b_checked_word_1 (call : CallT) : SemS := (sIf (tNo (tTru (eCl call 35 [] (aCons (eVar 2) (aCons (eN nLen (aCons (eFd (ok_rules) 25 (eVar 0)) aNil)) aNil)))))
      sBad
      sNil)
@[simp] theorem ab_checked_word_1 (call : CallT) (σ : Lo) (h : Hs) : b_checked_word_1 call σ h = (sIf (tNo (tTru (eCl call 35 [] (aCons (eVar 2) (aCons (eN nLen (aCons (eFd (ok_rules) 25 (eVar 0)) aNil)) aNil)))))
      sBad
      sNil) σ h := rfl
def m_checked_word (call : CallT) : SemS := (sSq (sIf (tNo (tTru (eCl call 1 [] (aCons (eVar 1) aNil))))
      sBad
      sNil)
      (sSq (sFor (iSeq (eVar 1)) (gNm 2)
      (b_checked_word_1 call))
      (sRt (eN nTuple (aCons (eVar 1) aNil)))))
@[simp] theorem am_checked_word (call : CallT) (σ : Lo) (h : Hs) : m_checked_word call σ h = (sSq (sIf (tNo (tTru (eCl call 1 [] (aCons (eVar 1) aNil))))
      sBad
      sNil)
      (sSq (sFor (iSeq (eVar 1)) (gNm 2)
      (b_checked_word_1 call))
      (sRt (eN nTuple (aCons (eVar 1) aNil))))) σ h := rfl
def b_rule_lengths_1 (call : CallT) : SemS := (sIf (tBl (eBin (oEqF false) (eBin oIx (eVar 2) (eK (.int 0))) (eK (.str "text"))))
      (sEx (eLm lmAppend (eVar 1) (aCons (eN nLen (aCons (eBin oIx (eVar 2) (eK (.int 1))) aNil)) aNil)))
      (sIf (tBl (eBin (oEqF false) (eBin oIx (eVar 2) (eK (.int 0))) (eK (.str "pair"))))
      (sEx (eLm lmAppend (eVar 1) (aCons (eBin oAdd (eBin oIx (eVar 1) (eBin oIx (eVar 2) (eK (.int 1)))) (eBin oIx (eVar 1) (eBin oIx (eVar 2) (eK (.int 2))))) aNil)))
      (sEx (eLm lmAppend (eVar 1) (aCons (eBin oMulI (eBin oIx (eVar 1) (eBin oIx (eVar 2) (eK (.int 1)))) (eBin oIx (eVar 2) (eK (.int 2)))) aNil)))))
@[simp] theorem ab_rule_lengths_1 (call : CallT) (σ : Lo) (h : Hs) : b_rule_lengths_1 call σ h = (sIf (tBl (eBin (oEqF false) (eBin oIx (eVar 2) (eK (.int 0))) (eK (.str "text"))))
      (sEx (eLm lmAppend (eVar 1) (aCons (eN nLen (aCons (eBin oIx (eVar 2) (eK (.int 1))) aNil)) aNil)))
      (sIf (tBl (eBin (oEqF false) (eBin oIx (eVar 2) (eK (.int 0))) (eK (.str "pair"))))
      (sEx (eLm lmAppend (eVar 1) (aCons (eBin oAdd (eBin oIx (eVar 1) (eBin oIx (eVar 2) (eK (.int 1)))) (eBin oIx (eVar 1) (eBin oIx (eVar 2) (eK (.int 2))))) aNil)))
      (sEx (eLm lmAppend (eVar 1) (aCons (eBin oMulI (eBin oIx (eVar 1) (eBin oIx (eVar 2) (eK (.int 1)))) (eBin oIx (eVar 2) (eK (.int 2)))) aNil))))) σ h := rfl
def m_rule_lengths (call : CallT) : SemS := (sSq (sAs (eLst aNil) (gNm 1))
      (sSq (sFor (iSeq (eVar 0)) (gNm 2)
      (b_rule_lengths_1 call))
      (sRt (eN nTuple (aCons (eVar 1) aNil)))))
@[simp] theorem am_rule_lengths (call : CallT) (σ : Lo) (h : Hs) : m_rule_lengths call σ h = (sSq (sAs (eLst aNil) (gNm 1))
      (sSq (sFor (iSeq (eVar 0)) (gNm 2)
      (b_rule_lengths_1 call))
      (sRt (eN nTuple (aCons (eVar 1) aNil))))) σ h := rfl
def b_Grammar__init__1 (call : CallT) : SemS := (sSq (sAs (eCl call 36 [] (aCons (eVar 4) (aCons (eVar 3) aNil))) (gNm 5))
      (sSq (sIf (tBl (eBin oIsN (eVar 5) (eK .non)))
      sBad
      sNil)
      (sEx (eLm lmAppend (eVar 2) (aCons (eVar 5) aNil)))))
@[simp] theorem ab_Grammar__init__1 (call : CallT) (σ : Lo) (h : Hs) : b_Grammar__init__1 call σ h = (sSq (sAs (eCl call 36 [] (aCons (eVar 4) (aCons (eVar 3) aNil))) (gNm 5))
      (sSq (sIf (tBl (eBin oIsN (eVar 5) (eK .non)))
      sBad
      sNil)
      (sEx (eLm lmAppend (eVar 2) (aCons (eVar 5) aNil))))) σ h := rfl
def m_Grammar__init_ (call : CallT) : SemS := (sSq (sIf (tNo (tTru (eCl call 1 [] (aCons (eVar 1) aNil))))
      sBad
      sNil)
      (sSq (sAs (eLst aNil) (gNm 2))
      (sSq (sFor (iEn (aCons (eVar 1) aNil)) (gTp 2 (gCo (gNm 3) (gCo (gNm 4) gNi)))
      (b_Grammar__init__1 call))
      (sSq (sFd ok_rules 25 (eVar 0) (eN nTuple (aCons (eVar 2) aNil)))
      (sFd ok_lengths 26 (eVar 0) (eCl call 38 [] (aCons (eFd (ok_rules) 25 (eVar 0)) aNil)))))))
@[simp] theorem am_Grammar__init_ (call : CallT) (σ : Lo) (h : Hs) : m_Grammar__init_ call σ h = (sSq (sIf (tNo (tTru (eCl call 1 [] (aCons (eVar 1) aNil))))
      sBad
      sNil)
      (sSq (sAs (eLst aNil) (gNm 2))
      (sSq (sFor (iEn (aCons (eVar 1) aNil)) (gTp 2 (gCo (gNm 3) (gCo (gNm 4) gNi)))
      (b_Grammar__init__1 call))
      (sSq (sFd ok_rules 25 (eVar 0) (eN nTuple (aCons (eVar 2) aNil)))
      (sFd ok_lengths 26 (eVar 0) (eCl call 38 [] (aCons (eFd (ok_rules) 25 (eVar 0)) aNil))))))) σ h := rfl
def m_Grammar__eq_ (call : CallT) : SemS := (sRt (eAn (eIsi (isiT isOk isBt 19) (eVar 1)) (eBin (oEqO false eqTab call) (eFd (ok_rules) 25 (eVar 0)) (eFd (ok_rules) 25 (eVar 1)))))
@[simp] theorem am_Grammar__eq_ (call : CallT) (σ : Lo) (h : Hs) : m_Grammar__eq_ call σ h = (sRt (eAn (eIsi (isiT isOk isBt 19) (eVar 1)) (eBin (oEqO false eqTab call) (eFd (ok_rules) 25 (eVar 0)) (eFd (ok_rules) 25 (eVar 1))))) σ h := rfl
def m_Pressed__init_ (call : CallT) : SemS := (sSq (sFd ok_table 27 (eVar 0) (eVar 1))
      (sFd ok_ends 1 (eVar 0) (eVar 2)))
@[simp] theorem am_Pressed__init_ (call : CallT) (σ : Lo) (h : Hs) : m_Pressed__init_ call σ h = (sSq (sFd ok_table 27 (eVar 0) (eVar 1))
      (sFd ok_ends 1 (eVar 0) (eVar 2))) σ h := rfl
def m_Pressed__eq_ (call : CallT) : SemS := (sRt (eAn (eIsi (isiT isOk isBt 20) (eVar 1)) (eAn (eBin (oEqO false eqTab call) (eFd (ok_table) 27 (eVar 0)) (eFd (ok_table) 27 (eVar 1))) (eBin (oEqO false eqTab call) (eFd (ok_ends) 1 (eVar 0)) (eFd (ok_ends) 1 (eVar 1))))))
@[simp] theorem am_Pressed__eq_ (call : CallT) (σ : Lo) (h : Hs) : m_Pressed__eq_ call σ h = (sRt (eAn (eIsi (isiT isOk isBt 20) (eVar 1)) (eAn (eBin (oEqO false eqTab call) (eFd (ok_table) 27 (eVar 0)) (eFd (ok_table) 27 (eVar 1))) (eBin (oEqO false eqTab call) (eFd (ok_ends) 1 (eVar 0)) (eFd (ok_ends) 1 (eVar 1)))))) σ h := rfl
def m_is_filled_name (call : CallT) : SemS := (sSq (sIf (tOr' (tNo (tTru (eIsi (isiL ["str"]) (eVar 0)))) (tOr' (tNo (tBl (eChain oLe oLe (eK (.int 2)) (eN nLen (aCons (eVar 0) aNil)) (eK (.int 9))))) (tBl (eBin (oEqF true) (eBin oIx (eVar 0) (eK (.int 0))) (eK (.str "?"))))))
      (sRt (eK (.bl false)))
      sNil)
      (sSq (sAs (eSl (eVar 0) (oSome (eK (.int 1))) oNone) (gNm 1))
      (sRt (eOr (eN nAll (aCons (eLc false [2] (iSt (eVar 1)) (gNm 2) tYs (eBin (oInC false) (eVar 2) (eK (.str "abcdefghijklmnopqrstuvwxyz")))) aNil)) (eN nAll (aCons (eLc false [2] (iSt (eVar 1)) (gNm 2) tYs (eBin (oInC false) (eVar 2) (eK (.str "0123456789")))) aNil))))))
@[simp] theorem am_is_filled_name (call : CallT) (σ : Lo) (h : Hs) : m_is_filled_name call σ h = (sSq (sIf (tOr' (tNo (tTru (eIsi (isiL ["str"]) (eVar 0)))) (tOr' (tNo (tBl (eChain oLe oLe (eK (.int 2)) (eN nLen (aCons (eVar 0) aNil)) (eK (.int 9))))) (tBl (eBin (oEqF true) (eBin oIx (eVar 0) (eK (.int 0))) (eK (.str "?"))))))
      (sRt (eK (.bl false)))
      sNil)
      (sSq (sAs (eSl (eVar 0) (oSome (eK (.int 1))) oNone) (gNm 1))
      (sRt (eOr (eN nAll (aCons (eLc false [2] (iSt (eVar 1)) (gNm 2) tYs (eBin (oInC false) (eVar 2) (eK (.str "abcdefghijklmnopqrstuvwxyz")))) aNil)) (eN nAll (aCons (eLc false [2] (iSt (eVar 1)) (gNm 2) tYs (eBin (oInC false) (eVar 2) (eK (.str "0123456789")))) aNil)))))) σ h := rfl
def m_checked_couple (call : CallT) : SemS := (sSq (sIf (tOr' (tNo (tTru (eCl call 1 [] (aCons (eVar 0) aNil)))) (tOr' (tBl (eBin (oEqF true) (eN nLen (aCons (eVar 0) aNil)) (eK (.int 2)))) (tOr' (tNo (tTru (eCl call 43 [] (aCons (eBin oIx (eVar 0) (eK (.int 0))) aNil)))) (tBl (eBin oLeS (eBin oIx (eVar 0) (eK (.int 0))) (eVar 1))))))
      sBad
      sNil)
      (sRt (eVar 0)))
@[simp] theorem am_checked_couple (call : CallT) (σ : Lo) (h : Hs) : m_checked_couple call σ h = (sSq (sIf (tOr' (tNo (tTru (eCl call 1 [] (aCons (eVar 0) aNil)))) (tOr' (tBl (eBin (oEqF true) (eN nLen (aCons (eVar 0) aNil)) (eK (.int 2)))) (tOr' (tNo (tTru (eCl call 43 [] (aCons (eBin oIx (eVar 0) (eK (.int 0))) aNil)))) (tBl (eBin oLeS (eBin oIx (eVar 0) (eK (.int 0))) (eVar 1))))))
      sBad
      sNil)
      (sRt (eVar 0))) σ h := rfl
def b_Filling__init__1 (call : CallT) : SemS := (sSq (sAs (eCl call 44 [] (aCons (eVar 6) (aCons (eVar 4) (aCons (eVar 5) aNil)))) (gTp 2 (gCo (gNm 4) (gCo (gNm 7) gNi))))
      (sThru (sEx (eLm lmAppend (eVar 3) (aCons (eTup (aCons (eVar 4) (aCons (eCl call 37 [] (aCons (eVar 1) (aCons (eVar 7) aNil))) aNil))) aNil)))))
@[simp] theorem ab_Filling__init__1 (call : CallT) (σ : Lo) (h : Hs) : b_Filling__init__1 call σ h = (sSq (sAs (eCl call 44 [] (aCons (eVar 6) (aCons (eVar 4) (aCons (eVar 5) aNil)))) (gTp 2 (gCo (gNm 4) (gCo (gNm 7) gNi))))
      (sThru (sEx (eLm lmAppend (eVar 3) (aCons (eTup (aCons (eVar 4) (aCons (eCl call 37 [] (aCons (eVar 1) (aCons (eVar 7) aNil))) aNil))) aNil))))) σ h := rfl
def m_Filling__init_ (call : CallT) : SemS := (sSq (sIf (tNo (tTru (eCl call 1 [] (aCons (eVar 2) aNil))))
      sBad
      sNil)
      (sSq (sFd ok_grammar 28 (eVar 0) (eVar 1))
      (sSq (sAs (eLst aNil) (gNm 3))
      (sSq (sAs (eK (.str "")) (gNm 4))
      (sSq (sFor (iEn (aCons (eVar 2) aNil)) (gTp 2 (gCo (gNm 5) (gCo (gNm 6) gNi)))
      (b_Filling__init__1 call))
      (sFd ok_words 29 (eVar 0) (eN nTuple (aCons (eVar 3) aNil))))))))
@[simp] theorem am_Filling__init_ (call : CallT) (σ : Lo) (h : Hs) : m_Filling__init_ call σ h = (sSq (sIf (tNo (tTru (eCl call 1 [] (aCons (eVar 2) aNil))))
      sBad
      sNil)
      (sSq (sFd ok_grammar 28 (eVar 0) (eVar 1))
      (sSq (sAs (eLst aNil) (gNm 3))
      (sSq (sAs (eK (.str "")) (gNm 4))
      (sSq (sFor (iEn (aCons (eVar 2) aNil)) (gTp 2 (gCo (gNm 5) (gCo (gNm 6) gNi)))
      (b_Filling__init__1 call))
      (sFd ok_words 29 (eVar 0) (eN nTuple (aCons (eVar 3) aNil)))))))) σ h := rfl
def m_Filling__eq_ (call : CallT) : SemS := (sRt (eAn (eIsi (isiT isOk isBt 21) (eVar 1)) (eAn (eBin (oEqO false eqTab call) (eFd (ok_grammar) 28 (eVar 0)) (eFd (ok_grammar) 28 (eVar 1))) (eBin (oEqO false eqTab call) (eFd (ok_words) 29 (eVar 0)) (eFd (ok_words) 29 (eVar 1))))))
@[simp] theorem am_Filling__eq_ (call : CallT) (σ : Lo) (h : Hs) : m_Filling__eq_ call σ h = (sRt (eAn (eIsi (isiT isOk isBt 21) (eVar 1)) (eAn (eBin (oEqO false eqTab call) (eFd (ok_grammar) 28 (eVar 0)) (eFd (ok_grammar) 28 (eVar 1))) (eBin (oEqO false eqTab call) (eFd (ok_words) 29 (eVar 0)) (eFd (ok_words) 29 (eVar 1)))))) σ h := rfl
def b_filling_of_1 (call : CallT) : SemS := (sSq (sAs (eCl call 44 [] (aCons (eVar 5) (aCons (eVar 1) (aCons (eVar 4) aNil)))) (gTp 2 (gCo (gNm 1) (gCo (gNm 6) gNi))))
      (sSq (sIf (tOr' (tNo (tTru (eCl call 34 [] (aCons (eVar 6) aNil)))) (tBl (eBin oGt (eN nLen (aCons (eVar 6) aNil)) (eK (.int 400)))))
      sBad
      sNil)
      (sIf (tTru (eVar 6))
      (sSq (sEx (eLm lmAppend (eVar 3) (aCons (eTup (aCons (eVar 1) (aCons (eTup (aCons (eN nLen (aCons (eVar 2) aNil)) aNil)) aNil))) aNil)))
      (sEx (eLm lmAppend (eVar 2) (aCons (eTup (aCons (eK (.str "text")) (aCons (eVar 6) aNil))) aNil))))
      (sEx (eLm lmAppend (eVar 3) (aCons (eTup (aCons (eVar 1) (aCons (eTup aNil) aNil))) aNil))))))
@[simp] theorem ab_filling_of_1 (call : CallT) (σ : Lo) (h : Hs) : b_filling_of_1 call σ h = (sSq (sAs (eCl call 44 [] (aCons (eVar 5) (aCons (eVar 1) (aCons (eVar 4) aNil)))) (gTp 2 (gCo (gNm 1) (gCo (gNm 6) gNi))))
      (sSq (sIf (tOr' (tNo (tTru (eCl call 34 [] (aCons (eVar 6) aNil)))) (tBl (eBin oGt (eN nLen (aCons (eVar 6) aNil)) (eK (.int 400)))))
      sBad
      sNil)
      (sIf (tTru (eVar 6))
      (sSq (sEx (eLm lmAppend (eVar 3) (aCons (eTup (aCons (eVar 1) (aCons (eTup (aCons (eN nLen (aCons (eVar 2) aNil)) aNil)) aNil))) aNil)))
      (sEx (eLm lmAppend (eVar 2) (aCons (eTup (aCons (eK (.str "text")) (aCons (eVar 6) aNil))) aNil))))
      (sEx (eLm lmAppend (eVar 3) (aCons (eTup (aCons (eVar 1) (aCons (eTup aNil) aNil))) aNil)))))) σ h := rfl
def m_filling_of (call : CallT) : SemS := (sSq (sIf (tNo (tTru (eCl call 1 [] (aCons (eVar 0) aNil))))
      sBad
      sNil)
      (sSq (sAs (eK (.str "")) (gNm 1))
      (sSq (sAs (eLst aNil) (gNm 2))
      (sSq (sAs (eLst aNil) (gNm 3))
      (sSq (sFor (iEn (aCons (eVar 0) aNil)) (gTp 2 (gCo (gNm 4) (gCo (gNm 5) gNi)))
      (b_filling_of_1 call))
      (sSq (sFrz 3) (sSq (sFrz 2) (sRt (eMk call 45 21 [] (aCons (eMk call 39 19 [] (aCons (eVar 2) aNil)) (aCons (eVar 3) aNil)))))))))))
@[simp] theorem am_filling_of (call : CallT) (σ : Lo) (h : Hs) : m_filling_of call σ h = (sSq (sIf (tNo (tTru (eCl call 1 [] (aCons (eVar 0) aNil))))
      sBad
      sNil)
      (sSq (sAs (eK (.str "")) (gNm 1))
      (sSq (sAs (eLst aNil) (gNm 2))
      (sSq (sAs (eLst aNil) (gNm 3))
      (sSq (sFor (iEn (aCons (eVar 0) aNil)) (gTp 2 (gCo (gNm 4) (gCo (gNm 5) gNi)))
      (b_filling_of_1 call))
      (sSq (sFrz 3) (sSq (sFrz 2) (sRt (eMk call 45 21 [] (aCons (eMk call 39 19 [] (aCons (eVar 2) aNil)) (aCons (eVar 3) aNil))))))))))) σ h := rfl
def m_Root__init_ (call : CallT) : SemS := (sSq (sFd ok_told 8 (eVar 0) (eVar 1))
      (sSq (sFd ok_letters 9 (eVar 0) (eVar 2))
      (sSq (sFd ok_unknowns 10 (eVar 0) (eVar 3))
      (sSq (sFd ok_spares 11 (eVar 0) (eVar 4))
      (sFd ok_empties 30 (eVar 0) (eVar 5))))))
@[simp] theorem am_Root__init_ (call : CallT) (σ : Lo) (h : Hs) : m_Root__init_ call σ h = (sSq (sFd ok_told 8 (eVar 0) (eVar 1))
      (sSq (sFd ok_letters 9 (eVar 0) (eVar 2))
      (sSq (sFd ok_unknowns 10 (eVar 0) (eVar 3))
      (sSq (sFd ok_spares 11 (eVar 0) (eVar 4))
      (sFd ok_empties 30 (eVar 0) (eVar 5)))))) σ h := rfl
def m_Root__eq_ (call : CallT) : SemS := (sRt (eAn (eIsi (isiT isOk isBt 22) (eVar 1)) (eAn (eBin (oEqO false eqTab call) (eFd (ok_told) 8 (eVar 0)) (eFd (ok_told) 8 (eVar 1))) (eAn (eBin (oEqO false eqTab call) (eFd (ok_letters) 9 (eVar 0)) (eFd (ok_letters) 9 (eVar 1))) (eAn (eBin (oEqO false eqTab call) (eFd (ok_unknowns) 10 (eVar 0)) (eFd (ok_unknowns) 10 (eVar 1))) (eAn (eBin (oEqO false eqTab call) (eFd (ok_spares) 11 (eVar 0)) (eFd (ok_spares) 11 (eVar 1))) (eBin (oEqO false eqTab call) (eFd (ok_empties) 30 (eVar 0)) (eFd (ok_empties) 30 (eVar 1)))))))))
@[simp] theorem am_Root__eq_ (call : CallT) (σ : Lo) (h : Hs) : m_Root__eq_ call σ h = (sRt (eAn (eIsi (isiT isOk isBt 22) (eVar 1)) (eAn (eBin (oEqO false eqTab call) (eFd (ok_told) 8 (eVar 0)) (eFd (ok_told) 8 (eVar 1))) (eAn (eBin (oEqO false eqTab call) (eFd (ok_letters) 9 (eVar 0)) (eFd (ok_letters) 9 (eVar 1))) (eAn (eBin (oEqO false eqTab call) (eFd (ok_unknowns) 10 (eVar 0)) (eFd (ok_unknowns) 10 (eVar 1))) (eAn (eBin (oEqO false eqTab call) (eFd (ok_spares) 11 (eVar 0)) (eFd (ok_spares) 11 (eVar 1))) (eBin (oEqO false eqTab call) (eFd (ok_empties) 30 (eVar 0)) (eFd (ok_empties) 30 (eVar 1))))))))) σ h := rfl
def m_Trail__init_ (call : CallT) : SemS := (sSq (sFd ok_root 31 (eVar 0) (eVar 1))
      (sFd ok_turns 32 (eVar 0) (eVar 2)))
@[simp] theorem am_Trail__init_ (call : CallT) (σ : Lo) (h : Hs) : m_Trail__init_ call σ h = (sSq (sFd ok_root 31 (eVar 0) (eVar 1))
      (sFd ok_turns 32 (eVar 0) (eVar 2))) σ h := rfl
def m_Trail__eq_ (call : CallT) : SemS := (sRt (eAn (eIsi (isiT isOk isBt 23) (eVar 1)) (eAn (eBin (oEqO false eqTab call) (eFd (ok_root) 31 (eVar 0)) (eFd (ok_root) 31 (eVar 1))) (eBin (oEqO false eqTab call) (eFd (ok_turns) 32 (eVar 0)) (eFd (ok_turns) 32 (eVar 1))))))
@[simp] theorem am_Trail__eq_ (call : CallT) (σ : Lo) (h : Hs) : m_Trail__eq_ call σ h = (sRt (eAn (eIsi (isiT isOk isBt 23) (eVar 1)) (eAn (eBin (oEqO false eqTab call) (eFd (ok_root) 31 (eVar 0)) (eFd (ok_root) 31 (eVar 1))) (eBin (oEqO false eqTab call) (eFd (ok_turns) 32 (eVar 0)) (eFd (ok_turns) 32 (eVar 1)))))) σ h := rfl
def m_Stages__init_ (call : CallT) : SemS := (sSq (sFd ok_grammar 28 (eVar 0) (eVar 1))
      (sFd ok_stages 33 (eVar 0) (eVar 2)))
@[simp] theorem am_Stages__init_ (call : CallT) (σ : Lo) (h : Hs) : m_Stages__init_ call σ h = (sSq (sFd ok_grammar 28 (eVar 0) (eVar 1))
      (sFd ok_stages 33 (eVar 0) (eVar 2))) σ h := rfl
def m_Stages__eq_ (call : CallT) : SemS := (sRt (eAn (eIsi (isiT isOk isBt 24) (eVar 1)) (eAn (eBin (oEqO false eqTab call) (eFd (ok_grammar) 28 (eVar 0)) (eFd (ok_grammar) 28 (eVar 1))) (eBin (oEqO false eqTab call) (eFd (ok_stages) 33 (eVar 0)) (eFd (ok_stages) 33 (eVar 1))))))
@[simp] theorem am_Stages__eq_ (call : CallT) (σ : Lo) (h : Hs) : m_Stages__eq_ call σ h = (sRt (eAn (eIsi (isiT isOk isBt 24) (eVar 1)) (eAn (eBin (oEqO false eqTab call) (eFd (ok_grammar) 28 (eVar 0)) (eFd (ok_grammar) 28 (eVar 1))) (eBin (oEqO false eqTab call) (eFd (ok_stages) 33 (eVar 0)) (eFd (ok_stages) 33 (eVar 1)))))) σ h := rfl
def m_Run__init_ (call : CallT) : SemS := (sSq (sFd ok_turns 32 (eVar 0) (eVar 1))
      (sSq (sFd ok_used 34 (eVar 0) (eVar 2))
      (sSq (sFd ok_ends 1 (eVar 0) (eVar 3))
      (sFd ok_stop 35 (eVar 0) (eVar 4)))))
@[simp] theorem am_Run__init_ (call : CallT) (σ : Lo) (h : Hs) : m_Run__init_ call σ h = (sSq (sFd ok_turns 32 (eVar 0) (eVar 1))
      (sSq (sFd ok_used 34 (eVar 0) (eVar 2))
      (sSq (sFd ok_ends 1 (eVar 0) (eVar 3))
      (sFd ok_stop 35 (eVar 0) (eVar 4))))) σ h := rfl
def m_Run__eq_ (call : CallT) : SemS := (sRt (eAn (eIsi (isiT isOk isBt 25) (eVar 1)) (eAn (eBin (oEqO false eqTab call) (eFd (ok_turns) 32 (eVar 0)) (eFd (ok_turns) 32 (eVar 1))) (eAn (eBin (oEqO false eqTab call) (eFd (ok_used) 34 (eVar 0)) (eFd (ok_used) 34 (eVar 1))) (eAn (eBin (oEqO false eqTab call) (eFd (ok_ends) 1 (eVar 0)) (eFd (ok_ends) 1 (eVar 1))) (eBin (oEqO false eqTab call) (eFd (ok_stop) 35 (eVar 0)) (eFd (ok_stop) 35 (eVar 1))))))))
@[simp] theorem am_Run__eq_ (call : CallT) (σ : Lo) (h : Hs) : m_Run__eq_ call σ h = (sRt (eAn (eIsi (isiT isOk isBt 25) (eVar 1)) (eAn (eBin (oEqO false eqTab call) (eFd (ok_turns) 32 (eVar 0)) (eFd (ok_turns) 32 (eVar 1))) (eAn (eBin (oEqO false eqTab call) (eFd (ok_used) 34 (eVar 0)) (eFd (ok_used) 34 (eVar 1))) (eAn (eBin (oEqO false eqTab call) (eFd (ok_ends) 1 (eVar 0)) (eFd (ok_ends) 1 (eVar 1))) (eBin (oEqO false eqTab call) (eFd (ok_stop) 35 (eVar 0)) (eFd (ok_stop) 35 (eVar 1)))))))) σ h := rfl
def m_Way__init_ (call : CallT) : SemS := (sSq (sFd ok_turns 32 (eVar 0) (eVar 1))
      (sSq (sFd ok_reads 36 (eVar 0) (eVar 2))
      (sSq (sFd ok_sayings 37 (eVar 0) (eVar 3))
      (sSq (sFd ok_ends 1 (eVar 0) (eVar 4))
      (sFd ok_stop 35 (eVar 0) (eVar 5))))))
@[simp] theorem am_Way__init_ (call : CallT) (σ : Lo) (h : Hs) : m_Way__init_ call σ h = (sSq (sFd ok_turns 32 (eVar 0) (eVar 1))
      (sSq (sFd ok_reads 36 (eVar 0) (eVar 2))
      (sSq (sFd ok_sayings 37 (eVar 0) (eVar 3))
      (sSq (sFd ok_ends 1 (eVar 0) (eVar 4))
      (sFd ok_stop 35 (eVar 0) (eVar 5)))))) σ h := rfl
def m_Way__eq_ (call : CallT) : SemS := (sRt (eAn (eIsi (isiT isOk isBt 26) (eVar 1)) (eAn (eBin (oEqO false eqTab call) (eFd (ok_turns) 32 (eVar 0)) (eFd (ok_turns) 32 (eVar 1))) (eAn (eBin (oEqO false eqTab call) (eFd (ok_reads) 36 (eVar 0)) (eFd (ok_reads) 36 (eVar 1))) (eAn (eBin (oEqO false eqTab call) (eFd (ok_sayings) 37 (eVar 0)) (eFd (ok_sayings) 37 (eVar 1))) (eAn (eBin (oEqO false eqTab call) (eFd (ok_ends) 1 (eVar 0)) (eFd (ok_ends) 1 (eVar 1))) (eBin (oEqO false eqTab call) (eFd (ok_stop) 35 (eVar 0)) (eFd (ok_stop) 35 (eVar 1)))))))))
@[simp] theorem am_Way__eq_ (call : CallT) (σ : Lo) (h : Hs) : m_Way__eq_ call σ h = (sRt (eAn (eIsi (isiT isOk isBt 26) (eVar 1)) (eAn (eBin (oEqO false eqTab call) (eFd (ok_turns) 32 (eVar 0)) (eFd (ok_turns) 32 (eVar 1))) (eAn (eBin (oEqO false eqTab call) (eFd (ok_reads) 36 (eVar 0)) (eFd (ok_reads) 36 (eVar 1))) (eAn (eBin (oEqO false eqTab call) (eFd (ok_sayings) 37 (eVar 0)) (eFd (ok_sayings) 37 (eVar 1))) (eAn (eBin (oEqO false eqTab call) (eFd (ok_ends) 1 (eVar 0)) (eFd (ok_ends) 1 (eVar 1))) (eBin (oEqO false eqTab call) (eFd (ok_stop) 35 (eVar 0)) (eFd (ok_stop) 35 (eVar 1))))))))) σ h := rfl
def m_Found__init_ (call : CallT) : SemS := (sSq (sFd ok_turns 32 (eVar 0) (eVar 1))
      (sFd ok_filling 38 (eVar 0) (eVar 2)))
@[simp] theorem am_Found__init_ (call : CallT) (σ : Lo) (h : Hs) : m_Found__init_ call σ h = (sSq (sFd ok_turns 32 (eVar 0) (eVar 1))
      (sFd ok_filling 38 (eVar 0) (eVar 2))) σ h := rfl
def m_Found__eq_ (call : CallT) : SemS := (sRt (eAn (eIsi (isiT isOk isBt 27) (eVar 1)) (eAn (eBin (oEqO false eqTab call) (eFd (ok_turns) 32 (eVar 0)) (eFd (ok_turns) 32 (eVar 1))) (eBin (oEqO false eqTab call) (eFd (ok_filling) 38 (eVar 0)) (eFd (ok_filling) 38 (eVar 1))))))
@[simp] theorem am_Found__eq_ (call : CallT) (σ : Lo) (h : Hs) : m_Found__eq_ call σ h = (sRt (eAn (eIsi (isiT isOk isBt 27) (eVar 1)) (eAn (eBin (oEqO false eqTab call) (eFd (ok_turns) 32 (eVar 0)) (eFd (ok_turns) 32 (eVar 1))) (eBin (oEqO false eqTab call) (eFd (ok_filling) 38 (eVar 0)) (eFd (ok_filling) 38 (eVar 1)))))) σ h := rfl
def m_Never__init_ (call : CallT) : SemS := (sFd ok_papers 39 (eVar 0) (eVar 1))
@[simp] theorem am_Never__init_ (call : CallT) (σ : Lo) (h : Hs) : m_Never__init_ call σ h = (sFd ok_papers 39 (eVar 0) (eVar 1)) σ h := rfl
def m_Never__eq_ (call : CallT) : SemS := (sRt (eAn (eIsi (isiT isOk isBt 28) (eVar 1)) (eBin (oEqO false eqTab call) (eFd (ok_papers) 39 (eVar 0)) (eFd (ok_papers) 39 (eVar 1)))))
@[simp] theorem am_Never__eq_ (call : CallT) (σ : Lo) (h : Hs) : m_Never__eq_ call σ h = (sRt (eAn (eIsi (isiT isOk isBt 28) (eVar 1)) (eBin (oEqO false eqTab call) (eFd (ok_papers) 39 (eVar 0)) (eFd (ok_papers) 39 (eVar 1))))) σ h := rfl
def m_Trial__init_ (call : CallT) : SemS := (sSq (sFd ok_tolds 40 (eVar 0) (eVar 1))
      (sFd ok_refused 41 (eVar 0) (eVar 2)))
@[simp] theorem am_Trial__init_ (call : CallT) (σ : Lo) (h : Hs) : m_Trial__init_ call σ h = (sSq (sFd ok_tolds 40 (eVar 0) (eVar 1))
      (sFd ok_refused 41 (eVar 0) (eVar 2))) σ h := rfl
def m_Trial__eq_ (call : CallT) : SemS := (sRt (eAn (eIsi (isiT isOk isBt 29) (eVar 1)) (eAn (eBin (oEqO false eqTab call) (eFd (ok_tolds) 40 (eVar 0)) (eFd (ok_tolds) 40 (eVar 1))) (eBin (oEqO false eqTab call) (eFd (ok_refused) 41 (eVar 0)) (eFd (ok_refused) 41 (eVar 1))))))
@[simp] theorem am_Trial__eq_ (call : CallT) (σ : Lo) (h : Hs) : m_Trial__eq_ call σ h = (sRt (eAn (eIsi (isiT isOk isBt 29) (eVar 1)) (eAn (eBin (oEqO false eqTab call) (eFd (ok_tolds) 40 (eVar 0)) (eFd (ok_tolds) 40 (eVar 1))) (eBin (oEqO false eqTab call) (eFd (ok_refused) 41 (eVar 0)) (eFd (ok_refused) 41 (eVar 1)))))) σ h := rfl
def m__law_source (call : CallT) : SemS := (sRt (eLst (aCons (eN nListV (aCons (eVar 0) aNil)) (aCons (eK (.int 0)) (aCons (eK (.int 0)) (aCons (eK (.int 1)) aNil))))))
@[simp] theorem am__law_source (call : CallT) (σ : Lo) (h : Hs) : m__law_source call σ h = (sRt (eLst (aCons (eN nListV (aCons (eVar 0) aNil)) (aCons (eK (.int 0)) (aCons (eK (.int 0)) (aCons (eK (.int 1)) aNil)))))) σ h := rfl
def m__law_take (call : CallT) : SemS := (sSq (sIf (tBl (eBin (oEqF false) (eBin oIx (eVar 0) (eK (.int 2))) (eK (.int 0))))
      (sSq (sAs (eK (.int 0)) (gNm 2))
      (sSq (sIf (tBl (eBin oLt (eBin oIx (eVar 0) (eK (.int 1))) (eN nLen (aCons (eBin oIx (eVar 0) (eK (.int 0))) aNil))))
      (sAs (eBin oIx (eBin oIx (eVar 0) (eK (.int 0))) (eBin oIx (eVar 0) (eK (.int 1)))) (gNm 2))
      sNil)
      (sSq (sAs (eBin oAdd (eBin oIx (eVar 0) (eK (.int 1))) (eK (.int 1))) (gSt (eVar 0) (eK (.int 1))))
      (sIf (tBl (eBin oGe (eVar 2) (eBin oPow (eK (.int 10)) (eK (.int 18)))))
      (sAs (eVar 2) (gSt (eVar 0) (eK (.int 2))))
      (sSq (sAs (eBin oMod (eN nInt (aCons (eBin oAdd (eBin oAdd (eBin oAdd (eBin oMulI (eBin oIx (eVar 0) (eK (.int 3))) (eK (.int 69621))) (eBin oMulI (eBin oMod (eN nInt (aCons (eVar 2) aNil)) (eK (.int 2147483629))) (eK (.int 48271)))) (eBin oMulI (eBin oIx (eVar 0) (eK (.int 1))) (eK (.int 7919)))) (eK (.int 1))) aNil)) (eK (.int 2147483647))) (gNm 3))
      (sSq (sAs (eBin oMod (eN nInt (aCons (eBin oAdd (eBin oAdd (eBin oMulI (eVar 3) (eVar 3)) (eBin oMulI (eBin oIx (eVar 0) (eK (.int 1))) (eK (.int 104729)))) (eK (.int 13))) aNil)) (eK (.int 2147483629))) (gNm 3))
      (sSq (sAs (eVar 3) (gSt (eVar 0) (eK (.int 3))))
      (sRt (eBin oMod (eBin oDiv (eVar 3) (eK (.int 7))) (eVar 1))))))))))
      sNil)
      (sSq (sAs (eBin oMod (eN nInt (aCons (eBin oIx (eVar 0) (eK (.int 2))) aNil)) (eVar 1)) (gNm 4))
      (sSq (sAs (eBin oDiv (eBin oIx (eVar 0) (eK (.int 2))) (eVar 1)) (gSt (eVar 0) (eK (.int 2))))
      (sRt (eVar 4)))))
@[simp] theorem am__law_take (call : CallT) (σ : Lo) (h : Hs) : m__law_take call σ h = (sSq (sIf (tBl (eBin (oEqF false) (eBin oIx (eVar 0) (eK (.int 2))) (eK (.int 0))))
      (sSq (sAs (eK (.int 0)) (gNm 2))
      (sSq (sIf (tBl (eBin oLt (eBin oIx (eVar 0) (eK (.int 1))) (eN nLen (aCons (eBin oIx (eVar 0) (eK (.int 0))) aNil))))
      (sAs (eBin oIx (eBin oIx (eVar 0) (eK (.int 0))) (eBin oIx (eVar 0) (eK (.int 1)))) (gNm 2))
      sNil)
      (sSq (sAs (eBin oAdd (eBin oIx (eVar 0) (eK (.int 1))) (eK (.int 1))) (gSt (eVar 0) (eK (.int 1))))
      (sIf (tBl (eBin oGe (eVar 2) (eBin oPow (eK (.int 10)) (eK (.int 18)))))
      (sAs (eVar 2) (gSt (eVar 0) (eK (.int 2))))
      (sSq (sAs (eBin oMod (eN nInt (aCons (eBin oAdd (eBin oAdd (eBin oAdd (eBin oMulI (eBin oIx (eVar 0) (eK (.int 3))) (eK (.int 69621))) (eBin oMulI (eBin oMod (eN nInt (aCons (eVar 2) aNil)) (eK (.int 2147483629))) (eK (.int 48271)))) (eBin oMulI (eBin oIx (eVar 0) (eK (.int 1))) (eK (.int 7919)))) (eK (.int 1))) aNil)) (eK (.int 2147483647))) (gNm 3))
      (sSq (sAs (eBin oMod (eN nInt (aCons (eBin oAdd (eBin oAdd (eBin oMulI (eVar 3) (eVar 3)) (eBin oMulI (eBin oIx (eVar 0) (eK (.int 1))) (eK (.int 104729)))) (eK (.int 13))) aNil)) (eK (.int 2147483629))) (gNm 3))
      (sSq (sAs (eVar 3) (gSt (eVar 0) (eK (.int 3))))
      (sRt (eBin oMod (eBin oDiv (eVar 3) (eK (.int 7))) (eVar 1))))))))))
      sNil)
      (sSq (sAs (eBin oMod (eN nInt (aCons (eBin oIx (eVar 0) (eK (.int 2))) aNil)) (eVar 1)) (gNm 4))
      (sSq (sAs (eBin oDiv (eBin oIx (eVar 0) (eK (.int 2))) (eVar 1)) (gSt (eVar 0) (eK (.int 2))))
      (sRt (eVar 4))))) σ h := rfl
def m__law_book (call : CallT) : SemS := (sRt (eMk call 8 6 [.int 1] (aCons (eLv (aCons (eTup (aCons (eBin oMulT (eTup (aCons (eK (.int 0)) aNil)) (eVar 0)) (aCons (eTup (aCons (eUn oNeg (eK (.int 1))) aNil)) aNil))) aNil)) (aCons (eLv (aCons (eTup (aCons (eK (.int 0)) aNil)) aNil)) (aCons (eLv (aCons (eTup (aCons (eK (.int 0)) (aCons (eTup (aCons (eK (.int 0)) aNil)) aNil))) aNil)) aNil)))))
@[simp] theorem am__law_book (call : CallT) (σ : Lo) (h : Hs) : m__law_book call σ h = (sRt (eMk call 8 6 [.int 1] (aCons (eLv (aCons (eTup (aCons (eBin oMulT (eTup (aCons (eK (.int 0)) aNil)) (eVar 0)) (aCons (eTup (aCons (eUn oNeg (eK (.int 1))) aNil)) aNil))) aNil)) (aCons (eLv (aCons (eTup (aCons (eK (.int 0)) aNil)) aNil)) (aCons (eLv (aCons (eTup (aCons (eK (.int 0)) (aCons (eTup (aCons (eK (.int 0)) aNil)) aNil))) aNil)) aNil))))) σ h := rfl
def m__law_part (call : CallT) : SemS := (sSq (sIf (tBl (eBin (oEqF false) (eVar 0) (eK (.str "T"))))
      (sRt (eN nTuple (aCons (eLc false [2] (iA1 (aCons (eBin oAdd (eK (.int 1)) (eBin oMod (eVar 1) (eK (.int 3)))) aNil)) (gNm 2) tYs (eBin oMulI (eBin oAdd (eVar 1) (eVar 2)) (eBin oAdd (eVar 1) (eK (.int 1))))) aNil)))
      sNil)
      (sSq (sIf (tBl (eBin (oEqF false) (eVar 0) (eK (.str "N"))))
      (sRt (eVar 1))
      sNil)
      (sSq (sIf (tBl (eBin (oEqF false) (eVar 0) (eK (.str "D"))))
      (sRt (eTup (aCons (eBin oMulT (eTup (aCons (eK (.int 0)) aNil)) (eVar 1)) aNil)))
      sNil)
      (sSq (sIf (tBl (eBin (oEqF false) (eVar 0) (eK (.str "B"))))
      (sRt (eCl call 66 [] (aCons (eVar 1) aNil)))
      sNil)
      (sSq (sIf (tBl (eBin (oEqF false) (eVar 0) (eK (.str "W"))))
      (sRt (eBin oIx (eLv (aCons (eK (.str "front")) (aCons (eK (.str "back")) (aCons (eK (.str "empty")) (aCons (eK (.str "state")) aNil))))) (eBin oMod (eN nInt (aCons (eVar 1) aNil)) (eK (.int 4)))))
      sNil)
      (sSq (sIf (tBl (eBin (oEqF false) (eVar 0) (eK (.str "L"))))
      (sRt (eBin (oEqF false) (eBin oMod (eN nInt (aCons (eVar 1) aNil)) (eK (.int 2))) (eK (.int 0))))
      sNil)
      (sSq (sIf (tBl (eBin (oEqF false) (eVar 0) (eK (.str "G"))))
      (sRt (eMk call 39 19 [] (aCons (eLv (aCons (eTup (aCons (eK (.str "text")) (aCons (eBin oMulT (eK (.str "a")) (eVar 1)) aNil))) aNil)) aNil)))
      sNil)
      (sSq (sIf (tBl (eBin (oEqF false) (eVar 0) (eK (.str "F"))))
      (sRt (eCl call 47 [] (aCons (eLv (aCons (eTup (aCons (eK (.str "?x")) (aCons (eBin oMulT (eK (.str "a")) (eVar 1)) aNil))) aNil)) aNil)))
      sNil)
      (sSq (sIf (tBl (eBin (oEqF false) (eVar 0) (eK (.str "E"))))
      (sRt (eTup (aCons (eMk call 28 16 [] (aCons (eCl call 66 [] (aCons (eVar 1) aNil)) (aCons (eTup (aCons (eK (.str "first")) (aCons (eK (.int 0)) aNil))) (aCons (eTup aNil) aNil)))) aNil)))
      sNil)
      (sSq (sIf (tBl (eBin (oEqF false) (eVar 0) (eK (.str "P"))))
      (sRt (eMk call 30 17 [] (aCons (eTup (aCons (eTup (aCons (eK (.int 0)) aNil)) aNil)) (aCons (eTup (aCons (eMk call 28 16 [] (aCons (eCl call 66 [] (aCons (eVar 1) aNil)) (aCons (eTup (aCons (eK (.str "first")) (aCons (eK (.int 0)) aNil))) (aCons (eTup aNil) aNil)))) aNil)) aNil))))
      sNil)
      (sSq (sIf (tBl (eBin (oEqF false) (eVar 0) (eK (.str "R"))))
      (sRt (eTup (aCons (eTup (aCons (eBin oMulT (eTup (aCons (eK (.str "a")) aNil)) (eVar 1)) (aCons (eTup (aCons (eK (.str "?x")) aNil)) aNil))) aNil)))
      sNil)
      (sSq (sIf (tBl (eBin (oEqF false) (eVar 0) (eK (.str "S"))))
      (sRt (eTup (aCons (eTup (aCons (eK (.str "?x")) (aCons (eTup (aCons (eK (.str "letter")) (aCons (eBin oIx (eK (.str "abc")) (eBin oMod (eN nInt (aCons (eVar 1) aNil)) (eK (.int 3)))) aNil))) (aCons (eK (.bl true)) aNil)))) aNil)))
      sNil)
      (sRt (eTup (aCons (eBin oAdd (eK (.str "?")) (eBin oMulT (eK (.str "x")) (eBin oAdd (eK (.int 1)) (eBin oMod (eN nInt (aCons (eVar 1) aNil)) (eK (.int 8)))))) aNil)))))))))))))))
@[simp] theorem am__law_part (call : CallT) (σ : Lo) (h : Hs) : m__law_part call σ h = (sSq (sIf (tBl (eBin (oEqF false) (eVar 0) (eK (.str "T"))))
      (sRt (eN nTuple (aCons (eLc false [2] (iA1 (aCons (eBin oAdd (eK (.int 1)) (eBin oMod (eVar 1) (eK (.int 3)))) aNil)) (gNm 2) tYs (eBin oMulI (eBin oAdd (eVar 1) (eVar 2)) (eBin oAdd (eVar 1) (eK (.int 1))))) aNil)))
      sNil)
      (sSq (sIf (tBl (eBin (oEqF false) (eVar 0) (eK (.str "N"))))
      (sRt (eVar 1))
      sNil)
      (sSq (sIf (tBl (eBin (oEqF false) (eVar 0) (eK (.str "D"))))
      (sRt (eTup (aCons (eBin oMulT (eTup (aCons (eK (.int 0)) aNil)) (eVar 1)) aNil)))
      sNil)
      (sSq (sIf (tBl (eBin (oEqF false) (eVar 0) (eK (.str "B"))))
      (sRt (eCl call 66 [] (aCons (eVar 1) aNil)))
      sNil)
      (sSq (sIf (tBl (eBin (oEqF false) (eVar 0) (eK (.str "W"))))
      (sRt (eBin oIx (eLv (aCons (eK (.str "front")) (aCons (eK (.str "back")) (aCons (eK (.str "empty")) (aCons (eK (.str "state")) aNil))))) (eBin oMod (eN nInt (aCons (eVar 1) aNil)) (eK (.int 4)))))
      sNil)
      (sSq (sIf (tBl (eBin (oEqF false) (eVar 0) (eK (.str "L"))))
      (sRt (eBin (oEqF false) (eBin oMod (eN nInt (aCons (eVar 1) aNil)) (eK (.int 2))) (eK (.int 0))))
      sNil)
      (sSq (sIf (tBl (eBin (oEqF false) (eVar 0) (eK (.str "G"))))
      (sRt (eMk call 39 19 [] (aCons (eLv (aCons (eTup (aCons (eK (.str "text")) (aCons (eBin oMulT (eK (.str "a")) (eVar 1)) aNil))) aNil)) aNil)))
      sNil)
      (sSq (sIf (tBl (eBin (oEqF false) (eVar 0) (eK (.str "F"))))
      (sRt (eCl call 47 [] (aCons (eLv (aCons (eTup (aCons (eK (.str "?x")) (aCons (eBin oMulT (eK (.str "a")) (eVar 1)) aNil))) aNil)) aNil)))
      sNil)
      (sSq (sIf (tBl (eBin (oEqF false) (eVar 0) (eK (.str "E"))))
      (sRt (eTup (aCons (eMk call 28 16 [] (aCons (eCl call 66 [] (aCons (eVar 1) aNil)) (aCons (eTup (aCons (eK (.str "first")) (aCons (eK (.int 0)) aNil))) (aCons (eTup aNil) aNil)))) aNil)))
      sNil)
      (sSq (sIf (tBl (eBin (oEqF false) (eVar 0) (eK (.str "P"))))
      (sRt (eMk call 30 17 [] (aCons (eTup (aCons (eTup (aCons (eK (.int 0)) aNil)) aNil)) (aCons (eTup (aCons (eMk call 28 16 [] (aCons (eCl call 66 [] (aCons (eVar 1) aNil)) (aCons (eTup (aCons (eK (.str "first")) (aCons (eK (.int 0)) aNil))) (aCons (eTup aNil) aNil)))) aNil)) aNil))))
      sNil)
      (sSq (sIf (tBl (eBin (oEqF false) (eVar 0) (eK (.str "R"))))
      (sRt (eTup (aCons (eTup (aCons (eBin oMulT (eTup (aCons (eK (.str "a")) aNil)) (eVar 1)) (aCons (eTup (aCons (eK (.str "?x")) aNil)) aNil))) aNil)))
      sNil)
      (sSq (sIf (tBl (eBin (oEqF false) (eVar 0) (eK (.str "S"))))
      (sRt (eTup (aCons (eTup (aCons (eK (.str "?x")) (aCons (eTup (aCons (eK (.str "letter")) (aCons (eBin oIx (eK (.str "abc")) (eBin oMod (eN nInt (aCons (eVar 1) aNil)) (eK (.int 3)))) aNil))) (aCons (eK (.bl true)) aNil)))) aNil)))
      sNil)
      (sRt (eTup (aCons (eBin oAdd (eK (.str "?")) (eBin oMulT (eK (.str "x")) (eBin oAdd (eK (.int 1)) (eBin oMod (eN nInt (aCons (eVar 1) aNil)) (eK (.int 8)))))) aNil))))))))))))))) σ h := rfl
def m__law_made (call : CallT) : SemS := (sSq (sIf (tBl (eBin (oEqF false) (eVar 0) (eK (.int 0))))
      (sRt (eMk call 10 7 [] (aCons (eBin oIx (eVar 1) (eK (.int 0))) (aCons (eBin oIx (eVar 1) (eK (.int 1))) aNil))))
      sNil)
      (sSq (sIf (tBl (eBin (oEqF false) (eVar 0) (eK (.int 1))))
      (sRt (eMk call 14 9 [] (aCons (eBin oIx (eVar 1) (eK (.int 0))) (aCons (eBin oIx (eVar 1) (eK (.int 1))) (aCons (eBin oIx (eVar 1) (eK (.int 2))) aNil)))))
      sNil)
      (sSq (sIf (tBl (eBin (oEqF false) (eVar 0) (eK (.int 2))))
      (sRt (eMk call 16 10 [] (aCons (eBin oIx (eVar 1) (eK (.int 0))) (aCons (eBin oIx (eVar 1) (eK (.int 1))) (aCons (eBin oIx (eVar 1) (eK (.int 2))) (aCons (eBin oIx (eVar 1) (eK (.int 3))) aNil))))))
      sNil)
      (sSq (sIf (tBl (eBin (oEqF false) (eVar 0) (eK (.int 3))))
      (sRt (eMk call 12 8 [] (aCons (eBin oIx (eVar 1) (eK (.int 0))) (aCons (eBin oIx (eVar 1) (eK (.int 1))) (aCons (eBin oIx (eVar 1) (eK (.int 2))) (aCons (eBin oIx (eVar 1) (eK (.int 3))) (aCons (eBin oIx (eVar 1) (eK (.int 4))) (aCons (eBin oIx (eVar 1) (eK (.int 5))) (aCons (eBin oIx (eVar 1) (eK (.int 6))) aNil)))))))))
      sNil)
      (sSq (sIf (tBl (eBin (oEqF false) (eVar 0) (eK (.int 4))))
      (sRt (eMk call 18 11 [] (aCons (eBin oIx (eVar 1) (eK (.int 0))) (aCons (eBin oIx (eVar 1) (eK (.int 1))) (aCons (eBin oIx (eVar 1) (eK (.int 2))) (aCons (eBin oIx (eVar 1) (eK (.int 3))) aNil))))))
      sNil)
      (sSq (sIf (tBl (eBin (oEqF false) (eVar 0) (eK (.int 5))))
      (sRt (eMk call 20 12 [] (aCons (eBin oIx (eVar 1) (eK (.int 0))) aNil)))
      sNil)
      (sSq (sIf (tBl (eBin (oEqF false) (eVar 0) (eK (.int 6))))
      (sRt (eMk call 22 13 [] (aCons (eBin oIx (eVar 1) (eK (.int 0))) aNil)))
      sNil)
      (sSq (sIf (tBl (eBin (oEqF false) (eVar 0) (eK (.int 7))))
      (sRt (eMk call 26 15 [] (aCons (eBin oIx (eVar 1) (eK (.int 0))) (aCons (eBin oIx (eVar 1) (eK (.int 1))) aNil))))
      sNil)
      (sSq (sIf (tBl (eBin (oEqF false) (eVar 0) (eK (.int 8))))
      (sRt (eMk call 50 23 [] (aCons (eBin oIx (eVar 1) (eK (.int 0))) (aCons (eBin oIx (eVar 1) (eK (.int 1))) aNil))))
      sNil)
      (sSq (sIf (tBl (eBin (oEqF false) (eVar 0) (eK (.int 9))))
      (sRt (eMk call 41 20 [] (aCons (eBin oIx (eVar 1) (eK (.int 0))) (aCons (eBin oIx (eVar 1) (eK (.int 1))) aNil))))
      sNil)
      (sSq (sIf (tBl (eBin (oEqF false) (eVar 0) (eK (.int 10))))
      (sRt (eMk call 52 24 [] (aCons (eBin oIx (eVar 1) (eK (.int 0))) (aCons (eBin oIx (eVar 1) (eK (.int 1))) aNil))))
      sNil)
      (sRt (eCl call 69 [] (aCons (eVar 0) (aCons (eVar 1) aNil)))))))))))))))
@[simp] theorem am__law_made (call : CallT) (σ : Lo) (h : Hs) : m__law_made call σ h = (sSq (sIf (tBl (eBin (oEqF false) (eVar 0) (eK (.int 0))))
      (sRt (eMk call 10 7 [] (aCons (eBin oIx (eVar 1) (eK (.int 0))) (aCons (eBin oIx (eVar 1) (eK (.int 1))) aNil))))
      sNil)
      (sSq (sIf (tBl (eBin (oEqF false) (eVar 0) (eK (.int 1))))
      (sRt (eMk call 14 9 [] (aCons (eBin oIx (eVar 1) (eK (.int 0))) (aCons (eBin oIx (eVar 1) (eK (.int 1))) (aCons (eBin oIx (eVar 1) (eK (.int 2))) aNil)))))
      sNil)
      (sSq (sIf (tBl (eBin (oEqF false) (eVar 0) (eK (.int 2))))
      (sRt (eMk call 16 10 [] (aCons (eBin oIx (eVar 1) (eK (.int 0))) (aCons (eBin oIx (eVar 1) (eK (.int 1))) (aCons (eBin oIx (eVar 1) (eK (.int 2))) (aCons (eBin oIx (eVar 1) (eK (.int 3))) aNil))))))
      sNil)
      (sSq (sIf (tBl (eBin (oEqF false) (eVar 0) (eK (.int 3))))
      (sRt (eMk call 12 8 [] (aCons (eBin oIx (eVar 1) (eK (.int 0))) (aCons (eBin oIx (eVar 1) (eK (.int 1))) (aCons (eBin oIx (eVar 1) (eK (.int 2))) (aCons (eBin oIx (eVar 1) (eK (.int 3))) (aCons (eBin oIx (eVar 1) (eK (.int 4))) (aCons (eBin oIx (eVar 1) (eK (.int 5))) (aCons (eBin oIx (eVar 1) (eK (.int 6))) aNil)))))))))
      sNil)
      (sSq (sIf (tBl (eBin (oEqF false) (eVar 0) (eK (.int 4))))
      (sRt (eMk call 18 11 [] (aCons (eBin oIx (eVar 1) (eK (.int 0))) (aCons (eBin oIx (eVar 1) (eK (.int 1))) (aCons (eBin oIx (eVar 1) (eK (.int 2))) (aCons (eBin oIx (eVar 1) (eK (.int 3))) aNil))))))
      sNil)
      (sSq (sIf (tBl (eBin (oEqF false) (eVar 0) (eK (.int 5))))
      (sRt (eMk call 20 12 [] (aCons (eBin oIx (eVar 1) (eK (.int 0))) aNil)))
      sNil)
      (sSq (sIf (tBl (eBin (oEqF false) (eVar 0) (eK (.int 6))))
      (sRt (eMk call 22 13 [] (aCons (eBin oIx (eVar 1) (eK (.int 0))) aNil)))
      sNil)
      (sSq (sIf (tBl (eBin (oEqF false) (eVar 0) (eK (.int 7))))
      (sRt (eMk call 26 15 [] (aCons (eBin oIx (eVar 1) (eK (.int 0))) (aCons (eBin oIx (eVar 1) (eK (.int 1))) aNil))))
      sNil)
      (sSq (sIf (tBl (eBin (oEqF false) (eVar 0) (eK (.int 8))))
      (sRt (eMk call 50 23 [] (aCons (eBin oIx (eVar 1) (eK (.int 0))) (aCons (eBin oIx (eVar 1) (eK (.int 1))) aNil))))
      sNil)
      (sSq (sIf (tBl (eBin (oEqF false) (eVar 0) (eK (.int 9))))
      (sRt (eMk call 41 20 [] (aCons (eBin oIx (eVar 1) (eK (.int 0))) (aCons (eBin oIx (eVar 1) (eK (.int 1))) aNil))))
      sNil)
      (sSq (sIf (tBl (eBin (oEqF false) (eVar 0) (eK (.int 10))))
      (sRt (eMk call 52 24 [] (aCons (eBin oIx (eVar 1) (eK (.int 0))) (aCons (eBin oIx (eVar 1) (eK (.int 1))) aNil))))
      sNil)
      (sRt (eCl call 69 [] (aCons (eVar 0) (aCons (eVar 1) aNil))))))))))))))) σ h := rfl
def m__law_made_later (call : CallT) : SemS := (sSq (sIf (tBl (eBin (oEqF false) (eVar 0) (eK (.int 11))))
      (sRt (eMk call 28 16 [] (aCons (eBin oIx (eVar 1) (eK (.int 0))) (aCons (eBin oIx (eVar 1) (eK (.int 1))) (aCons (eBin oIx (eVar 1) (eK (.int 2))) aNil)))))
      sNil)
      (sSq (sIf (tBl (eBin (oEqF false) (eVar 0) (eK (.int 12))))
      (sRt (eMk call 30 17 [] (aCons (eBin oIx (eVar 1) (eK (.int 0))) (aCons (eBin oIx (eVar 1) (eK (.int 1))) aNil))))
      sNil)
      (sSq (sIf (tBl (eBin (oEqF false) (eVar 0) (eK (.int 13))))
      (sRt (eMk call 32 18 [] (aCons (eBin oIx (eVar 1) (eK (.int 0))) aNil)))
      sNil)
      (sSq (sIf (tBl (eBin (oEqF false) (eVar 0) (eK (.int 14))))
      (sRt (eMk call 24 14 [] (aCons (eBin oIx (eVar 1) (eK (.int 0))) (aCons (eBin oIx (eVar 1) (eK (.int 1))) (aCons (eBin oIx (eVar 1) (eK (.int 2))) aNil)))))
      sNil)
      (sSq (sIf (tBl (eBin (oEqF false) (eVar 0) (eK (.int 15))))
      (sRt (eMk call 48 22 [] (aCons (eBin oIx (eVar 1) (eK (.int 0))) (aCons (eBin oIx (eVar 1) (eK (.int 1))) (aCons (eBin oIx (eVar 1) (eK (.int 2))) (aCons (eBin oIx (eVar 1) (eK (.int 3))) (aCons (eBin oIx (eVar 1) (eK (.int 4))) aNil)))))))
      sNil)
      (sSq (sIf (tBl (eBin (oEqF false) (eVar 0) (eK (.int 16))))
      (sRt (eMk call 54 25 [] (aCons (eBin oIx (eVar 1) (eK (.int 0))) (aCons (eBin oIx (eVar 1) (eK (.int 1))) (aCons (eBin oIx (eVar 1) (eK (.int 2))) (aCons (eBin oIx (eVar 1) (eK (.int 3))) aNil))))))
      sNil)
      (sSq (sIf (tBl (eBin (oEqF false) (eVar 0) (eK (.int 17))))
      (sRt (eMk call 56 26 [] (aCons (eBin oIx (eVar 1) (eK (.int 0))) (aCons (eBin oIx (eVar 1) (eK (.int 1))) (aCons (eBin oIx (eVar 1) (eK (.int 2))) (aCons (eBin oIx (eVar 1) (eK (.int 3))) (aCons (eBin oIx (eVar 1) (eK (.int 4))) aNil)))))))
      sNil)
      (sSq (sIf (tBl (eBin (oEqF false) (eVar 0) (eK (.int 18))))
      (sRt (eMk call 58 27 [] (aCons (eBin oIx (eVar 1) (eK (.int 0))) (aCons (eBin oIx (eVar 1) (eK (.int 1))) aNil))))
      sNil)
      (sSq (sIf (tBl (eBin (oEqF false) (eVar 0) (eK (.int 19))))
      (sRt (eMk call 60 28 [] (aCons (eBin oIx (eVar 1) (eK (.int 0))) aNil)))
      sNil)
      (sRt (eMk call 62 29 [] (aCons (eBin oIx (eVar 1) (eK (.int 0))) (aCons (eBin oIx (eVar 1) (eK (.int 1))) aNil)))))))))))))
@[simp] theorem am__law_made_later (call : CallT) (σ : Lo) (h : Hs) : m__law_made_later call σ h = (sSq (sIf (tBl (eBin (oEqF false) (eVar 0) (eK (.int 11))))
      (sRt (eMk call 28 16 [] (aCons (eBin oIx (eVar 1) (eK (.int 0))) (aCons (eBin oIx (eVar 1) (eK (.int 1))) (aCons (eBin oIx (eVar 1) (eK (.int 2))) aNil)))))
      sNil)
      (sSq (sIf (tBl (eBin (oEqF false) (eVar 0) (eK (.int 12))))
      (sRt (eMk call 30 17 [] (aCons (eBin oIx (eVar 1) (eK (.int 0))) (aCons (eBin oIx (eVar 1) (eK (.int 1))) aNil))))
      sNil)
      (sSq (sIf (tBl (eBin (oEqF false) (eVar 0) (eK (.int 13))))
      (sRt (eMk call 32 18 [] (aCons (eBin oIx (eVar 1) (eK (.int 0))) aNil)))
      sNil)
      (sSq (sIf (tBl (eBin (oEqF false) (eVar 0) (eK (.int 14))))
      (sRt (eMk call 24 14 [] (aCons (eBin oIx (eVar 1) (eK (.int 0))) (aCons (eBin oIx (eVar 1) (eK (.int 1))) (aCons (eBin oIx (eVar 1) (eK (.int 2))) aNil)))))
      sNil)
      (sSq (sIf (tBl (eBin (oEqF false) (eVar 0) (eK (.int 15))))
      (sRt (eMk call 48 22 [] (aCons (eBin oIx (eVar 1) (eK (.int 0))) (aCons (eBin oIx (eVar 1) (eK (.int 1))) (aCons (eBin oIx (eVar 1) (eK (.int 2))) (aCons (eBin oIx (eVar 1) (eK (.int 3))) (aCons (eBin oIx (eVar 1) (eK (.int 4))) aNil)))))))
      sNil)
      (sSq (sIf (tBl (eBin (oEqF false) (eVar 0) (eK (.int 16))))
      (sRt (eMk call 54 25 [] (aCons (eBin oIx (eVar 1) (eK (.int 0))) (aCons (eBin oIx (eVar 1) (eK (.int 1))) (aCons (eBin oIx (eVar 1) (eK (.int 2))) (aCons (eBin oIx (eVar 1) (eK (.int 3))) aNil))))))
      sNil)
      (sSq (sIf (tBl (eBin (oEqF false) (eVar 0) (eK (.int 17))))
      (sRt (eMk call 56 26 [] (aCons (eBin oIx (eVar 1) (eK (.int 0))) (aCons (eBin oIx (eVar 1) (eK (.int 1))) (aCons (eBin oIx (eVar 1) (eK (.int 2))) (aCons (eBin oIx (eVar 1) (eK (.int 3))) (aCons (eBin oIx (eVar 1) (eK (.int 4))) aNil)))))))
      sNil)
      (sSq (sIf (tBl (eBin (oEqF false) (eVar 0) (eK (.int 18))))
      (sRt (eMk call 58 27 [] (aCons (eBin oIx (eVar 1) (eK (.int 0))) (aCons (eBin oIx (eVar 1) (eK (.int 1))) aNil))))
      sNil)
      (sSq (sIf (tBl (eBin (oEqF false) (eVar 0) (eK (.int 19))))
      (sRt (eMk call 60 28 [] (aCons (eBin oIx (eVar 1) (eK (.int 0))) aNil)))
      sNil)
      (sRt (eMk call 62 29 [] (aCons (eBin oIx (eVar 1) (eK (.int 0))) (aCons (eBin oIx (eVar 1) (eK (.int 1))) aNil))))))))))))) σ h := rfl
def m__law_told (call : CallT) : SemS := (sSq (sIf (tBl (eBin (oEqF false) (eVar 0) (eK (.int 0))))
      (sRt (eLv (aCons (eFd (ok_why) 4 (eVar 1)) (aCons (eFd (ok_at) 5 (eVar 1)) aNil))))
      sNil)
      (sSq (sIf (tBl (eBin (oEqF false) (eVar 0) (eK (.int 1))))
      (sRt (eLv (aCons (eFd (ok_book) 13 (eVar 1)) (aCons (eFd (ok_letters) 9 (eVar 1)) (aCons (eFd (ok_unknowns) 10 (eVar 1)) aNil)))))
      sNil)
      (sSq (sIf (tBl (eBin (oEqF false) (eVar 0) (eK (.int 2))))
      (sRt (eLv (aCons (eFd (ok_told) 8 (eVar 1)) (aCons (eFd (ok_letters) 9 (eVar 1)) (aCons (eFd (ok_unknowns) 10 (eVar 1)) (aCons (eFd (ok_spares) 11 (eVar 1)) aNil))))))
      sNil)
      (sSq (sIf (tBl (eBin (oEqF false) (eVar 0) (eK (.int 3))))
      (sRt (eLv (aCons (eFd (ok_parts) 6 (eVar 1)) (aCons (eFd (ok_news) 7 (eVar 1)) (aCons (eFd (ok_told) 8 (eVar 1)) (aCons (eFd (ok_letters) 9 (eVar 1)) (aCons (eFd (ok_unknowns) 10 (eVar 1)) (aCons (eFd (ok_spares) 11 (eVar 1)) (aCons (eFd (ok_equations) 12 (eVar 1)) aNil)))))))))
      sNil)
      (sSq (sIf (tBl (eBin (oEqF false) (eVar 0) (eK (.int 4))))
      (sRt (eLv (aCons (eFd (ok_front) 14 (eVar 1)) (aCons (eFd (ok_stays) 15 (eVar 1)) (aCons (eFd (ok_back) 16 (eVar 1)) (aCons (eFd (ok_ends) 1 (eVar 1)) aNil))))))
      sNil)
      (sSq (sIf (tBl (eBin (oEqF false) (eVar 0) (eK (.int 5))))
      (sRt (eLv (aCons (eFd (ok_numbers) 17 (eVar 1)) aNil)))
      sNil)
      (sSq (sIf (tBl (eBin (oEqF false) (eVar 0) (eK (.int 6))))
      (sRt (eLv (aCons (eFd (ok_rows) 2 (eVar 1)) aNil)))
      sNil)
      (sSq (sIf (tBl (eBin (oEqF false) (eVar 0) (eK (.int 7))))
      (sRt (eLv (aCons (eFd (ok_step) 20 (eVar 1)) (aCons (eFd (ok_outcomes) 21 (eVar 1)) aNil))))
      sNil)
      (sSq (sIf (tBl (eBin (oEqF false) (eVar 0) (eK (.int 8))))
      (sRt (eLv (aCons (eFd (ok_root) 31 (eVar 1)) (aCons (eFd (ok_turns) 32 (eVar 1)) aNil))))
      sNil)
      (sSq (sIf (tBl (eBin (oEqF false) (eVar 0) (eK (.int 9))))
      (sRt (eLv (aCons (eFd (ok_table) 27 (eVar 1)) (aCons (eFd (ok_ends) 1 (eVar 1)) aNil))))
      sNil)
      (sSq (sIf (tBl (eBin (oEqF false) (eVar 0) (eK (.int 10))))
      (sRt (eLv (aCons (eFd (ok_grammar) 28 (eVar 1)) (aCons (eFd (ok_stages) 33 (eVar 1)) aNil))))
      sNil)
      (sRt (eCl call 71 [] (aCons (eVar 0) (aCons (eVar 1) aNil)))))))))))))))
@[simp] theorem am__law_told (call : CallT) (σ : Lo) (h : Hs) : m__law_told call σ h = (sSq (sIf (tBl (eBin (oEqF false) (eVar 0) (eK (.int 0))))
      (sRt (eLv (aCons (eFd (ok_why) 4 (eVar 1)) (aCons (eFd (ok_at) 5 (eVar 1)) aNil))))
      sNil)
      (sSq (sIf (tBl (eBin (oEqF false) (eVar 0) (eK (.int 1))))
      (sRt (eLv (aCons (eFd (ok_book) 13 (eVar 1)) (aCons (eFd (ok_letters) 9 (eVar 1)) (aCons (eFd (ok_unknowns) 10 (eVar 1)) aNil)))))
      sNil)
      (sSq (sIf (tBl (eBin (oEqF false) (eVar 0) (eK (.int 2))))
      (sRt (eLv (aCons (eFd (ok_told) 8 (eVar 1)) (aCons (eFd (ok_letters) 9 (eVar 1)) (aCons (eFd (ok_unknowns) 10 (eVar 1)) (aCons (eFd (ok_spares) 11 (eVar 1)) aNil))))))
      sNil)
      (sSq (sIf (tBl (eBin (oEqF false) (eVar 0) (eK (.int 3))))
      (sRt (eLv (aCons (eFd (ok_parts) 6 (eVar 1)) (aCons (eFd (ok_news) 7 (eVar 1)) (aCons (eFd (ok_told) 8 (eVar 1)) (aCons (eFd (ok_letters) 9 (eVar 1)) (aCons (eFd (ok_unknowns) 10 (eVar 1)) (aCons (eFd (ok_spares) 11 (eVar 1)) (aCons (eFd (ok_equations) 12 (eVar 1)) aNil)))))))))
      sNil)
      (sSq (sIf (tBl (eBin (oEqF false) (eVar 0) (eK (.int 4))))
      (sRt (eLv (aCons (eFd (ok_front) 14 (eVar 1)) (aCons (eFd (ok_stays) 15 (eVar 1)) (aCons (eFd (ok_back) 16 (eVar 1)) (aCons (eFd (ok_ends) 1 (eVar 1)) aNil))))))
      sNil)
      (sSq (sIf (tBl (eBin (oEqF false) (eVar 0) (eK (.int 5))))
      (sRt (eLv (aCons (eFd (ok_numbers) 17 (eVar 1)) aNil)))
      sNil)
      (sSq (sIf (tBl (eBin (oEqF false) (eVar 0) (eK (.int 6))))
      (sRt (eLv (aCons (eFd (ok_rows) 2 (eVar 1)) aNil)))
      sNil)
      (sSq (sIf (tBl (eBin (oEqF false) (eVar 0) (eK (.int 7))))
      (sRt (eLv (aCons (eFd (ok_step) 20 (eVar 1)) (aCons (eFd (ok_outcomes) 21 (eVar 1)) aNil))))
      sNil)
      (sSq (sIf (tBl (eBin (oEqF false) (eVar 0) (eK (.int 8))))
      (sRt (eLv (aCons (eFd (ok_root) 31 (eVar 1)) (aCons (eFd (ok_turns) 32 (eVar 1)) aNil))))
      sNil)
      (sSq (sIf (tBl (eBin (oEqF false) (eVar 0) (eK (.int 9))))
      (sRt (eLv (aCons (eFd (ok_table) 27 (eVar 1)) (aCons (eFd (ok_ends) 1 (eVar 1)) aNil))))
      sNil)
      (sSq (sIf (tBl (eBin (oEqF false) (eVar 0) (eK (.int 10))))
      (sRt (eLv (aCons (eFd (ok_grammar) 28 (eVar 1)) (aCons (eFd (ok_stages) 33 (eVar 1)) aNil))))
      sNil)
      (sRt (eCl call 71 [] (aCons (eVar 0) (aCons (eVar 1) aNil))))))))))))))) σ h := rfl
def m__law_told_later (call : CallT) : SemS := (sSq (sIf (tBl (eBin (oEqF false) (eVar 0) (eK (.int 11))))
      (sRt (eLv (aCons (eFd (ok_book) 13 (eVar 1)) (aCons (eFd (ok_step) 20 (eVar 1)) (aCons (eFd (ok_lots) 22 (eVar 1)) aNil)))))
      sNil)
      (sSq (sIf (tBl (eBin (oEqF false) (eVar 0) (eK (.int 12))))
      (sRt (eLv (aCons (eFd (ok_deeds) 0 (eVar 1)) (aCons (eFd (ok_entries) 23 (eVar 1)) aNil))))
      sNil)
      (sSq (sIf (tBl (eBin (oEqF false) (eVar 0) (eK (.int 13))))
      (sRt (eLv (aCons (eFd (ok_paper) 24 (eVar 1)) aNil)))
      sNil)
      (sSq (sIf (tBl (eBin (oEqF false) (eVar 0) (eK (.int 14))))
      (sRt (eLv (aCons (eFd (ok_rows) 2 (eVar 1)) (aCons (eFd (ok_sets) 18 (eVar 1)) (aCons (eFd (ok_full) 19 (eVar 1)) aNil)))))
      sNil)
      (sSq (sIf (tBl (eBin (oEqF false) (eVar 0) (eK (.int 15))))
      (sRt (eLv (aCons (eFd (ok_told) 8 (eVar 1)) (aCons (eFd (ok_letters) 9 (eVar 1)) (aCons (eFd (ok_unknowns) 10 (eVar 1)) (aCons (eFd (ok_spares) 11 (eVar 1)) (aCons (eFd (ok_empties) 30 (eVar 1)) aNil)))))))
      sNil)
      (sSq (sIf (tBl (eBin (oEqF false) (eVar 0) (eK (.int 16))))
      (sRt (eLv (aCons (eFd (ok_turns) 32 (eVar 1)) (aCons (eFd (ok_used) 34 (eVar 1)) (aCons (eFd (ok_ends) 1 (eVar 1)) (aCons (eFd (ok_stop) 35 (eVar 1)) aNil))))))
      sNil)
      (sSq (sIf (tBl (eBin (oEqF false) (eVar 0) (eK (.int 17))))
      (sRt (eLv (aCons (eFd (ok_turns) 32 (eVar 1)) (aCons (eFd (ok_reads) 36 (eVar 1)) (aCons (eFd (ok_sayings) 37 (eVar 1)) (aCons (eFd (ok_ends) 1 (eVar 1)) (aCons (eFd (ok_stop) 35 (eVar 1)) aNil)))))))
      sNil)
      (sSq (sIf (tBl (eBin (oEqF false) (eVar 0) (eK (.int 18))))
      (sRt (eLv (aCons (eFd (ok_turns) 32 (eVar 1)) (aCons (eFd (ok_filling) 38 (eVar 1)) aNil))))
      sNil)
      (sSq (sIf (tBl (eBin (oEqF false) (eVar 0) (eK (.int 19))))
      (sRt (eLv (aCons (eFd (ok_papers) 39 (eVar 1)) aNil)))
      sNil)
      (sRt (eLv (aCons (eFd (ok_tolds) 40 (eVar 1)) (aCons (eFd (ok_refused) 41 (eVar 1)) aNil)))))))))))))
@[simp] theorem am__law_told_later (call : CallT) (σ : Lo) (h : Hs) : m__law_told_later call σ h = (sSq (sIf (tBl (eBin (oEqF false) (eVar 0) (eK (.int 11))))
      (sRt (eLv (aCons (eFd (ok_book) 13 (eVar 1)) (aCons (eFd (ok_step) 20 (eVar 1)) (aCons (eFd (ok_lots) 22 (eVar 1)) aNil)))))
      sNil)
      (sSq (sIf (tBl (eBin (oEqF false) (eVar 0) (eK (.int 12))))
      (sRt (eLv (aCons (eFd (ok_deeds) 0 (eVar 1)) (aCons (eFd (ok_entries) 23 (eVar 1)) aNil))))
      sNil)
      (sSq (sIf (tBl (eBin (oEqF false) (eVar 0) (eK (.int 13))))
      (sRt (eLv (aCons (eFd (ok_paper) 24 (eVar 1)) aNil)))
      sNil)
      (sSq (sIf (tBl (eBin (oEqF false) (eVar 0) (eK (.int 14))))
      (sRt (eLv (aCons (eFd (ok_rows) 2 (eVar 1)) (aCons (eFd (ok_sets) 18 (eVar 1)) (aCons (eFd (ok_full) 19 (eVar 1)) aNil)))))
      sNil)
      (sSq (sIf (tBl (eBin (oEqF false) (eVar 0) (eK (.int 15))))
      (sRt (eLv (aCons (eFd (ok_told) 8 (eVar 1)) (aCons (eFd (ok_letters) 9 (eVar 1)) (aCons (eFd (ok_unknowns) 10 (eVar 1)) (aCons (eFd (ok_spares) 11 (eVar 1)) (aCons (eFd (ok_empties) 30 (eVar 1)) aNil)))))))
      sNil)
      (sSq (sIf (tBl (eBin (oEqF false) (eVar 0) (eK (.int 16))))
      (sRt (eLv (aCons (eFd (ok_turns) 32 (eVar 1)) (aCons (eFd (ok_used) 34 (eVar 1)) (aCons (eFd (ok_ends) 1 (eVar 1)) (aCons (eFd (ok_stop) 35 (eVar 1)) aNil))))))
      sNil)
      (sSq (sIf (tBl (eBin (oEqF false) (eVar 0) (eK (.int 17))))
      (sRt (eLv (aCons (eFd (ok_turns) 32 (eVar 1)) (aCons (eFd (ok_reads) 36 (eVar 1)) (aCons (eFd (ok_sayings) 37 (eVar 1)) (aCons (eFd (ok_ends) 1 (eVar 1)) (aCons (eFd (ok_stop) 35 (eVar 1)) aNil)))))))
      sNil)
      (sSq (sIf (tBl (eBin (oEqF false) (eVar 0) (eK (.int 18))))
      (sRt (eLv (aCons (eFd (ok_turns) 32 (eVar 1)) (aCons (eFd (ok_filling) 38 (eVar 1)) aNil))))
      sNil)
      (sSq (sIf (tBl (eBin (oEqF false) (eVar 0) (eK (.int 19))))
      (sRt (eLv (aCons (eFd (ok_papers) 39 (eVar 1)) aNil)))
      sNil)
      (sRt (eLv (aCons (eFd (ok_tolds) 40 (eVar 1)) (aCons (eFd (ok_refused) 41 (eVar 1)) aNil))))))))))))) σ h := rfl
def b__law_result_right_1 (call : CallT) : SemS := (sSq (sAs (eN nListM (aCons (eVar 4) aNil)) (gNm 8))
      (sSq (sAs (eCl call 67 [] (aCons (eBin oIx (eVar 1) (eVar 7)) (aCons (eBin oIx (eVar 3) (eVar 7)) aNil))) (gSt (eVar 8) (eVar 7)))
      (sSq (sIf (tBl (eBin (oEqO false eqTab call) (eBin oIx (eVar 8) (eVar 7)) (eBin oIx (eVar 4) (eVar 7))))
      sCnt
      sNil)
      (sSq (sAs (eCl call 68 [] (aCons (eVar 0) (aCons (eVar 8) aNil))) (gNm 9))
      (sIf (tOr' (tBl (eBin (oEqO false eqTab call) (eVar 5) (eVar 9))) (tOr' (tBl (eBin (oEqO false eqTab call) (eVar 9) (eVar 5))) (tBl (eBin (oEqO true eqTab call) (eCl call 70 [] (aCons (eVar 0) (aCons (eVar 9) aNil))) (eVar 8)))))
      (sRt (eK (.bl false)))
      sNil)))))
@[simp] theorem ab__law_result_right_1 (call : CallT) (σ : Lo) (h : Hs) : b__law_result_right_1 call σ h = (sSq (sAs (eN nListM (aCons (eVar 4) aNil)) (gNm 8))
      (sSq (sAs (eCl call 67 [] (aCons (eBin oIx (eVar 1) (eVar 7)) (aCons (eBin oIx (eVar 3) (eVar 7)) aNil))) (gSt (eVar 8) (eVar 7)))
      (sSq (sIf (tBl (eBin (oEqO false eqTab call) (eBin oIx (eVar 8) (eVar 7)) (eBin oIx (eVar 4) (eVar 7))))
      sCnt
      sNil)
      (sSq (sAs (eCl call 68 [] (aCons (eVar 0) (aCons (eVar 8) aNil))) (gNm 9))
      (sIf (tOr' (tBl (eBin (oEqO false eqTab call) (eVar 5) (eVar 9))) (tOr' (tBl (eBin (oEqO false eqTab call) (eVar 9) (eVar 5))) (tBl (eBin (oEqO true eqTab call) (eCl call 70 [] (aCons (eVar 0) (aCons (eVar 9) aNil))) (eVar 8)))))
      (sRt (eK (.bl false)))
      sNil))))) σ h := rfl
def m__law_result_right (call : CallT) : SemS := (sSq (sAs (eLc false [7] (iA1 (aCons (eN nLen (aCons (eVar 1) aNil)) aNil)) (gNm 7) tYs (eCl call 67 [] (aCons (eBin oIx (eVar 1) (eVar 7)) (aCons (eBin oIx (eVar 2) (eVar 7)) aNil)))) (gNm 4))
      (sSq (sAs (eCl call 68 [] (aCons (eVar 0) (aCons (eVar 4) aNil))) (gNm 5))
      (sSq (sIf (tBl (eBin (oEqO true eqTab call) (eCl call 70 [] (aCons (eVar 0) (aCons (eVar 5) aNil))) (eVar 4)))
      (sRt (eK (.bl false)))
      sNil)
      (sSq (sAs (eCl call 68 [] (aCons (eVar 0) (aCons (eN nListV (aCons (eVar 4) aNil)) aNil))) (gNm 6))
      (sSq (sIf (tOr' (tNo (tBl (eBin (oEqO false eqTab call) (eVar 5) (eVar 6)))) (tNo (tBl (eBin (oEqO false eqTab call) (eVar 6) (eVar 5)))))
      (sRt (eK (.bl false)))
      sNil)
      (sSq (sFor (iA1 (aCons (eN nLen (aCons (eVar 1) aNil)) aNil)) (gNm 7)
      (b__law_result_right_1 call))
      (sRt (eK (.bl true)))))))))
@[simp] theorem am__law_result_right (call : CallT) (σ : Lo) (h : Hs) : m__law_result_right call σ h = (sSq (sAs (eLc false [7] (iA1 (aCons (eN nLen (aCons (eVar 1) aNil)) aNil)) (gNm 7) tYs (eCl call 67 [] (aCons (eBin oIx (eVar 1) (eVar 7)) (aCons (eBin oIx (eVar 2) (eVar 7)) aNil)))) (gNm 4))
      (sSq (sAs (eCl call 68 [] (aCons (eVar 0) (aCons (eVar 4) aNil))) (gNm 5))
      (sSq (sIf (tBl (eBin (oEqO true eqTab call) (eCl call 70 [] (aCons (eVar 0) (aCons (eVar 5) aNil))) (eVar 4)))
      (sRt (eK (.bl false)))
      sNil)
      (sSq (sAs (eCl call 68 [] (aCons (eVar 0) (aCons (eN nListV (aCons (eVar 4) aNil)) aNil))) (gNm 6))
      (sSq (sIf (tOr' (tNo (tBl (eBin (oEqO false eqTab call) (eVar 5) (eVar 6)))) (tNo (tBl (eBin (oEqO false eqTab call) (eVar 6) (eVar 5)))))
      (sRt (eK (.bl false)))
      sNil)
      (sSq (sFor (iA1 (aCons (eN nLen (aCons (eVar 1) aNil)) aNil)) (gNm 7)
      (b__law_result_right_1 call))
      (sRt (eK (.bl true))))))))) σ h := rfl
def b_law_1 (call : CallT) : SemS := (sSq (sAs (eLc false [14] (iA1 (aCons (eK (.int 7)) aNil)) (gNm 14) tYs (eBin oAdd (eK (.int 1)) (eCl call 65 [] (aCons (eVar 1) (aCons (eK (.int 12)) aNil))))) (gNm 5))
      (sSq (sAs (eLc false [14] (iA1 (aCons (eK (.int 7)) aNil)) (gNm 14) tYs (eBin oAdd (eK (.int 1)) (eBin oMod (eN nInt (aCons (eBin oAdd (eBin oIx (eVar 5) (eVar 14)) (eCl call 65 [] (aCons (eVar 1) (aCons (eK (.int 11)) aNil)))) aNil)) (eK (.int 12))))) (gNm 6))
      (sSq (sIf (tNo (tTru (eCl call 72 [] (aCons (eVar 4) (aCons (eBin oIx (eVar 2) (eVar 4)) (aCons (eVar 5) (aCons (eVar 6) aNil)))))))
      (sRt (eK (.bl false)))
      sNil)
      (sSq (sAs (eCl call 68 [] (aCons (eVar 4) (aCons (eLc false [14] (iA1 (aCons (eN nLen (aCons (eBin oIx (eVar 2) (eVar 4)) aNil)) aNil)) (gNm 14) tYs (eCl call 67 [] (aCons (eBin oIx (eBin oIx (eVar 2) (eVar 4)) (eVar 14)) (aCons (eBin oIx (eVar 5) (eVar 14)) aNil)))) aNil))) (gNm 7))
      (sSq (sIf (tAn (tBl (eBin oNotN (eVar 3) (eK .non))) (tOr' (tBl (eBin (oEqO false eqTab call) (eVar 7) (eVar 3))) (tBl (eBin (oEqO false eqTab call) (eVar 3) (eVar 7)))))
      (sRt (eK (.bl false)))
      sNil)
      (sAs (eVar 7) (gNm 3)))))))
@[simp] theorem ab_law_1 (call : CallT) (σ : Lo) (h : Hs) : b_law_1 call σ h = (sSq (sAs (eLc false [14] (iA1 (aCons (eK (.int 7)) aNil)) (gNm 14) tYs (eBin oAdd (eK (.int 1)) (eCl call 65 [] (aCons (eVar 1) (aCons (eK (.int 12)) aNil))))) (gNm 5))
      (sSq (sAs (eLc false [14] (iA1 (aCons (eK (.int 7)) aNil)) (gNm 14) tYs (eBin oAdd (eK (.int 1)) (eBin oMod (eN nInt (aCons (eBin oAdd (eBin oIx (eVar 5) (eVar 14)) (eCl call 65 [] (aCons (eVar 1) (aCons (eK (.int 11)) aNil)))) aNil)) (eK (.int 12))))) (gNm 6))
      (sSq (sIf (tNo (tTru (eCl call 72 [] (aCons (eVar 4) (aCons (eBin oIx (eVar 2) (eVar 4)) (aCons (eVar 5) (aCons (eVar 6) aNil)))))))
      (sRt (eK (.bl false)))
      sNil)
      (sSq (sAs (eCl call 68 [] (aCons (eVar 4) (aCons (eLc false [14] (iA1 (aCons (eN nLen (aCons (eBin oIx (eVar 2) (eVar 4)) aNil)) aNil)) (gNm 14) tYs (eCl call 67 [] (aCons (eBin oIx (eBin oIx (eVar 2) (eVar 4)) (eVar 14)) (aCons (eBin oIx (eVar 5) (eVar 14)) aNil)))) aNil))) (gNm 7))
      (sSq (sIf (tAn (tBl (eBin oNotN (eVar 3) (eK .non))) (tOr' (tBl (eBin (oEqO false eqTab call) (eVar 7) (eVar 3))) (tBl (eBin (oEqO false eqTab call) (eVar 3) (eVar 7)))))
      (sRt (eK (.bl false)))
      sNil)
      (sAs (eVar 7) (gNm 3))))))) σ h := rfl
def b_law_2 (call : CallT) : SemS := (sSq (sAs (eCl call 65 [] (aCons (eVar 1) (aCons (eN nLen (aCons (eVar 2) aNil)) aNil))) (gNm 8))
      (sSq (sAs (eBin oMod (eN nInt (aCons (eBin oAdd (eBin oAdd (eVar 8) (eK (.int 1))) (eCl call 65 [] (aCons (eVar 1) (aCons (eBin oSub (eN nLen (aCons (eVar 2) aNil)) (eK (.int 1))) aNil)))) aNil)) (eN nLen (aCons (eVar 2) aNil))) (gNm 9))
      (sSq (sAs (eBin oAdd (eK (.int 1)) (eCl call 65 [] (aCons (eVar 1) (aCons (eK (.int 12)) aNil)))) (gNm 11))
      (sSq (sAs (eCl call 68 [] (aCons (eVar 8) (aCons (eLc false [15] (iSt (eBin oIx (eVar 2) (eVar 8))) (gNm 15) tYs (eCl call 67 [] (aCons (eVar 15) (aCons (eVar 11) aNil)))) aNil))) (gNm 12))
      (sSq (sAs (eCl call 68 [] (aCons (eVar 9) (aCons (eLc false [15] (iSt (eBin oIx (eVar 2) (eVar 9))) (gNm 15) tYs (eCl call 67 [] (aCons (eVar 15) (aCons (eVar 11) aNil)))) aNil))) (gNm 13))
      (sIf (tOr' (tBl (eBin (oEqO false eqTab call) (eVar 12) (eVar 13))) (tBl (eBin (oEqO false eqTab call) (eVar 13) (eVar 12))))
      (sRt (eK (.bl false)))
      sNil))))))
@[simp] theorem ab_law_2 (call : CallT) (σ : Lo) (h : Hs) : b_law_2 call σ h = (sSq (sAs (eCl call 65 [] (aCons (eVar 1) (aCons (eN nLen (aCons (eVar 2) aNil)) aNil))) (gNm 8))
      (sSq (sAs (eBin oMod (eN nInt (aCons (eBin oAdd (eBin oAdd (eVar 8) (eK (.int 1))) (eCl call 65 [] (aCons (eVar 1) (aCons (eBin oSub (eN nLen (aCons (eVar 2) aNil)) (eK (.int 1))) aNil)))) aNil)) (eN nLen (aCons (eVar 2) aNil))) (gNm 9))
      (sSq (sAs (eBin oAdd (eK (.int 1)) (eCl call 65 [] (aCons (eVar 1) (aCons (eK (.int 12)) aNil)))) (gNm 11))
      (sSq (sAs (eCl call 68 [] (aCons (eVar 8) (aCons (eLc false [15] (iSt (eBin oIx (eVar 2) (eVar 8))) (gNm 15) tYs (eCl call 67 [] (aCons (eVar 15) (aCons (eVar 11) aNil)))) aNil))) (gNm 12))
      (sSq (sAs (eCl call 68 [] (aCons (eVar 9) (aCons (eLc false [15] (iSt (eBin oIx (eVar 2) (eVar 9))) (gNm 15) tYs (eCl call 67 [] (aCons (eVar 15) (aCons (eVar 11) aNil)))) aNil))) (gNm 13))
      (sIf (tOr' (tBl (eBin (oEqO false eqTab call) (eVar 12) (eVar 13))) (tBl (eBin (oEqO false eqTab call) (eVar 13) (eVar 12))))
      (sRt (eK (.bl false)))
      sNil)))))) σ h := rfl
def m_law (call : CallT) : SemS := (sSq (sAs (eCl call 64 [] (aCons (eVar 0) aNil)) (gNm 1))
      (sSq (sAs (eLv (aCons (eK (.str "WN")) (aCons (eK (.str "BTT")) (aCons (eK (.str "BTTT")) (aCons (eK (.str "TTBTTTT")) (aCons (eK (.str "TLTT")) (aCons (eK (.str "T")) (aCons (eK (.str "T")) (aCons (eK (.str "TT")) (aCons (eK (.str "NT")) (aCons (eK (.str "GT")) (aCons (eK (.str "GT")) (aCons (eK (.str "BTT")) (aCons (eK (.str "DE")) (aCons (eK (.str "P")) (aCons (eK (.str "RSM")) (aCons (eK (.str "BTTTT")) (aCons (eK (.str "TNTN")) (aCons (eK (.str "TNTTN")) (aCons (eK (.str "TF")) (aCons (eK (.str "T")) (aCons (eK (.str "TN")) aNil)))))))))))))))))))))) (gNm 2))
      (sSq (sAs (eK .non) (gNm 3))
      (sSq (sFor (iA1 (aCons (eN nLen (aCons (eVar 2) aNil)) aNil)) (gNm 4)
      (b_law_1 call))
      (sSq (sAs (eTup (aCons (eK (.int 0)) (aCons (eK (.int 0)) aNil))) (gTp 2 (gCo (gNm 8) (gCo (gNm 9) gNi))))
      (sSq (sFor (iA1 (aCons (eK (.int 6)) aNil)) (gNm 10)
      (b_law_2 call))
      (sRt (eK (.bl true)))))))))
@[simp] theorem am_law (call : CallT) (σ : Lo) (h : Hs) : m_law call σ h = (sSq (sAs (eCl call 64 [] (aCons (eVar 0) aNil)) (gNm 1))
      (sSq (sAs (eLv (aCons (eK (.str "WN")) (aCons (eK (.str "BTT")) (aCons (eK (.str "BTTT")) (aCons (eK (.str "TTBTTTT")) (aCons (eK (.str "TLTT")) (aCons (eK (.str "T")) (aCons (eK (.str "T")) (aCons (eK (.str "TT")) (aCons (eK (.str "NT")) (aCons (eK (.str "GT")) (aCons (eK (.str "GT")) (aCons (eK (.str "BTT")) (aCons (eK (.str "DE")) (aCons (eK (.str "P")) (aCons (eK (.str "RSM")) (aCons (eK (.str "BTTTT")) (aCons (eK (.str "TNTN")) (aCons (eK (.str "TNTTN")) (aCons (eK (.str "TF")) (aCons (eK (.str "T")) (aCons (eK (.str "TN")) aNil)))))))))))))))))))))) (gNm 2))
      (sSq (sAs (eK .non) (gNm 3))
      (sSq (sFor (iA1 (aCons (eN nLen (aCons (eVar 2) aNil)) aNil)) (gNm 4)
      (b_law_1 call))
      (sSq (sAs (eTup (aCons (eK (.int 0)) (aCons (eK (.int 0)) aNil))) (gTp 2 (gCo (gNm 8) (gCo (gNm 9) gNi))))
      (sSq (sFor (iA1 (aCons (eK (.int 6)) aNil)) (gNm 10)
      (b_law_2 call))
      (sRt (eK (.bl true))))))))) σ h := rfl
def defs : List MDef := [⟨1, 1, false, m_is_whole⟩, ⟨1, 1, false, m_is_sequence⟩, ⟨2, 2, false, m_is_state⟩, ⟨2, 5, false, m_checked_deeds⟩, ⟨2, 4, false, m_are_goals⟩, ⟨2, 6, false, m_checked_ends⟩, ⟨1, 7, false, m_checked_rows⟩, ⟨3, 6, false, m_check_signs⟩, ⟨5, 5, false, m_Book__init_⟩, ⟨2, 2, false, m_Book__eq_⟩, ⟨3, 3, false, m_Clash__init_⟩, ⟨2, 2, false, m_Clash__eq_⟩, ⟨8, 8, false, m_Guess__init_⟩, ⟨2, 2, false, m_Guess__eq_⟩, ⟨4, 4, false, m_Canon__init_⟩, ⟨2, 2, false, m_Canon__eq_⟩, ⟨5, 5, false, m_Settled__init_⟩, ⟨2, 2, false, m_Settled__eq_⟩, ⟨5, 5, false, m_Shape__init_⟩, ⟨2, 2, false, m_Shape__eq_⟩, ⟨2, 2, false, m_Answer__init_⟩, ⟨2, 2, false, m_Answer__eq_⟩, ⟨2, 2, false, m_Carries__init_⟩, ⟨2, 2, false, m_Carries__eq_⟩, ⟨4, 4, false, m_Case__init_⟩, ⟨2, 2, false, m_Case__eq_⟩, ⟨3, 3, false, m_Look__init_⟩, ⟨2, 2, false, m_Look__eq_⟩, ⟨4, 4, false, m_Entry__init_⟩, ⟨2, 2, false, m_Entry__eq_⟩, ⟨3, 3, false, m_Paper__init_⟩, ⟨2, 2, false, m_Paper__eq_⟩, ⟨2, 2, false, m_Shut__init_⟩, ⟨2, 2, false, m_Shut__eq_⟩, ⟨1, 2, false, m_is_outer_text⟩, ⟨2, 2, false, m_is_earlier⟩, ⟨2, 3, false, m_checked_rule⟩, ⟨2, 3, false, m_checked_word⟩, ⟨1, 3, false, m_rule_lengths⟩, ⟨2, 6, false, m_Grammar__init_⟩, ⟨2, 2, false, m_Grammar__eq_⟩, ⟨3, 3, false, m_Pressed__init_⟩, ⟨2, 2, false, m_Pressed__eq_⟩, ⟨1, 3, false, m_is_filled_name⟩, ⟨3, 3, false, m_checked_couple⟩, ⟨3, 8, false, m_Filling__init_⟩, ⟨2, 2, false, m_Filling__eq_⟩, ⟨1, 7, false, m_filling_of⟩, ⟨6, 6, false, m_Root__init_⟩, ⟨2, 2, false, m_Root__eq_⟩, ⟨3, 3, false, m_Trail__init_⟩, ⟨2, 2, false, m_Trail__eq_⟩, ⟨3, 3, false, m_Stages__init_⟩, ⟨2, 2, false, m_Stages__eq_⟩, ⟨5, 5, false, m_Run__init_⟩, ⟨2, 2, false, m_Run__eq_⟩, ⟨6, 6, false, m_Way__init_⟩, ⟨2, 2, false, m_Way__eq_⟩, ⟨3, 3, false, m_Found__init_⟩, ⟨2, 2, false, m_Found__eq_⟩, ⟨2, 2, false, m_Never__init_⟩, ⟨2, 2, false, m_Never__eq_⟩, ⟨3, 3, false, m_Trial__init_⟩, ⟨2, 2, false, m_Trial__eq_⟩, ⟨1, 1, true, m__law_source⟩, ⟨2, 5, false, m__law_take⟩, ⟨1, 1, false, m__law_book⟩, ⟨2, 3, false, m__law_part⟩, ⟨2, 2, false, m__law_made⟩, ⟨2, 2, false, m__law_made_later⟩, ⟨2, 2, false, m__law_told⟩, ⟨2, 2, false, m__law_told_later⟩, ⟨4, 10, false, m__law_result_right⟩, ⟨1, 16, false, m_law⟩]
abbrev fns (K : PySem.W.Frag) (fd : Nat → FuncData) : List Fn := [⟨He.fAd K d_is_whole.at_, fd 0, ["thing"]⟩, ⟨He.fAd K d_is_sequence.at_, fd 1, ["thing"]⟩, ⟨He.fAd K d_is_state.at_, fd 2, ["thing", "states"]⟩, ⟨He.fAd K d_checked_deeds.at_, fd 3, ["deeds", "states"]⟩, ⟨He.fAd K d_are_goals.at_, fd 4, ["goals", "states"]⟩, ⟨He.fAd K d_checked_ends.at_, fd 5, ["ends", "states"]⟩, ⟨He.fAd K d_checked_rows.at_, fd 6, ["rows"]⟩, ⟨He.fAd K d_check_signs.at_, fd 7, ["rows", "letters", "unknowns"]⟩, ⟨He.fAd K d_Book__init_.at_, fd 8, ["self", "rows", "deeds", "ends", "states"]⟩, ⟨He.fAd K d_Book__eq_.at_, fd 9, ["self", "other"]⟩, ⟨He.fAd K d_Clash__init_.at_, fd 10, ["self", "why", "at"]⟩, ⟨He.fAd K d_Clash__eq_.at_, fd 11, ["self", "other"]⟩, ⟨He.fAd K d_Guess__init_.at_, fd 12, ["self", "parts", "news", "told", "letters", "unknowns", "spares", "equations"]⟩, ⟨He.fAd K d_Guess__eq_.at_, fd 13, ["self", "other"]⟩, ⟨He.fAd K d_Canon__init_.at_, fd 14, ["self", "book", "letters", "unknowns"]⟩, ⟨He.fAd K d_Canon__eq_.at_, fd 15, ["self", "other"]⟩, ⟨He.fAd K d_Settled__init_.at_, fd 16, ["self", "told", "letters", "unknowns", "spares"]⟩, ⟨He.fAd K d_Settled__eq_.at_, fd 17, ["self", "other"]⟩, ⟨He.fAd K d_Shape__init_.at_, fd 18, ["self", "front", "stays", "back", "ends"]⟩, ⟨He.fAd K d_Shape__eq_.at_, fd 19, ["self", "other"]⟩, ⟨He.fAd K d_Answer__init_.at_, fd 20, ["self", "numbers"]⟩, ⟨He.fAd K d_Answer__eq_.at_, fd 21, ["self", "other"]⟩, ⟨He.fAd K d_Carries__init_.at_, fd 22, ["self", "rows"]⟩, ⟨He.fAd K d_Carries__eq_.at_, fd 23, ["self", "other"]⟩, ⟨He.fAd K d_Case__init_.at_, fd 24, ["self", "rows", "sets", "full"]⟩, ⟨He.fAd K d_Case__eq_.at_, fd 25, ["self", "other"]⟩, ⟨He.fAd K d_Look__init_.at_, fd 26, ["self", "step", "outcomes"]⟩, ⟨He.fAd K d_Look__eq_.at_, fd 27, ["self", "other"]⟩, ⟨He.fAd K d_Entry__init_.at_, fd 28, ["self", "book", "step", "lots"]⟩, ⟨He.fAd K d_Entry__eq_.at_, fd 29, ["self", "other"]⟩, ⟨He.fAd K d_Paper__init_.at_, fd 30, ["self", "deeds", "entries"]⟩, ⟨He.fAd K d_Paper__eq_.at_, fd 31, ["self", "other"]⟩, ⟨He.fAd K d_Shut__init_.at_, fd 32, ["self", "paper"]⟩, ⟨He.fAd K d_Shut__eq_.at_, fd 33, ["self", "other"]⟩, ⟨He.fAd K d_is_outer_text.at_, fd 34, ["thing"]⟩, ⟨He.fAd K d_is_earlier.at_, fd 35, ["symbol", "at"]⟩, ⟨He.fAd K d_checked_rule.at_, fd 36, ["rule", "at"]⟩, ⟨He.fAd K d_checked_word.at_, fd 37, ["grammar", "word"]⟩, ⟨He.fAd K d_rule_lengths.at_, fd 38, ["rules"]⟩, ⟨He.fAd K d_Grammar__init_.at_, fd 39, ["self", "rules"]⟩, ⟨He.fAd K d_Grammar__eq_.at_, fd 40, ["self", "other"]⟩, ⟨He.fAd K d_Pressed__init_.at_, fd 41, ["self", "table", "ends"]⟩, ⟨He.fAd K d_Pressed__eq_.at_, fd 42, ["self", "other"]⟩, ⟨He.fAd K d_is_filled_name.at_, fd 43, ["thing"]⟩, ⟨He.fAd K d_checked_couple.at_, fd 44, ["entry", "last", "at"]⟩, ⟨He.fAd K d_Filling__init_.at_, fd 45, ["self", "grammar", "words"]⟩, ⟨He.fAd K d_Filling__eq_.at_, fd 46, ["self", "other"]⟩, ⟨He.fAd K d_filling_of.at_, fd 47, ["texts"]⟩, ⟨He.fAd K d_Root__init_.at_, fd 48, ["self", "told", "letters", "unknowns", "spares", "empties"]⟩, ⟨He.fAd K d_Root__eq_.at_, fd 49, ["self", "other"]⟩, ⟨He.fAd K d_Trail__init_.at_, fd 50, ["self", "root", "turns"]⟩, ⟨He.fAd K d_Trail__eq_.at_, fd 51, ["self", "other"]⟩, ⟨He.fAd K d_Stages__init_.at_, fd 52, ["self", "grammar", "stages"]⟩, ⟨He.fAd K d_Stages__eq_.at_, fd 53, ["self", "other"]⟩, ⟨He.fAd K d_Run__init_.at_, fd 54, ["self", "turns", "used", "ends", "stop"]⟩, ⟨He.fAd K d_Run__eq_.at_, fd 55, ["self", "other"]⟩, ⟨He.fAd K d_Way__init_.at_, fd 56, ["self", "turns", "reads", "sayings", "ends", "stop"]⟩, ⟨He.fAd K d_Way__eq_.at_, fd 57, ["self", "other"]⟩, ⟨He.fAd K d_Found__init_.at_, fd 58, ["self", "turns", "filling"]⟩, ⟨He.fAd K d_Found__eq_.at_, fd 59, ["self", "other"]⟩, ⟨He.fAd K d_Never__init_.at_, fd 60, ["self", "papers"]⟩, ⟨He.fAd K d_Never__eq_.at_, fd 61, ["self", "other"]⟩, ⟨He.fAd K d_Trial__init_.at_, fd 62, ["self", "tolds", "refused"]⟩, ⟨He.fAd K d_Trial__eq_.at_, fd 63, ["self", "other"]⟩, ⟨He.fAd K d__law_source.at_, fd 64, ["_law_script"]⟩, ⟨He.fAd K d__law_take.at_, fd 65, ["_law_source_here", "_law_many"]⟩, ⟨He.fAd K d__law_book.at_, fd 66, ["_law_size"]⟩, ⟨He.fAd K d__law_part.at_, fd 67, ["_law_kind", "_law_size"]⟩, ⟨He.fAd K d__law_made.at_, fd 68, ["_law_which", "_law_parts"]⟩, ⟨He.fAd K d__law_made_later.at_, fd 69, ["_law_which", "_law_parts"]⟩, ⟨He.fAd K d__law_told.at_, fd 70, ["_law_which", "_law_one"]⟩, ⟨He.fAd K d__law_told_later.at_, fd 71, ["_law_which", "_law_one"]⟩, ⟨He.fAd K d__law_result_right.at_, fd 72, ["_law_which", "_law_kinds", "_law_sizes", "_law_others"]⟩, ⟨He.fAd K d_law.at_, fd 73, ["_law_script"]⟩]
structure Fx (K : PySem.W.Frag) (mg : Str → Option Value) (fd : Nat → FuncData) : Prop where
  D_is_whole : FunD K d_is_whole.name d_is_whole.qual d_is_whole.params d_is_whole.body d_is_whole.scope (d_is_whole.dvs K) (d_is_whole.kws K) (He.fAd K d_is_whole.at_) (fd 0)
  i_is_whole : FnI K ⟨He.fAd K d_is_whole.at_, fd 0, ["thing"]⟩
  D_is_sequence : FunD K d_is_sequence.name d_is_sequence.qual d_is_sequence.params d_is_sequence.body d_is_sequence.scope (d_is_sequence.dvs K) (d_is_sequence.kws K) (He.fAd K d_is_sequence.at_) (fd 1)
  i_is_sequence : FnI K ⟨He.fAd K d_is_sequence.at_, fd 1, ["thing"]⟩
  D_is_state : FunD K d_is_state.name d_is_state.qual d_is_state.params d_is_state.body d_is_state.scope (d_is_state.dvs K) (d_is_state.kws K) (He.fAd K d_is_state.at_) (fd 2)
  i_is_state : FnI K ⟨He.fAd K d_is_state.at_, fd 2, ["thing", "states"]⟩
  D_checked_deeds : FunD K d_checked_deeds.name d_checked_deeds.qual d_checked_deeds.params d_checked_deeds.body d_checked_deeds.scope (d_checked_deeds.dvs K) (d_checked_deeds.kws K) (He.fAd K d_checked_deeds.at_) (fd 3)
  i_checked_deeds : FnI K ⟨He.fAd K d_checked_deeds.at_, fd 3, ["deeds", "states"]⟩
  D_are_goals : FunD K d_are_goals.name d_are_goals.qual d_are_goals.params d_are_goals.body d_are_goals.scope (d_are_goals.dvs K) (d_are_goals.kws K) (He.fAd K d_are_goals.at_) (fd 4)
  i_are_goals : FnI K ⟨He.fAd K d_are_goals.at_, fd 4, ["goals", "states"]⟩
  D_checked_ends : FunD K d_checked_ends.name d_checked_ends.qual d_checked_ends.params d_checked_ends.body d_checked_ends.scope (d_checked_ends.dvs K) (d_checked_ends.kws K) (He.fAd K d_checked_ends.at_) (fd 5)
  i_checked_ends : FnI K ⟨He.fAd K d_checked_ends.at_, fd 5, ["ends", "states"]⟩
  D_checked_rows : FunD K d_checked_rows.name d_checked_rows.qual d_checked_rows.params d_checked_rows.body d_checked_rows.scope (d_checked_rows.dvs K) (d_checked_rows.kws K) (He.fAd K d_checked_rows.at_) (fd 6)
  i_checked_rows : FnI K ⟨He.fAd K d_checked_rows.at_, fd 6, ["rows"]⟩
  D_check_signs : FunD K d_check_signs.name d_check_signs.qual d_check_signs.params d_check_signs.body d_check_signs.scope (d_check_signs.dvs K) (d_check_signs.kws K) (He.fAd K d_check_signs.at_) (fd 7)
  i_check_signs : FnI K ⟨He.fAd K d_check_signs.at_, fd 7, ["rows", "letters", "unknowns"]⟩
  D_Book__init_ : FunD K d_Book__init_.name d_Book__init_.qual d_Book__init_.params d_Book__init_.body d_Book__init_.scope (d_Book__init_.dvs K) (d_Book__init_.kws K) (He.fAd K d_Book__init_.at_) (fd 8)
  i_Book__init_ : FnI K ⟨He.fAd K d_Book__init_.at_, fd 8, ["self", "rows", "deeds", "ends", "states"]⟩
  D_Book__eq_ : FunD K d_Book__eq_.name d_Book__eq_.qual d_Book__eq_.params d_Book__eq_.body d_Book__eq_.scope (d_Book__eq_.dvs K) (d_Book__eq_.kws K) (He.fAd K d_Book__eq_.at_) (fd 9)
  i_Book__eq_ : FnI K ⟨He.fAd K d_Book__eq_.at_, fd 9, ["self", "other"]⟩
  D_Clash__init_ : FunD K d_Clash__init_.name d_Clash__init_.qual d_Clash__init_.params d_Clash__init_.body d_Clash__init_.scope (d_Clash__init_.dvs K) (d_Clash__init_.kws K) (He.fAd K d_Clash__init_.at_) (fd 10)
  i_Clash__init_ : FnI K ⟨He.fAd K d_Clash__init_.at_, fd 10, ["self", "why", "at"]⟩
  D_Clash__eq_ : FunD K d_Clash__eq_.name d_Clash__eq_.qual d_Clash__eq_.params d_Clash__eq_.body d_Clash__eq_.scope (d_Clash__eq_.dvs K) (d_Clash__eq_.kws K) (He.fAd K d_Clash__eq_.at_) (fd 11)
  i_Clash__eq_ : FnI K ⟨He.fAd K d_Clash__eq_.at_, fd 11, ["self", "other"]⟩
  D_Guess__init_ : FunD K d_Guess__init_.name d_Guess__init_.qual d_Guess__init_.params d_Guess__init_.body d_Guess__init_.scope (d_Guess__init_.dvs K) (d_Guess__init_.kws K) (He.fAd K d_Guess__init_.at_) (fd 12)
  i_Guess__init_ : FnI K ⟨He.fAd K d_Guess__init_.at_, fd 12, ["self", "parts", "news", "told", "letters", "unknowns", "spares", "equations"]⟩
  D_Guess__eq_ : FunD K d_Guess__eq_.name d_Guess__eq_.qual d_Guess__eq_.params d_Guess__eq_.body d_Guess__eq_.scope (d_Guess__eq_.dvs K) (d_Guess__eq_.kws K) (He.fAd K d_Guess__eq_.at_) (fd 13)
  i_Guess__eq_ : FnI K ⟨He.fAd K d_Guess__eq_.at_, fd 13, ["self", "other"]⟩
  D_Canon__init_ : FunD K d_Canon__init_.name d_Canon__init_.qual d_Canon__init_.params d_Canon__init_.body d_Canon__init_.scope (d_Canon__init_.dvs K) (d_Canon__init_.kws K) (He.fAd K d_Canon__init_.at_) (fd 14)
  i_Canon__init_ : FnI K ⟨He.fAd K d_Canon__init_.at_, fd 14, ["self", "book", "letters", "unknowns"]⟩
  D_Canon__eq_ : FunD K d_Canon__eq_.name d_Canon__eq_.qual d_Canon__eq_.params d_Canon__eq_.body d_Canon__eq_.scope (d_Canon__eq_.dvs K) (d_Canon__eq_.kws K) (He.fAd K d_Canon__eq_.at_) (fd 15)
  i_Canon__eq_ : FnI K ⟨He.fAd K d_Canon__eq_.at_, fd 15, ["self", "other"]⟩
  D_Settled__init_ : FunD K d_Settled__init_.name d_Settled__init_.qual d_Settled__init_.params d_Settled__init_.body d_Settled__init_.scope (d_Settled__init_.dvs K) (d_Settled__init_.kws K) (He.fAd K d_Settled__init_.at_) (fd 16)
  i_Settled__init_ : FnI K ⟨He.fAd K d_Settled__init_.at_, fd 16, ["self", "told", "letters", "unknowns", "spares"]⟩
  D_Settled__eq_ : FunD K d_Settled__eq_.name d_Settled__eq_.qual d_Settled__eq_.params d_Settled__eq_.body d_Settled__eq_.scope (d_Settled__eq_.dvs K) (d_Settled__eq_.kws K) (He.fAd K d_Settled__eq_.at_) (fd 17)
  i_Settled__eq_ : FnI K ⟨He.fAd K d_Settled__eq_.at_, fd 17, ["self", "other"]⟩
  D_Shape__init_ : FunD K d_Shape__init_.name d_Shape__init_.qual d_Shape__init_.params d_Shape__init_.body d_Shape__init_.scope (d_Shape__init_.dvs K) (d_Shape__init_.kws K) (He.fAd K d_Shape__init_.at_) (fd 18)
  i_Shape__init_ : FnI K ⟨He.fAd K d_Shape__init_.at_, fd 18, ["self", "front", "stays", "back", "ends"]⟩
  D_Shape__eq_ : FunD K d_Shape__eq_.name d_Shape__eq_.qual d_Shape__eq_.params d_Shape__eq_.body d_Shape__eq_.scope (d_Shape__eq_.dvs K) (d_Shape__eq_.kws K) (He.fAd K d_Shape__eq_.at_) (fd 19)
  i_Shape__eq_ : FnI K ⟨He.fAd K d_Shape__eq_.at_, fd 19, ["self", "other"]⟩
  D_Answer__init_ : FunD K d_Answer__init_.name d_Answer__init_.qual d_Answer__init_.params d_Answer__init_.body d_Answer__init_.scope (d_Answer__init_.dvs K) (d_Answer__init_.kws K) (He.fAd K d_Answer__init_.at_) (fd 20)
  i_Answer__init_ : FnI K ⟨He.fAd K d_Answer__init_.at_, fd 20, ["self", "numbers"]⟩
  D_Answer__eq_ : FunD K d_Answer__eq_.name d_Answer__eq_.qual d_Answer__eq_.params d_Answer__eq_.body d_Answer__eq_.scope (d_Answer__eq_.dvs K) (d_Answer__eq_.kws K) (He.fAd K d_Answer__eq_.at_) (fd 21)
  i_Answer__eq_ : FnI K ⟨He.fAd K d_Answer__eq_.at_, fd 21, ["self", "other"]⟩
  D_Carries__init_ : FunD K d_Carries__init_.name d_Carries__init_.qual d_Carries__init_.params d_Carries__init_.body d_Carries__init_.scope (d_Carries__init_.dvs K) (d_Carries__init_.kws K) (He.fAd K d_Carries__init_.at_) (fd 22)
  i_Carries__init_ : FnI K ⟨He.fAd K d_Carries__init_.at_, fd 22, ["self", "rows"]⟩
  D_Carries__eq_ : FunD K d_Carries__eq_.name d_Carries__eq_.qual d_Carries__eq_.params d_Carries__eq_.body d_Carries__eq_.scope (d_Carries__eq_.dvs K) (d_Carries__eq_.kws K) (He.fAd K d_Carries__eq_.at_) (fd 23)
  i_Carries__eq_ : FnI K ⟨He.fAd K d_Carries__eq_.at_, fd 23, ["self", "other"]⟩
  D_Case__init_ : FunD K d_Case__init_.name d_Case__init_.qual d_Case__init_.params d_Case__init_.body d_Case__init_.scope (d_Case__init_.dvs K) (d_Case__init_.kws K) (He.fAd K d_Case__init_.at_) (fd 24)
  i_Case__init_ : FnI K ⟨He.fAd K d_Case__init_.at_, fd 24, ["self", "rows", "sets", "full"]⟩
  D_Case__eq_ : FunD K d_Case__eq_.name d_Case__eq_.qual d_Case__eq_.params d_Case__eq_.body d_Case__eq_.scope (d_Case__eq_.dvs K) (d_Case__eq_.kws K) (He.fAd K d_Case__eq_.at_) (fd 25)
  i_Case__eq_ : FnI K ⟨He.fAd K d_Case__eq_.at_, fd 25, ["self", "other"]⟩
  D_Look__init_ : FunD K d_Look__init_.name d_Look__init_.qual d_Look__init_.params d_Look__init_.body d_Look__init_.scope (d_Look__init_.dvs K) (d_Look__init_.kws K) (He.fAd K d_Look__init_.at_) (fd 26)
  i_Look__init_ : FnI K ⟨He.fAd K d_Look__init_.at_, fd 26, ["self", "step", "outcomes"]⟩
  D_Look__eq_ : FunD K d_Look__eq_.name d_Look__eq_.qual d_Look__eq_.params d_Look__eq_.body d_Look__eq_.scope (d_Look__eq_.dvs K) (d_Look__eq_.kws K) (He.fAd K d_Look__eq_.at_) (fd 27)
  i_Look__eq_ : FnI K ⟨He.fAd K d_Look__eq_.at_, fd 27, ["self", "other"]⟩
  D_Entry__init_ : FunD K d_Entry__init_.name d_Entry__init_.qual d_Entry__init_.params d_Entry__init_.body d_Entry__init_.scope (d_Entry__init_.dvs K) (d_Entry__init_.kws K) (He.fAd K d_Entry__init_.at_) (fd 28)
  i_Entry__init_ : FnI K ⟨He.fAd K d_Entry__init_.at_, fd 28, ["self", "book", "step", "lots"]⟩
  D_Entry__eq_ : FunD K d_Entry__eq_.name d_Entry__eq_.qual d_Entry__eq_.params d_Entry__eq_.body d_Entry__eq_.scope (d_Entry__eq_.dvs K) (d_Entry__eq_.kws K) (He.fAd K d_Entry__eq_.at_) (fd 29)
  i_Entry__eq_ : FnI K ⟨He.fAd K d_Entry__eq_.at_, fd 29, ["self", "other"]⟩
  D_Paper__init_ : FunD K d_Paper__init_.name d_Paper__init_.qual d_Paper__init_.params d_Paper__init_.body d_Paper__init_.scope (d_Paper__init_.dvs K) (d_Paper__init_.kws K) (He.fAd K d_Paper__init_.at_) (fd 30)
  i_Paper__init_ : FnI K ⟨He.fAd K d_Paper__init_.at_, fd 30, ["self", "deeds", "entries"]⟩
  D_Paper__eq_ : FunD K d_Paper__eq_.name d_Paper__eq_.qual d_Paper__eq_.params d_Paper__eq_.body d_Paper__eq_.scope (d_Paper__eq_.dvs K) (d_Paper__eq_.kws K) (He.fAd K d_Paper__eq_.at_) (fd 31)
  i_Paper__eq_ : FnI K ⟨He.fAd K d_Paper__eq_.at_, fd 31, ["self", "other"]⟩
  D_Shut__init_ : FunD K d_Shut__init_.name d_Shut__init_.qual d_Shut__init_.params d_Shut__init_.body d_Shut__init_.scope (d_Shut__init_.dvs K) (d_Shut__init_.kws K) (He.fAd K d_Shut__init_.at_) (fd 32)
  i_Shut__init_ : FnI K ⟨He.fAd K d_Shut__init_.at_, fd 32, ["self", "paper"]⟩
  D_Shut__eq_ : FunD K d_Shut__eq_.name d_Shut__eq_.qual d_Shut__eq_.params d_Shut__eq_.body d_Shut__eq_.scope (d_Shut__eq_.dvs K) (d_Shut__eq_.kws K) (He.fAd K d_Shut__eq_.at_) (fd 33)
  i_Shut__eq_ : FnI K ⟨He.fAd K d_Shut__eq_.at_, fd 33, ["self", "other"]⟩
  D_is_outer_text : FunD K d_is_outer_text.name d_is_outer_text.qual d_is_outer_text.params d_is_outer_text.body d_is_outer_text.scope (d_is_outer_text.dvs K) (d_is_outer_text.kws K) (He.fAd K d_is_outer_text.at_) (fd 34)
  i_is_outer_text : FnI K ⟨He.fAd K d_is_outer_text.at_, fd 34, ["thing"]⟩
  D_is_earlier : FunD K d_is_earlier.name d_is_earlier.qual d_is_earlier.params d_is_earlier.body d_is_earlier.scope (d_is_earlier.dvs K) (d_is_earlier.kws K) (He.fAd K d_is_earlier.at_) (fd 35)
  i_is_earlier : FnI K ⟨He.fAd K d_is_earlier.at_, fd 35, ["symbol", "at"]⟩
  D_checked_rule : FunD K d_checked_rule.name d_checked_rule.qual d_checked_rule.params d_checked_rule.body d_checked_rule.scope (d_checked_rule.dvs K) (d_checked_rule.kws K) (He.fAd K d_checked_rule.at_) (fd 36)
  i_checked_rule : FnI K ⟨He.fAd K d_checked_rule.at_, fd 36, ["rule", "at"]⟩
  D_checked_word : FunD K d_checked_word.name d_checked_word.qual d_checked_word.params d_checked_word.body d_checked_word.scope (d_checked_word.dvs K) (d_checked_word.kws K) (He.fAd K d_checked_word.at_) (fd 37)
  i_checked_word : FnI K ⟨He.fAd K d_checked_word.at_, fd 37, ["grammar", "word"]⟩
  D_rule_lengths : FunD K d_rule_lengths.name d_rule_lengths.qual d_rule_lengths.params d_rule_lengths.body d_rule_lengths.scope (d_rule_lengths.dvs K) (d_rule_lengths.kws K) (He.fAd K d_rule_lengths.at_) (fd 38)
  i_rule_lengths : FnI K ⟨He.fAd K d_rule_lengths.at_, fd 38, ["rules"]⟩
  D_Grammar__init_ : FunD K d_Grammar__init_.name d_Grammar__init_.qual d_Grammar__init_.params d_Grammar__init_.body d_Grammar__init_.scope (d_Grammar__init_.dvs K) (d_Grammar__init_.kws K) (He.fAd K d_Grammar__init_.at_) (fd 39)
  i_Grammar__init_ : FnI K ⟨He.fAd K d_Grammar__init_.at_, fd 39, ["self", "rules"]⟩
  D_Grammar__eq_ : FunD K d_Grammar__eq_.name d_Grammar__eq_.qual d_Grammar__eq_.params d_Grammar__eq_.body d_Grammar__eq_.scope (d_Grammar__eq_.dvs K) (d_Grammar__eq_.kws K) (He.fAd K d_Grammar__eq_.at_) (fd 40)
  i_Grammar__eq_ : FnI K ⟨He.fAd K d_Grammar__eq_.at_, fd 40, ["self", "other"]⟩
  D_Pressed__init_ : FunD K d_Pressed__init_.name d_Pressed__init_.qual d_Pressed__init_.params d_Pressed__init_.body d_Pressed__init_.scope (d_Pressed__init_.dvs K) (d_Pressed__init_.kws K) (He.fAd K d_Pressed__init_.at_) (fd 41)
  i_Pressed__init_ : FnI K ⟨He.fAd K d_Pressed__init_.at_, fd 41, ["self", "table", "ends"]⟩
  D_Pressed__eq_ : FunD K d_Pressed__eq_.name d_Pressed__eq_.qual d_Pressed__eq_.params d_Pressed__eq_.body d_Pressed__eq_.scope (d_Pressed__eq_.dvs K) (d_Pressed__eq_.kws K) (He.fAd K d_Pressed__eq_.at_) (fd 42)
  i_Pressed__eq_ : FnI K ⟨He.fAd K d_Pressed__eq_.at_, fd 42, ["self", "other"]⟩
  D_is_filled_name : FunD K d_is_filled_name.name d_is_filled_name.qual d_is_filled_name.params d_is_filled_name.body d_is_filled_name.scope (d_is_filled_name.dvs K) (d_is_filled_name.kws K) (He.fAd K d_is_filled_name.at_) (fd 43)
  i_is_filled_name : FnI K ⟨He.fAd K d_is_filled_name.at_, fd 43, ["thing"]⟩
  D_checked_couple : FunD K d_checked_couple.name d_checked_couple.qual d_checked_couple.params d_checked_couple.body d_checked_couple.scope (d_checked_couple.dvs K) (d_checked_couple.kws K) (He.fAd K d_checked_couple.at_) (fd 44)
  i_checked_couple : FnI K ⟨He.fAd K d_checked_couple.at_, fd 44, ["entry", "last", "at"]⟩
  D_Filling__init_ : FunD K d_Filling__init_.name d_Filling__init_.qual d_Filling__init_.params d_Filling__init_.body d_Filling__init_.scope (d_Filling__init_.dvs K) (d_Filling__init_.kws K) (He.fAd K d_Filling__init_.at_) (fd 45)
  i_Filling__init_ : FnI K ⟨He.fAd K d_Filling__init_.at_, fd 45, ["self", "grammar", "words"]⟩
  D_Filling__eq_ : FunD K d_Filling__eq_.name d_Filling__eq_.qual d_Filling__eq_.params d_Filling__eq_.body d_Filling__eq_.scope (d_Filling__eq_.dvs K) (d_Filling__eq_.kws K) (He.fAd K d_Filling__eq_.at_) (fd 46)
  i_Filling__eq_ : FnI K ⟨He.fAd K d_Filling__eq_.at_, fd 46, ["self", "other"]⟩
  D_filling_of : FunD K d_filling_of.name d_filling_of.qual d_filling_of.params d_filling_of.body d_filling_of.scope (d_filling_of.dvs K) (d_filling_of.kws K) (He.fAd K d_filling_of.at_) (fd 47)
  i_filling_of : FnI K ⟨He.fAd K d_filling_of.at_, fd 47, ["texts"]⟩
  D_Root__init_ : FunD K d_Root__init_.name d_Root__init_.qual d_Root__init_.params d_Root__init_.body d_Root__init_.scope (d_Root__init_.dvs K) (d_Root__init_.kws K) (He.fAd K d_Root__init_.at_) (fd 48)
  i_Root__init_ : FnI K ⟨He.fAd K d_Root__init_.at_, fd 48, ["self", "told", "letters", "unknowns", "spares", "empties"]⟩
  D_Root__eq_ : FunD K d_Root__eq_.name d_Root__eq_.qual d_Root__eq_.params d_Root__eq_.body d_Root__eq_.scope (d_Root__eq_.dvs K) (d_Root__eq_.kws K) (He.fAd K d_Root__eq_.at_) (fd 49)
  i_Root__eq_ : FnI K ⟨He.fAd K d_Root__eq_.at_, fd 49, ["self", "other"]⟩
  D_Trail__init_ : FunD K d_Trail__init_.name d_Trail__init_.qual d_Trail__init_.params d_Trail__init_.body d_Trail__init_.scope (d_Trail__init_.dvs K) (d_Trail__init_.kws K) (He.fAd K d_Trail__init_.at_) (fd 50)
  i_Trail__init_ : FnI K ⟨He.fAd K d_Trail__init_.at_, fd 50, ["self", "root", "turns"]⟩
  D_Trail__eq_ : FunD K d_Trail__eq_.name d_Trail__eq_.qual d_Trail__eq_.params d_Trail__eq_.body d_Trail__eq_.scope (d_Trail__eq_.dvs K) (d_Trail__eq_.kws K) (He.fAd K d_Trail__eq_.at_) (fd 51)
  i_Trail__eq_ : FnI K ⟨He.fAd K d_Trail__eq_.at_, fd 51, ["self", "other"]⟩
  D_Stages__init_ : FunD K d_Stages__init_.name d_Stages__init_.qual d_Stages__init_.params d_Stages__init_.body d_Stages__init_.scope (d_Stages__init_.dvs K) (d_Stages__init_.kws K) (He.fAd K d_Stages__init_.at_) (fd 52)
  i_Stages__init_ : FnI K ⟨He.fAd K d_Stages__init_.at_, fd 52, ["self", "grammar", "stages"]⟩
  D_Stages__eq_ : FunD K d_Stages__eq_.name d_Stages__eq_.qual d_Stages__eq_.params d_Stages__eq_.body d_Stages__eq_.scope (d_Stages__eq_.dvs K) (d_Stages__eq_.kws K) (He.fAd K d_Stages__eq_.at_) (fd 53)
  i_Stages__eq_ : FnI K ⟨He.fAd K d_Stages__eq_.at_, fd 53, ["self", "other"]⟩
  D_Run__init_ : FunD K d_Run__init_.name d_Run__init_.qual d_Run__init_.params d_Run__init_.body d_Run__init_.scope (d_Run__init_.dvs K) (d_Run__init_.kws K) (He.fAd K d_Run__init_.at_) (fd 54)
  i_Run__init_ : FnI K ⟨He.fAd K d_Run__init_.at_, fd 54, ["self", "turns", "used", "ends", "stop"]⟩
  D_Run__eq_ : FunD K d_Run__eq_.name d_Run__eq_.qual d_Run__eq_.params d_Run__eq_.body d_Run__eq_.scope (d_Run__eq_.dvs K) (d_Run__eq_.kws K) (He.fAd K d_Run__eq_.at_) (fd 55)
  i_Run__eq_ : FnI K ⟨He.fAd K d_Run__eq_.at_, fd 55, ["self", "other"]⟩
  D_Way__init_ : FunD K d_Way__init_.name d_Way__init_.qual d_Way__init_.params d_Way__init_.body d_Way__init_.scope (d_Way__init_.dvs K) (d_Way__init_.kws K) (He.fAd K d_Way__init_.at_) (fd 56)
  i_Way__init_ : FnI K ⟨He.fAd K d_Way__init_.at_, fd 56, ["self", "turns", "reads", "sayings", "ends", "stop"]⟩
  D_Way__eq_ : FunD K d_Way__eq_.name d_Way__eq_.qual d_Way__eq_.params d_Way__eq_.body d_Way__eq_.scope (d_Way__eq_.dvs K) (d_Way__eq_.kws K) (He.fAd K d_Way__eq_.at_) (fd 57)
  i_Way__eq_ : FnI K ⟨He.fAd K d_Way__eq_.at_, fd 57, ["self", "other"]⟩
  D_Found__init_ : FunD K d_Found__init_.name d_Found__init_.qual d_Found__init_.params d_Found__init_.body d_Found__init_.scope (d_Found__init_.dvs K) (d_Found__init_.kws K) (He.fAd K d_Found__init_.at_) (fd 58)
  i_Found__init_ : FnI K ⟨He.fAd K d_Found__init_.at_, fd 58, ["self", "turns", "filling"]⟩
  D_Found__eq_ : FunD K d_Found__eq_.name d_Found__eq_.qual d_Found__eq_.params d_Found__eq_.body d_Found__eq_.scope (d_Found__eq_.dvs K) (d_Found__eq_.kws K) (He.fAd K d_Found__eq_.at_) (fd 59)
  i_Found__eq_ : FnI K ⟨He.fAd K d_Found__eq_.at_, fd 59, ["self", "other"]⟩
  D_Never__init_ : FunD K d_Never__init_.name d_Never__init_.qual d_Never__init_.params d_Never__init_.body d_Never__init_.scope (d_Never__init_.dvs K) (d_Never__init_.kws K) (He.fAd K d_Never__init_.at_) (fd 60)
  i_Never__init_ : FnI K ⟨He.fAd K d_Never__init_.at_, fd 60, ["self", "papers"]⟩
  D_Never__eq_ : FunD K d_Never__eq_.name d_Never__eq_.qual d_Never__eq_.params d_Never__eq_.body d_Never__eq_.scope (d_Never__eq_.dvs K) (d_Never__eq_.kws K) (He.fAd K d_Never__eq_.at_) (fd 61)
  i_Never__eq_ : FnI K ⟨He.fAd K d_Never__eq_.at_, fd 61, ["self", "other"]⟩
  D_Trial__init_ : FunD K d_Trial__init_.name d_Trial__init_.qual d_Trial__init_.params d_Trial__init_.body d_Trial__init_.scope (d_Trial__init_.dvs K) (d_Trial__init_.kws K) (He.fAd K d_Trial__init_.at_) (fd 62)
  i_Trial__init_ : FnI K ⟨He.fAd K d_Trial__init_.at_, fd 62, ["self", "tolds", "refused"]⟩
  D_Trial__eq_ : FunD K d_Trial__eq_.name d_Trial__eq_.qual d_Trial__eq_.params d_Trial__eq_.body d_Trial__eq_.scope (d_Trial__eq_.dvs K) (d_Trial__eq_.kws K) (He.fAd K d_Trial__eq_.at_) (fd 63)
  i_Trial__eq_ : FnI K ⟨He.fAd K d_Trial__eq_.at_, fd 63, ["self", "other"]⟩
  D__law_source : FunD K d__law_source.name d__law_source.qual d__law_source.params d__law_source.body d__law_source.scope (d__law_source.dvs K) (d__law_source.kws K) (He.fAd K d__law_source.at_) (fd 64)
  i__law_source : FnI K ⟨He.fAd K d__law_source.at_, fd 64, ["_law_script"]⟩
  D__law_take : FunD K d__law_take.name d__law_take.qual d__law_take.params d__law_take.body d__law_take.scope (d__law_take.dvs K) (d__law_take.kws K) (He.fAd K d__law_take.at_) (fd 65)
  i__law_take : FnI K ⟨He.fAd K d__law_take.at_, fd 65, ["_law_source_here", "_law_many"]⟩
  D__law_book : FunD K d__law_book.name d__law_book.qual d__law_book.params d__law_book.body d__law_book.scope (d__law_book.dvs K) (d__law_book.kws K) (He.fAd K d__law_book.at_) (fd 66)
  i__law_book : FnI K ⟨He.fAd K d__law_book.at_, fd 66, ["_law_size"]⟩
  D__law_part : FunD K d__law_part.name d__law_part.qual d__law_part.params d__law_part.body d__law_part.scope (d__law_part.dvs K) (d__law_part.kws K) (He.fAd K d__law_part.at_) (fd 67)
  i__law_part : FnI K ⟨He.fAd K d__law_part.at_, fd 67, ["_law_kind", "_law_size"]⟩
  D__law_made : FunD K d__law_made.name d__law_made.qual d__law_made.params d__law_made.body d__law_made.scope (d__law_made.dvs K) (d__law_made.kws K) (He.fAd K d__law_made.at_) (fd 68)
  i__law_made : FnI K ⟨He.fAd K d__law_made.at_, fd 68, ["_law_which", "_law_parts"]⟩
  D__law_made_later : FunD K d__law_made_later.name d__law_made_later.qual d__law_made_later.params d__law_made_later.body d__law_made_later.scope (d__law_made_later.dvs K) (d__law_made_later.kws K) (He.fAd K d__law_made_later.at_) (fd 69)
  i__law_made_later : FnI K ⟨He.fAd K d__law_made_later.at_, fd 69, ["_law_which", "_law_parts"]⟩
  D__law_told : FunD K d__law_told.name d__law_told.qual d__law_told.params d__law_told.body d__law_told.scope (d__law_told.dvs K) (d__law_told.kws K) (He.fAd K d__law_told.at_) (fd 70)
  i__law_told : FnI K ⟨He.fAd K d__law_told.at_, fd 70, ["_law_which", "_law_one"]⟩
  D__law_told_later : FunD K d__law_told_later.name d__law_told_later.qual d__law_told_later.params d__law_told_later.body d__law_told_later.scope (d__law_told_later.dvs K) (d__law_told_later.kws K) (He.fAd K d__law_told_later.at_) (fd 71)
  i__law_told_later : FnI K ⟨He.fAd K d__law_told_later.at_, fd 71, ["_law_which", "_law_one"]⟩
  D__law_result_right : FunD K d__law_result_right.name d__law_result_right.qual d__law_result_right.params d__law_result_right.body d__law_result_right.scope (d__law_result_right.dvs K) (d__law_result_right.kws K) (He.fAd K d__law_result_right.at_) (fd 72)
  i__law_result_right : FnI K ⟨He.fAd K d__law_result_right.at_, fd 72, ["_law_which", "_law_kinds", "_law_sizes", "_law_others"]⟩
  D_law : FunD K d_law.name d_law.qual d_law.params d_law.body d_law.scope (d_law.dvs K) (d_law.kws K) (He.fAd K d_law.at_) (fd 73)
  i_law : FnI K ⟨He.fAd K d_law.at_, fd 73, ["_law_script"]⟩
  j_Book__init__1 : FnD K (ct K) ⟨He.fAd K d_Book__init_.at_, fd 8, ["self", "rows", "deeds", "ends", "states"]⟩ [.int 1]
  g_Answer : mg "Answer" = some (.ref (He.ga K "Answer"))
  g_BadBook : mg "BadBook" = some (.ref (He.ga K "BadBook"))
  g_BadFilling : mg "BadFilling" = some (.ref (He.ga K "BadFilling"))
  g_BadGrammar : mg "BadGrammar" = some (.ref (He.ga K "BadGrammar"))
  g_Book : mg "Book" = some (.ref (He.ga K "Book"))
  g_Canon : mg "Canon" = some (.ref (He.ga K "Canon"))
  g_Carries : mg "Carries" = some (.ref (He.ga K "Carries"))
  g_Case : mg "Case" = some (.ref (He.ga K "Case"))
  g_Clash : mg "Clash" = some (.ref (He.ga K "Clash"))
  g_Entry : mg "Entry" = some (.ref (He.ga K "Entry"))
  g_Filling : mg "Filling" = some (.ref (He.ga K "Filling"))
  g_Found : mg "Found" = some (.ref (He.ga K "Found"))
  g_Grammar : mg "Grammar" = some (.ref (He.ga K "Grammar"))
  g_Guess : mg "Guess" = some (.ref (He.ga K "Guess"))
  g_Look : mg "Look" = some (.ref (He.ga K "Look"))
  g_Never : mg "Never" = some (.ref (He.ga K "Never"))
  g_NoSymbol : mg "NoSymbol" = some (.ref (He.ga K "NoSymbol"))
  g_Paper : mg "Paper" = some (.ref (He.ga K "Paper"))
  g_PressError : mg "PressError" = some (.ref (He.ga K "PressError"))
  g_Pressed : mg "Pressed" = some (.ref (He.ga K "Pressed"))
  g_Root : mg "Root" = some (.ref (He.ga K "Root"))
  g_Run : mg "Run" = some (.ref (He.ga K "Run"))
  g_Settled : mg "Settled" = some (.ref (He.ga K "Settled"))
  g_Shape : mg "Shape" = some (.ref (He.ga K "Shape"))
  g_Shut : mg "Shut" = some (.ref (He.ga K "Shut"))
  g_Stages : mg "Stages" = some (.ref (He.ga K "Stages"))
  g_TooLong : mg "TooLong" = some (.ref (He.ga K "TooLong"))
  g_Trail : mg "Trail" = some (.ref (He.ga K "Trail"))
  g_Trial : mg "Trial" = some (.ref (He.ga K "Trial"))
  g_Way : mg "Way" = some (.ref (He.ga K "Way"))
  g__law_book : mg "_law_book" = some (.ref (He.ga K "_law_book"))
  g__law_made : mg "_law_made" = some (.ref (He.ga K "_law_made"))
  g__law_made_later : mg "_law_made_later" = some (.ref (He.ga K "_law_made_later"))
  g__law_part : mg "_law_part" = some (.ref (He.ga K "_law_part"))
  g__law_result_right : mg "_law_result_right" = some (.ref (He.ga K "_law_result_right"))
  g__law_source : mg "_law_source" = some (.ref (He.ga K "_law_source"))
  g__law_take : mg "_law_take" = some (.ref (He.ga K "_law_take"))
  g__law_told : mg "_law_told" = some (.ref (He.ga K "_law_told"))
  g__law_told_later : mg "_law_told_later" = some (.ref (He.ga K "_law_told_later"))
  g_are_goals : mg "are_goals" = some (.ref (He.ga K "are_goals"))
  g_check_signs : mg "check_signs" = some (.ref (He.ga K "check_signs"))
  g_checked_couple : mg "checked_couple" = some (.ref (He.ga K "checked_couple"))
  g_checked_deeds : mg "checked_deeds" = some (.ref (He.ga K "checked_deeds"))
  g_checked_ends : mg "checked_ends" = some (.ref (He.ga K "checked_ends"))
  g_checked_rows : mg "checked_rows" = some (.ref (He.ga K "checked_rows"))
  g_checked_rule : mg "checked_rule" = some (.ref (He.ga K "checked_rule"))
  g_checked_word : mg "checked_word" = some (.ref (He.ga K "checked_word"))
  g_filling_of : mg "filling_of" = some (.ref (He.ga K "filling_of"))
  g_is_earlier : mg "is_earlier" = some (.ref (He.ga K "is_earlier"))
  g_is_filled_name : mg "is_filled_name" = some (.ref (He.ga K "is_filled_name"))
  g_is_outer_text : mg "is_outer_text" = some (.ref (He.ga K "is_outer_text"))
  g_is_sequence : mg "is_sequence" = some (.ref (He.ga K "is_sequence"))
  g_is_state : mg "is_state" = some (.ref (He.ga K "is_state"))
  g_is_whole : mg "is_whole" = some (.ref (He.ga K "is_whole"))
  g_law : mg "law" = some (.ref (He.ga K "law"))
  g_rule_lengths : mg "rule_lengths" = some (.ref (He.ga K "rule_lengths"))
  f_all : mg "all" = none
  f_bool : mg "bool" = none
  f_enumerate : mg "enumerate" = none
  f_int : mg "int" = none
  f_isinstance : mg "isinstance" = none
  f_len : mg "len" = none
  f_list : mg "list" = none
  f_range : mg "range" = none
  f_str : mg "str" = none
  f_tuple : mg "tuple" = none
  c_Answer : Cls K (He.ga K "Answer")
  c_Book : Cls K (He.ga K "Book")
  c_Canon : Cls K (He.ga K "Canon")
  c_Carries : Cls K (He.ga K "Carries")
  c_Case : Cls K (He.ga K "Case")
  c_Clash : Cls K (He.ga K "Clash")
  c_Entry : Cls K (He.ga K "Entry")
  c_Filling : Cls K (He.ga K "Filling")
  c_Found : Cls K (He.ga K "Found")
  c_Grammar : Cls K (He.ga K "Grammar")
  c_Guess : Cls K (He.ga K "Guess")
  c_Look : Cls K (He.ga K "Look")
  c_Never : Cls K (He.ga K "Never")
  c_Paper : Cls K (He.ga K "Paper")
  c_Pressed : Cls K (He.ga K "Pressed")
  c_Root : Cls K (He.ga K "Root")
  c_Run : Cls K (He.ga K "Run")
  c_Settled : Cls K (He.ga K "Settled")
  c_Shape : Cls K (He.ga K "Shape")
  c_Shut : Cls K (He.ga K "Shut")
  c_Stages : Cls K (He.ga K "Stages")
  c_Trail : Cls K (He.ga K "Trail")
  c_Trial : Cls K (He.ga K "Trial")
  c_Way : Cls K (He.ga K "Way")
  n_Answer_numbers : NoAttr K (He.ga K "Answer") "numbers"
  n_Book_deeds : NoAttr K (He.ga K "Book") "deeds"
  n_Book_ends : NoAttr K (He.ga K "Book") "ends"
  n_Book_rows : NoAttr K (He.ga K "Book") "rows"
  n_Book_states : NoAttr K (He.ga K "Book") "states"
  n_Canon_book : NoAttr K (He.ga K "Canon") "book"
  n_Canon_letters : NoAttr K (He.ga K "Canon") "letters"
  n_Canon_unknowns : NoAttr K (He.ga K "Canon") "unknowns"
  n_Carries_rows : NoAttr K (He.ga K "Carries") "rows"
  n_Case_full : NoAttr K (He.ga K "Case") "full"
  n_Case_rows : NoAttr K (He.ga K "Case") "rows"
  n_Case_sets : NoAttr K (He.ga K "Case") "sets"
  n_Clash_at : NoAttr K (He.ga K "Clash") "at"
  n_Clash_why : NoAttr K (He.ga K "Clash") "why"
  n_Entry_book : NoAttr K (He.ga K "Entry") "book"
  n_Entry_lots : NoAttr K (He.ga K "Entry") "lots"
  n_Entry_step : NoAttr K (He.ga K "Entry") "step"
  n_Filling_grammar : NoAttr K (He.ga K "Filling") "grammar"
  n_Filling_words : NoAttr K (He.ga K "Filling") "words"
  n_Found_filling : NoAttr K (He.ga K "Found") "filling"
  n_Found_turns : NoAttr K (He.ga K "Found") "turns"
  n_Grammar_lengths : NoAttr K (He.ga K "Grammar") "lengths"
  n_Grammar_rules : NoAttr K (He.ga K "Grammar") "rules"
  n_Guess_equations : NoAttr K (He.ga K "Guess") "equations"
  n_Guess_letters : NoAttr K (He.ga K "Guess") "letters"
  n_Guess_news : NoAttr K (He.ga K "Guess") "news"
  n_Guess_parts : NoAttr K (He.ga K "Guess") "parts"
  n_Guess_spares : NoAttr K (He.ga K "Guess") "spares"
  n_Guess_told : NoAttr K (He.ga K "Guess") "told"
  n_Guess_unknowns : NoAttr K (He.ga K "Guess") "unknowns"
  n_Look_outcomes : NoAttr K (He.ga K "Look") "outcomes"
  n_Look_step : NoAttr K (He.ga K "Look") "step"
  n_Never_papers : NoAttr K (He.ga K "Never") "papers"
  n_Paper_deeds : NoAttr K (He.ga K "Paper") "deeds"
  n_Paper_entries : NoAttr K (He.ga K "Paper") "entries"
  n_Pressed_ends : NoAttr K (He.ga K "Pressed") "ends"
  n_Pressed_table : NoAttr K (He.ga K "Pressed") "table"
  n_Root_empties : NoAttr K (He.ga K "Root") "empties"
  n_Root_letters : NoAttr K (He.ga K "Root") "letters"
  n_Root_spares : NoAttr K (He.ga K "Root") "spares"
  n_Root_told : NoAttr K (He.ga K "Root") "told"
  n_Root_unknowns : NoAttr K (He.ga K "Root") "unknowns"
  n_Run_ends : NoAttr K (He.ga K "Run") "ends"
  n_Run_stop : NoAttr K (He.ga K "Run") "stop"
  n_Run_turns : NoAttr K (He.ga K "Run") "turns"
  n_Run_used : NoAttr K (He.ga K "Run") "used"
  n_Settled_letters : NoAttr K (He.ga K "Settled") "letters"
  n_Settled_spares : NoAttr K (He.ga K "Settled") "spares"
  n_Settled_told : NoAttr K (He.ga K "Settled") "told"
  n_Settled_unknowns : NoAttr K (He.ga K "Settled") "unknowns"
  n_Shape_back : NoAttr K (He.ga K "Shape") "back"
  n_Shape_ends : NoAttr K (He.ga K "Shape") "ends"
  n_Shape_front : NoAttr K (He.ga K "Shape") "front"
  n_Shape_stays : NoAttr K (He.ga K "Shape") "stays"
  n_Shut_paper : NoAttr K (He.ga K "Shut") "paper"
  n_Stages_grammar : NoAttr K (He.ga K "Stages") "grammar"
  n_Stages_stages : NoAttr K (He.ga K "Stages") "stages"
  n_Trail_root : NoAttr K (He.ga K "Trail") "root"
  n_Trail_turns : NoAttr K (He.ga K "Trail") "turns"
  n_Trial_refused : NoAttr K (He.ga K "Trial") "refused"
  n_Trial_tolds : NoAttr K (He.ga K "Trial") "tolds"
  n_Way_ends : NoAttr K (He.ga K "Way") "ends"
  n_Way_reads : NoAttr K (He.ga K "Way") "reads"
  n_Way_sayings : NoAttr K (He.ga K "Way") "sayings"
  n_Way_stop : NoAttr K (He.ga K "Way") "stop"
  n_Way_turns : NoAttr K (He.ga K "Way") "turns"
  m_Answer : Mk K (He.ga K "Answer") (He.fAd K d_Answer__init_.at_)
  m_Book : Mk K (He.ga K "Book") (He.fAd K d_Book__init_.at_)
  m_Canon : Mk K (He.ga K "Canon") (He.fAd K d_Canon__init_.at_)
  m_Carries : Mk K (He.ga K "Carries") (He.fAd K d_Carries__init_.at_)
  m_Case : Mk K (He.ga K "Case") (He.fAd K d_Case__init_.at_)
  m_Clash : Mk K (He.ga K "Clash") (He.fAd K d_Clash__init_.at_)
  m_Entry : Mk K (He.ga K "Entry") (He.fAd K d_Entry__init_.at_)
  m_Filling : Mk K (He.ga K "Filling") (He.fAd K d_Filling__init_.at_)
  m_Found : Mk K (He.ga K "Found") (He.fAd K d_Found__init_.at_)
  m_Grammar : Mk K (He.ga K "Grammar") (He.fAd K d_Grammar__init_.at_)
  m_Guess : Mk K (He.ga K "Guess") (He.fAd K d_Guess__init_.at_)
  m_Look : Mk K (He.ga K "Look") (He.fAd K d_Look__init_.at_)
  m_Never : Mk K (He.ga K "Never") (He.fAd K d_Never__init_.at_)
  m_Paper : Mk K (He.ga K "Paper") (He.fAd K d_Paper__init_.at_)
  m_Pressed : Mk K (He.ga K "Pressed") (He.fAd K d_Pressed__init_.at_)
  m_Root : Mk K (He.ga K "Root") (He.fAd K d_Root__init_.at_)
  m_Run : Mk K (He.ga K "Run") (He.fAd K d_Run__init_.at_)
  m_Settled : Mk K (He.ga K "Settled") (He.fAd K d_Settled__init_.at_)
  m_Shape : Mk K (He.ga K "Shape") (He.fAd K d_Shape__init_.at_)
  m_Shut : Mk K (He.ga K "Shut") (He.fAd K d_Shut__init_.at_)
  m_Stages : Mk K (He.ga K "Stages") (He.fAd K d_Stages__init_.at_)
  m_Trail : Mk K (He.ga K "Trail") (He.fAd K d_Trail__init_.at_)
  m_Trial : Mk K (He.ga K "Trial") (He.fAd K d_Trial__init_.at_)
  m_Way : Mk K (He.ga K "Way") (He.fAd K d_Way__init_.at_)
  e_Book : Meth K (He.ga K "Book") "__eq__" (He.fAd K d_Book__eq_.at_)
  e_Clash : Meth K (He.ga K "Clash") "__eq__" (He.fAd K d_Clash__eq_.at_)
  e_Guess : Meth K (He.ga K "Guess") "__eq__" (He.fAd K d_Guess__eq_.at_)
  e_Canon : Meth K (He.ga K "Canon") "__eq__" (He.fAd K d_Canon__eq_.at_)
  e_Settled : Meth K (He.ga K "Settled") "__eq__" (He.fAd K d_Settled__eq_.at_)
  e_Shape : Meth K (He.ga K "Shape") "__eq__" (He.fAd K d_Shape__eq_.at_)
  e_Answer : Meth K (He.ga K "Answer") "__eq__" (He.fAd K d_Answer__eq_.at_)
  e_Carries : Meth K (He.ga K "Carries") "__eq__" (He.fAd K d_Carries__eq_.at_)
  e_Case : Meth K (He.ga K "Case") "__eq__" (He.fAd K d_Case__eq_.at_)
  e_Look : Meth K (He.ga K "Look") "__eq__" (He.fAd K d_Look__eq_.at_)
  e_Entry : Meth K (He.ga K "Entry") "__eq__" (He.fAd K d_Entry__eq_.at_)
  e_Paper : Meth K (He.ga K "Paper") "__eq__" (He.fAd K d_Paper__eq_.at_)
  e_Shut : Meth K (He.ga K "Shut") "__eq__" (He.fAd K d_Shut__eq_.at_)
  e_Grammar : Meth K (He.ga K "Grammar") "__eq__" (He.fAd K d_Grammar__eq_.at_)
  e_Pressed : Meth K (He.ga K "Pressed") "__eq__" (He.fAd K d_Pressed__eq_.at_)
  e_Filling : Meth K (He.ga K "Filling") "__eq__" (He.fAd K d_Filling__eq_.at_)
  e_Root : Meth K (He.ga K "Root") "__eq__" (He.fAd K d_Root__eq_.at_)
  e_Trail : Meth K (He.ga K "Trail") "__eq__" (He.fAd K d_Trail__eq_.at_)
  e_Stages : Meth K (He.ga K "Stages") "__eq__" (He.fAd K d_Stages__eq_.at_)
  e_Run : Meth K (He.ga K "Run") "__eq__" (He.fAd K d_Run__eq_.at_)
  e_Way : Meth K (He.ga K "Way") "__eq__" (He.fAd K d_Way__eq_.at_)
  e_Found : Meth K (He.ga K "Found") "__eq__" (He.fAd K d_Found__eq_.at_)
  e_Never : Meth K (He.ga K "Never") "__eq__" (He.fAd K d_Never__eq_.at_)
  e_Trial : Meth K (He.ga K "Trial") "__eq__" (He.fAd K d_Trial__eq_.at_)
  k_FIGURES : ∃ t, mg "FIGURES" = some (.str "0123456789" t)
  k_MOST_SIGNS : ∃ t, mg "MOST_SIGNS" = some (.int 400 t)
  k_MOST_TIMES : ∃ t, mg "MOST_TIMES" = some (.int 100000000000000000000000000000000000000000000000000000000000000 t)
  k_OUTER : ∃ t, mg "OUTER" = some (.str "abc" t)
  k_SMALL : ∃ t, mg "SMALL" = some (.str "abcdefghijklmnopqrstuvwxyz" t)
  w_isi : isiAllB K cn isOk = true
  w_kit : kitAllB K cn isOk isBt isCs = true
  w_nf : nfAllB K cn (eqTab.map (·.1)) = true
section
variable {K : PySem.W.Frag} {mg : Str → Option Value} {fd : Nat → FuncData}
theorem fx_of {h : Heap} (X : K.In h) (G : h.Ns mainGlobals mg) (c : SaysM (fun K => (xf K).all id) fa fn K) (hd : ∀ i d, fn[i]? = some d → FunD K d.name d.qual d.params d.body d.scope (d.dvs K) (d.kws K) (He.fAd K d.at_) (fd i)) : Fx K mg fd where
  D_is_whole := hd 0 _ rfl
  i_is_whole := ⟨(hd 0 _ rfl).kp, (hd 0 _ rfl).bindsN fun _ _ _ _ _ _ us hl => match us, hl with | [_], _ => rfl⟩
  D_is_sequence := hd 1 _ rfl
  i_is_sequence := ⟨(hd 1 _ rfl).kp, (hd 1 _ rfl).bindsN fun _ _ _ _ _ _ us hl => match us, hl with | [_], _ => rfl⟩
  D_is_state := hd 2 _ rfl
  i_is_state := ⟨(hd 2 _ rfl).kp, (hd 2 _ rfl).bindsN fun _ _ _ _ _ _ us hl => match us, hl with | [_, _], _ => rfl⟩
  D_checked_deeds := hd 3 _ rfl
  i_checked_deeds := ⟨(hd 3 _ rfl).kp, (hd 3 _ rfl).bindsN fun _ _ _ _ _ _ us hl => match us, hl with | [_, _], _ => rfl⟩
  D_are_goals := hd 4 _ rfl
  i_are_goals := ⟨(hd 4 _ rfl).kp, (hd 4 _ rfl).bindsN fun _ _ _ _ _ _ us hl => match us, hl with | [_, _], _ => rfl⟩
  D_checked_ends := hd 5 _ rfl
  i_checked_ends := ⟨(hd 5 _ rfl).kp, (hd 5 _ rfl).bindsN fun _ _ _ _ _ _ us hl => match us, hl with | [_, _], _ => rfl⟩
  D_checked_rows := hd 6 _ rfl
  i_checked_rows := ⟨(hd 6 _ rfl).kp, (hd 6 _ rfl).bindsN fun _ _ _ _ _ _ us hl => match us, hl with | [_], _ => rfl⟩
  D_check_signs := hd 7 _ rfl
  i_check_signs := ⟨(hd 7 _ rfl).kp, (hd 7 _ rfl).bindsN fun _ _ _ _ _ _ us hl => match us, hl with | [_, _, _], _ => rfl⟩
  D_Book__init_ := hd 8 _ rfl
  i_Book__init_ := ⟨(hd 8 _ rfl).kp, by
    obtain ⟨ds, v, b⟩ := (hd 8 _ rfl).binds1 (ps := ["self", "rows", "deeds", "ends", "states"]) 5 1 (by intro z; cases z) rfl fun _ _ _ _ _ _ _ us its h1 h2 => match us, its, h1, h2 with | [_, _, _, _, _], [_], _, _ => ⟨_, rfl, rfl⟩
    cases v
    exact b⟩
  D_Book__eq_ := hd 9 _ rfl
  i_Book__eq_ := ⟨(hd 9 _ rfl).kp, (hd 9 _ rfl).bindsN fun _ _ _ _ _ _ us hl => match us, hl with | [_, _], _ => rfl⟩
  D_Clash__init_ := hd 10 _ rfl
  i_Clash__init_ := ⟨(hd 10 _ rfl).kp, (hd 10 _ rfl).bindsN fun _ _ _ _ _ _ us hl => match us, hl with | [_, _, _], _ => rfl⟩
  D_Clash__eq_ := hd 11 _ rfl
  i_Clash__eq_ := ⟨(hd 11 _ rfl).kp, (hd 11 _ rfl).bindsN fun _ _ _ _ _ _ us hl => match us, hl with | [_, _], _ => rfl⟩
  D_Guess__init_ := hd 12 _ rfl
  i_Guess__init_ := ⟨(hd 12 _ rfl).kp, (hd 12 _ rfl).bindsN fun _ _ _ _ _ _ us hl => match us, hl with | [_, _, _, _, _, _, _, _], _ => rfl⟩
  D_Guess__eq_ := hd 13 _ rfl
  i_Guess__eq_ := ⟨(hd 13 _ rfl).kp, (hd 13 _ rfl).bindsN fun _ _ _ _ _ _ us hl => match us, hl with | [_, _], _ => rfl⟩
  D_Canon__init_ := hd 14 _ rfl
  i_Canon__init_ := ⟨(hd 14 _ rfl).kp, (hd 14 _ rfl).bindsN fun _ _ _ _ _ _ us hl => match us, hl with | [_, _, _, _], _ => rfl⟩
  D_Canon__eq_ := hd 15 _ rfl
  i_Canon__eq_ := ⟨(hd 15 _ rfl).kp, (hd 15 _ rfl).bindsN fun _ _ _ _ _ _ us hl => match us, hl with | [_, _], _ => rfl⟩
  D_Settled__init_ := hd 16 _ rfl
  i_Settled__init_ := ⟨(hd 16 _ rfl).kp, (hd 16 _ rfl).bindsN fun _ _ _ _ _ _ us hl => match us, hl with | [_, _, _, _, _], _ => rfl⟩
  D_Settled__eq_ := hd 17 _ rfl
  i_Settled__eq_ := ⟨(hd 17 _ rfl).kp, (hd 17 _ rfl).bindsN fun _ _ _ _ _ _ us hl => match us, hl with | [_, _], _ => rfl⟩
  D_Shape__init_ := hd 18 _ rfl
  i_Shape__init_ := ⟨(hd 18 _ rfl).kp, (hd 18 _ rfl).bindsN fun _ _ _ _ _ _ us hl => match us, hl with | [_, _, _, _, _], _ => rfl⟩
  D_Shape__eq_ := hd 19 _ rfl
  i_Shape__eq_ := ⟨(hd 19 _ rfl).kp, (hd 19 _ rfl).bindsN fun _ _ _ _ _ _ us hl => match us, hl with | [_, _], _ => rfl⟩
  D_Answer__init_ := hd 20 _ rfl
  i_Answer__init_ := ⟨(hd 20 _ rfl).kp, (hd 20 _ rfl).bindsN fun _ _ _ _ _ _ us hl => match us, hl with | [_, _], _ => rfl⟩
  D_Answer__eq_ := hd 21 _ rfl
  i_Answer__eq_ := ⟨(hd 21 _ rfl).kp, (hd 21 _ rfl).bindsN fun _ _ _ _ _ _ us hl => match us, hl with | [_, _], _ => rfl⟩
  D_Carries__init_ := hd 22 _ rfl
  i_Carries__init_ := ⟨(hd 22 _ rfl).kp, (hd 22 _ rfl).bindsN fun _ _ _ _ _ _ us hl => match us, hl with | [_, _], _ => rfl⟩
  D_Carries__eq_ := hd 23 _ rfl
  i_Carries__eq_ := ⟨(hd 23 _ rfl).kp, (hd 23 _ rfl).bindsN fun _ _ _ _ _ _ us hl => match us, hl with | [_, _], _ => rfl⟩
  D_Case__init_ := hd 24 _ rfl
  i_Case__init_ := ⟨(hd 24 _ rfl).kp, (hd 24 _ rfl).bindsN fun _ _ _ _ _ _ us hl => match us, hl with | [_, _, _, _], _ => rfl⟩
  D_Case__eq_ := hd 25 _ rfl
  i_Case__eq_ := ⟨(hd 25 _ rfl).kp, (hd 25 _ rfl).bindsN fun _ _ _ _ _ _ us hl => match us, hl with | [_, _], _ => rfl⟩
  D_Look__init_ := hd 26 _ rfl
  i_Look__init_ := ⟨(hd 26 _ rfl).kp, (hd 26 _ rfl).bindsN fun _ _ _ _ _ _ us hl => match us, hl with | [_, _, _], _ => rfl⟩
  D_Look__eq_ := hd 27 _ rfl
  i_Look__eq_ := ⟨(hd 27 _ rfl).kp, (hd 27 _ rfl).bindsN fun _ _ _ _ _ _ us hl => match us, hl with | [_, _], _ => rfl⟩
  D_Entry__init_ := hd 28 _ rfl
  i_Entry__init_ := ⟨(hd 28 _ rfl).kp, (hd 28 _ rfl).bindsN fun _ _ _ _ _ _ us hl => match us, hl with | [_, _, _, _], _ => rfl⟩
  D_Entry__eq_ := hd 29 _ rfl
  i_Entry__eq_ := ⟨(hd 29 _ rfl).kp, (hd 29 _ rfl).bindsN fun _ _ _ _ _ _ us hl => match us, hl with | [_, _], _ => rfl⟩
  D_Paper__init_ := hd 30 _ rfl
  i_Paper__init_ := ⟨(hd 30 _ rfl).kp, (hd 30 _ rfl).bindsN fun _ _ _ _ _ _ us hl => match us, hl with | [_, _, _], _ => rfl⟩
  D_Paper__eq_ := hd 31 _ rfl
  i_Paper__eq_ := ⟨(hd 31 _ rfl).kp, (hd 31 _ rfl).bindsN fun _ _ _ _ _ _ us hl => match us, hl with | [_, _], _ => rfl⟩
  D_Shut__init_ := hd 32 _ rfl
  i_Shut__init_ := ⟨(hd 32 _ rfl).kp, (hd 32 _ rfl).bindsN fun _ _ _ _ _ _ us hl => match us, hl with | [_, _], _ => rfl⟩
  D_Shut__eq_ := hd 33 _ rfl
  i_Shut__eq_ := ⟨(hd 33 _ rfl).kp, (hd 33 _ rfl).bindsN fun _ _ _ _ _ _ us hl => match us, hl with | [_, _], _ => rfl⟩
  D_is_outer_text := hd 34 _ rfl
  i_is_outer_text := ⟨(hd 34 _ rfl).kp, (hd 34 _ rfl).bindsN fun _ _ _ _ _ _ us hl => match us, hl with | [_], _ => rfl⟩
  D_is_earlier := hd 35 _ rfl
  i_is_earlier := ⟨(hd 35 _ rfl).kp, (hd 35 _ rfl).bindsN fun _ _ _ _ _ _ us hl => match us, hl with | [_, _], _ => rfl⟩
  D_checked_rule := hd 36 _ rfl
  i_checked_rule := ⟨(hd 36 _ rfl).kp, (hd 36 _ rfl).bindsN fun _ _ _ _ _ _ us hl => match us, hl with | [_, _], _ => rfl⟩
  D_checked_word := hd 37 _ rfl
  i_checked_word := ⟨(hd 37 _ rfl).kp, (hd 37 _ rfl).bindsN fun _ _ _ _ _ _ us hl => match us, hl with | [_, _], _ => rfl⟩
  D_rule_lengths := hd 38 _ rfl
  i_rule_lengths := ⟨(hd 38 _ rfl).kp, (hd 38 _ rfl).bindsN fun _ _ _ _ _ _ us hl => match us, hl with | [_], _ => rfl⟩
  D_Grammar__init_ := hd 39 _ rfl
  i_Grammar__init_ := ⟨(hd 39 _ rfl).kp, (hd 39 _ rfl).bindsN fun _ _ _ _ _ _ us hl => match us, hl with | [_, _], _ => rfl⟩
  D_Grammar__eq_ := hd 40 _ rfl
  i_Grammar__eq_ := ⟨(hd 40 _ rfl).kp, (hd 40 _ rfl).bindsN fun _ _ _ _ _ _ us hl => match us, hl with | [_, _], _ => rfl⟩
  D_Pressed__init_ := hd 41 _ rfl
  i_Pressed__init_ := ⟨(hd 41 _ rfl).kp, (hd 41 _ rfl).bindsN fun _ _ _ _ _ _ us hl => match us, hl with | [_, _, _], _ => rfl⟩
  D_Pressed__eq_ := hd 42 _ rfl
  i_Pressed__eq_ := ⟨(hd 42 _ rfl).kp, (hd 42 _ rfl).bindsN fun _ _ _ _ _ _ us hl => match us, hl with | [_, _], _ => rfl⟩
  D_is_filled_name := hd 43 _ rfl
  i_is_filled_name := ⟨(hd 43 _ rfl).kp, (hd 43 _ rfl).bindsN fun _ _ _ _ _ _ us hl => match us, hl with | [_], _ => rfl⟩
  D_checked_couple := hd 44 _ rfl
  i_checked_couple := ⟨(hd 44 _ rfl).kp, (hd 44 _ rfl).bindsN fun _ _ _ _ _ _ us hl => match us, hl with | [_, _, _], _ => rfl⟩
  D_Filling__init_ := hd 45 _ rfl
  i_Filling__init_ := ⟨(hd 45 _ rfl).kp, (hd 45 _ rfl).bindsN fun _ _ _ _ _ _ us hl => match us, hl with | [_, _, _], _ => rfl⟩
  D_Filling__eq_ := hd 46 _ rfl
  i_Filling__eq_ := ⟨(hd 46 _ rfl).kp, (hd 46 _ rfl).bindsN fun _ _ _ _ _ _ us hl => match us, hl with | [_, _], _ => rfl⟩
  D_filling_of := hd 47 _ rfl
  i_filling_of := ⟨(hd 47 _ rfl).kp, (hd 47 _ rfl).bindsN fun _ _ _ _ _ _ us hl => match us, hl with | [_], _ => rfl⟩
  D_Root__init_ := hd 48 _ rfl
  i_Root__init_ := ⟨(hd 48 _ rfl).kp, (hd 48 _ rfl).bindsN fun _ _ _ _ _ _ us hl => match us, hl with | [_, _, _, _, _, _], _ => rfl⟩
  D_Root__eq_ := hd 49 _ rfl
  i_Root__eq_ := ⟨(hd 49 _ rfl).kp, (hd 49 _ rfl).bindsN fun _ _ _ _ _ _ us hl => match us, hl with | [_, _], _ => rfl⟩
  D_Trail__init_ := hd 50 _ rfl
  i_Trail__init_ := ⟨(hd 50 _ rfl).kp, (hd 50 _ rfl).bindsN fun _ _ _ _ _ _ us hl => match us, hl with | [_, _, _], _ => rfl⟩
  D_Trail__eq_ := hd 51 _ rfl
  i_Trail__eq_ := ⟨(hd 51 _ rfl).kp, (hd 51 _ rfl).bindsN fun _ _ _ _ _ _ us hl => match us, hl with | [_, _], _ => rfl⟩
  D_Stages__init_ := hd 52 _ rfl
  i_Stages__init_ := ⟨(hd 52 _ rfl).kp, (hd 52 _ rfl).bindsN fun _ _ _ _ _ _ us hl => match us, hl with | [_, _, _], _ => rfl⟩
  D_Stages__eq_ := hd 53 _ rfl
  i_Stages__eq_ := ⟨(hd 53 _ rfl).kp, (hd 53 _ rfl).bindsN fun _ _ _ _ _ _ us hl => match us, hl with | [_, _], _ => rfl⟩
  D_Run__init_ := hd 54 _ rfl
  i_Run__init_ := ⟨(hd 54 _ rfl).kp, (hd 54 _ rfl).bindsN fun _ _ _ _ _ _ us hl => match us, hl with | [_, _, _, _, _], _ => rfl⟩
  D_Run__eq_ := hd 55 _ rfl
  i_Run__eq_ := ⟨(hd 55 _ rfl).kp, (hd 55 _ rfl).bindsN fun _ _ _ _ _ _ us hl => match us, hl with | [_, _], _ => rfl⟩
  D_Way__init_ := hd 56 _ rfl
  i_Way__init_ := ⟨(hd 56 _ rfl).kp, (hd 56 _ rfl).bindsN fun _ _ _ _ _ _ us hl => match us, hl with | [_, _, _, _, _, _], _ => rfl⟩
  D_Way__eq_ := hd 57 _ rfl
  i_Way__eq_ := ⟨(hd 57 _ rfl).kp, (hd 57 _ rfl).bindsN fun _ _ _ _ _ _ us hl => match us, hl with | [_, _], _ => rfl⟩
  D_Found__init_ := hd 58 _ rfl
  i_Found__init_ := ⟨(hd 58 _ rfl).kp, (hd 58 _ rfl).bindsN fun _ _ _ _ _ _ us hl => match us, hl with | [_, _, _], _ => rfl⟩
  D_Found__eq_ := hd 59 _ rfl
  i_Found__eq_ := ⟨(hd 59 _ rfl).kp, (hd 59 _ rfl).bindsN fun _ _ _ _ _ _ us hl => match us, hl with | [_, _], _ => rfl⟩
  D_Never__init_ := hd 60 _ rfl
  i_Never__init_ := ⟨(hd 60 _ rfl).kp, (hd 60 _ rfl).bindsN fun _ _ _ _ _ _ us hl => match us, hl with | [_, _], _ => rfl⟩
  D_Never__eq_ := hd 61 _ rfl
  i_Never__eq_ := ⟨(hd 61 _ rfl).kp, (hd 61 _ rfl).bindsN fun _ _ _ _ _ _ us hl => match us, hl with | [_, _], _ => rfl⟩
  D_Trial__init_ := hd 62 _ rfl
  i_Trial__init_ := ⟨(hd 62 _ rfl).kp, (hd 62 _ rfl).bindsN fun _ _ _ _ _ _ us hl => match us, hl with | [_, _, _], _ => rfl⟩
  D_Trial__eq_ := hd 63 _ rfl
  i_Trial__eq_ := ⟨(hd 63 _ rfl).kp, (hd 63 _ rfl).bindsN fun _ _ _ _ _ _ us hl => match us, hl with | [_, _], _ => rfl⟩
  D__law_source := hd 64 _ rfl
  i__law_source := ⟨(hd 64 _ rfl).kp, (hd 64 _ rfl).bindsN fun _ _ _ _ _ _ us hl => match us, hl with | [_], _ => rfl⟩
  D__law_take := hd 65 _ rfl
  i__law_take := ⟨(hd 65 _ rfl).kp, (hd 65 _ rfl).bindsN fun _ _ _ _ _ _ us hl => match us, hl with | [_, _], _ => rfl⟩
  D__law_book := hd 66 _ rfl
  i__law_book := ⟨(hd 66 _ rfl).kp, (hd 66 _ rfl).bindsN fun _ _ _ _ _ _ us hl => match us, hl with | [_], _ => rfl⟩
  D__law_part := hd 67 _ rfl
  i__law_part := ⟨(hd 67 _ rfl).kp, (hd 67 _ rfl).bindsN fun _ _ _ _ _ _ us hl => match us, hl with | [_, _], _ => rfl⟩
  D__law_made := hd 68 _ rfl
  i__law_made := ⟨(hd 68 _ rfl).kp, (hd 68 _ rfl).bindsN fun _ _ _ _ _ _ us hl => match us, hl with | [_, _], _ => rfl⟩
  D__law_made_later := hd 69 _ rfl
  i__law_made_later := ⟨(hd 69 _ rfl).kp, (hd 69 _ rfl).bindsN fun _ _ _ _ _ _ us hl => match us, hl with | [_, _], _ => rfl⟩
  D__law_told := hd 70 _ rfl
  i__law_told := ⟨(hd 70 _ rfl).kp, (hd 70 _ rfl).bindsN fun _ _ _ _ _ _ us hl => match us, hl with | [_, _], _ => rfl⟩
  D__law_told_later := hd 71 _ rfl
  i__law_told_later := ⟨(hd 71 _ rfl).kp, (hd 71 _ rfl).bindsN fun _ _ _ _ _ _ us hl => match us, hl with | [_, _], _ => rfl⟩
  D__law_result_right := hd 72 _ rfl
  i__law_result_right := ⟨(hd 72 _ rfl).kp, (hd 72 _ rfl).bindsN fun _ _ _ _ _ _ us hl => match us, hl with | [_, _, _, _], _ => rfl⟩
  D_law := hd 73 _ rfl
  i_law := ⟨(hd 73 _ rfl).kp, (hd 73 _ rfl).bindsN fun _ _ _ _ _ _ us hl => match us, hl with | [_], _ => rfl⟩
  j_Book__init__1 := ⟨(hd 8 _ rfl).kp, by
    obtain ⟨ds, v, b⟩ := (hd 8 _ rfl).binds1 (ps := ["self", "rows", "deeds", "ends", "states"]) 4 0 (by intro z; cases z) rfl fun _ _ _ _ _ _ _ us its h1 h2 => match us, its, h1, h2 with | [_, _, _, _], [_], _, _ => ⟨_, rfl, rfl⟩
    exact ⟨_, ds, (Dfl.int Dfl.nil), v, b⟩⟩
  g_Answer := He.glo_ok X G (c.d.fact 0 rfl)
  g_BadBook := He.glo_ok X G (c.d.fact 1 rfl)
  g_BadFilling := He.glo_ok X G (c.d.fact 2 rfl)
  g_BadGrammar := He.glo_ok X G (c.d.fact 3 rfl)
  g_Book := He.glo_ok X G (c.d.fact 4 rfl)
  g_Canon := He.glo_ok X G (c.d.fact 5 rfl)
  g_Carries := He.glo_ok X G (c.d.fact 6 rfl)
  g_Case := He.glo_ok X G (c.d.fact 7 rfl)
  g_Clash := He.glo_ok X G (c.d.fact 8 rfl)
  g_Entry := He.glo_ok X G (c.d.fact 9 rfl)
  g_Filling := He.glo_ok X G (c.d.fact 10 rfl)
  g_Found := He.glo_ok X G (c.d.fact 11 rfl)
  g_Grammar := He.glo_ok X G (c.d.fact 12 rfl)
  g_Guess := He.glo_ok X G (c.d.fact 13 rfl)
  g_Look := He.glo_ok X G (c.d.fact 14 rfl)
  g_Never := He.glo_ok X G (c.d.fact 15 rfl)
  g_NoSymbol := He.glo_ok X G (c.d.fact 16 rfl)
  g_Paper := He.glo_ok X G (c.d.fact 17 rfl)
  g_PressError := He.glo_ok X G (c.d.fact 18 rfl)
  g_Pressed := He.glo_ok X G (c.d.fact 19 rfl)
  g_Root := He.glo_ok X G (c.d.fact 20 rfl)
  g_Run := He.glo_ok X G (c.d.fact 21 rfl)
  g_Settled := He.glo_ok X G (c.d.fact 22 rfl)
  g_Shape := He.glo_ok X G (c.d.fact 23 rfl)
  g_Shut := He.glo_ok X G (c.d.fact 24 rfl)
  g_Stages := He.glo_ok X G (c.d.fact 25 rfl)
  g_TooLong := He.glo_ok X G (c.d.fact 26 rfl)
  g_Trail := He.glo_ok X G (c.d.fact 27 rfl)
  g_Trial := He.glo_ok X G (c.d.fact 28 rfl)
  g_Way := He.glo_ok X G (c.d.fact 29 rfl)
  g__law_book := He.glo_ok X G (c.d.fact 30 rfl)
  g__law_made := He.glo_ok X G (c.d.fact 31 rfl)
  g__law_made_later := He.glo_ok X G (c.d.fact 32 rfl)
  g__law_part := He.glo_ok X G (c.d.fact 33 rfl)
  g__law_result_right := He.glo_ok X G (c.d.fact 34 rfl)
  g__law_source := He.glo_ok X G (c.d.fact 35 rfl)
  g__law_take := He.glo_ok X G (c.d.fact 36 rfl)
  g__law_told := He.glo_ok X G (c.d.fact 37 rfl)
  g__law_told_later := He.glo_ok X G (c.d.fact 38 rfl)
  g_are_goals := He.glo_ok X G (c.d.fact 39 rfl)
  g_check_signs := He.glo_ok X G (c.d.fact 40 rfl)
  g_checked_couple := He.glo_ok X G (c.d.fact 41 rfl)
  g_checked_deeds := He.glo_ok X G (c.d.fact 42 rfl)
  g_checked_ends := He.glo_ok X G (c.d.fact 43 rfl)
  g_checked_rows := He.glo_ok X G (c.d.fact 44 rfl)
  g_checked_rule := He.glo_ok X G (c.d.fact 45 rfl)
  g_checked_word := He.glo_ok X G (c.d.fact 46 rfl)
  g_filling_of := He.glo_ok X G (c.d.fact 47 rfl)
  g_is_earlier := He.glo_ok X G (c.d.fact 48 rfl)
  g_is_filled_name := He.glo_ok X G (c.d.fact 49 rfl)
  g_is_outer_text := He.glo_ok X G (c.d.fact 50 rfl)
  g_is_sequence := He.glo_ok X G (c.d.fact 51 rfl)
  g_is_state := He.glo_ok X G (c.d.fact 52 rfl)
  g_is_whole := He.glo_ok X G (c.d.fact 53 rfl)
  g_law := He.glo_ok X G (c.d.fact 54 rfl)
  g_rule_lengths := He.glo_ok X G (c.d.fact 55 rfl)
  f_all := He.free_ok X G (c.d.fact 56 rfl)
  f_bool := He.free_ok X G (c.d.fact 57 rfl)
  f_enumerate := He.free_ok X G (c.d.fact 58 rfl)
  f_int := He.free_ok X G (c.d.fact 59 rfl)
  f_isinstance := He.free_ok X G (c.d.fact 60 rfl)
  f_len := He.free_ok X G (c.d.fact 61 rfl)
  f_list := He.free_ok X G (c.d.fact 62 rfl)
  f_range := He.free_ok X G (c.d.fact 63 rfl)
  f_str := He.free_ok X G (c.d.fact 64 rfl)
  f_tuple := He.free_ok X G (c.d.fact 65 rfl)
  c_Answer := He.cls_ok (c.d.fact 66 rfl)
  c_Book := He.cls_ok (c.d.fact 67 rfl)
  c_Canon := He.cls_ok (c.d.fact 68 rfl)
  c_Carries := He.cls_ok (c.d.fact 69 rfl)
  c_Case := He.cls_ok (c.d.fact 70 rfl)
  c_Clash := He.cls_ok (c.d.fact 71 rfl)
  c_Entry := He.cls_ok (c.d.fact 72 rfl)
  c_Filling := He.cls_ok (c.d.fact 73 rfl)
  c_Found := He.cls_ok (c.d.fact 74 rfl)
  c_Grammar := He.cls_ok (c.d.fact 75 rfl)
  c_Guess := He.cls_ok (c.d.fact 76 rfl)
  c_Look := He.cls_ok (c.d.fact 77 rfl)
  c_Never := He.cls_ok (c.d.fact 78 rfl)
  c_Paper := He.cls_ok (c.d.fact 79 rfl)
  c_Pressed := He.cls_ok (c.d.fact 80 rfl)
  c_Root := He.cls_ok (c.d.fact 81 rfl)
  c_Run := He.cls_ok (c.d.fact 82 rfl)
  c_Settled := He.cls_ok (c.d.fact 83 rfl)
  c_Shape := He.cls_ok (c.d.fact 84 rfl)
  c_Shut := He.cls_ok (c.d.fact 85 rfl)
  c_Stages := He.cls_ok (c.d.fact 86 rfl)
  c_Trail := He.cls_ok (c.d.fact 87 rfl)
  c_Trial := He.cls_ok (c.d.fact 88 rfl)
  c_Way := He.cls_ok (c.d.fact 89 rfl)
  n_Answer_numbers := He.noat_ok (c.d.fact 90 rfl)
  n_Book_deeds := He.noat_ok (c.d.fact 91 rfl)
  n_Book_ends := He.noat_ok (c.d.fact 92 rfl)
  n_Book_rows := He.noat_ok (c.d.fact 93 rfl)
  n_Book_states := He.noat_ok (c.d.fact 94 rfl)
  n_Canon_book := He.noat_ok (c.d.fact 95 rfl)
  n_Canon_letters := He.noat_ok (c.d.fact 96 rfl)
  n_Canon_unknowns := He.noat_ok (c.d.fact 97 rfl)
  n_Carries_rows := He.noat_ok (c.d.fact 98 rfl)
  n_Case_full := He.noat_ok (c.d.fact 99 rfl)
  n_Case_rows := He.noat_ok (c.d.fact 100 rfl)
  n_Case_sets := He.noat_ok (c.d.fact 101 rfl)
  n_Clash_at := He.noat_ok (c.d.fact 102 rfl)
  n_Clash_why := He.noat_ok (c.d.fact 103 rfl)
  n_Entry_book := He.noat_ok (c.d.fact 104 rfl)
  n_Entry_lots := He.noat_ok (c.d.fact 105 rfl)
  n_Entry_step := He.noat_ok (c.d.fact 106 rfl)
  n_Filling_grammar := He.noat_ok (c.d.fact 107 rfl)
  n_Filling_words := He.noat_ok (c.d.fact 108 rfl)
  n_Found_filling := He.noat_ok (c.d.fact 109 rfl)
  n_Found_turns := He.noat_ok (c.d.fact 110 rfl)
  n_Grammar_lengths := He.noat_ok (c.d.fact 111 rfl)
  n_Grammar_rules := He.noat_ok (c.d.fact 112 rfl)
  n_Guess_equations := He.noat_ok (c.d.fact 113 rfl)
  n_Guess_letters := He.noat_ok (c.d.fact 114 rfl)
  n_Guess_news := He.noat_ok (c.d.fact 115 rfl)
  n_Guess_parts := He.noat_ok (c.d.fact 116 rfl)
  n_Guess_spares := He.noat_ok (c.d.fact 117 rfl)
  n_Guess_told := He.noat_ok (c.d.fact 118 rfl)
  n_Guess_unknowns := He.noat_ok (c.d.fact 119 rfl)
  n_Look_outcomes := He.noat_ok (c.d.fact 120 rfl)
  n_Look_step := He.noat_ok (c.d.fact 121 rfl)
  n_Never_papers := He.noat_ok (c.d.fact 122 rfl)
  n_Paper_deeds := He.noat_ok (c.d.fact 123 rfl)
  n_Paper_entries := He.noat_ok (c.d.fact 124 rfl)
  n_Pressed_ends := He.noat_ok (c.d.fact 125 rfl)
  n_Pressed_table := He.noat_ok (c.d.fact 126 rfl)
  n_Root_empties := He.noat_ok (c.d.fact 127 rfl)
  n_Root_letters := He.noat_ok (c.d.fact 128 rfl)
  n_Root_spares := He.noat_ok (c.d.fact 129 rfl)
  n_Root_told := He.noat_ok (c.d.fact 130 rfl)
  n_Root_unknowns := He.noat_ok (c.d.fact 131 rfl)
  n_Run_ends := He.noat_ok (c.d.fact 132 rfl)
  n_Run_stop := He.noat_ok (c.d.fact 133 rfl)
  n_Run_turns := He.noat_ok (c.d.fact 134 rfl)
  n_Run_used := He.noat_ok (c.d.fact 135 rfl)
  n_Settled_letters := He.noat_ok (c.d.fact 136 rfl)
  n_Settled_spares := He.noat_ok (c.d.fact 137 rfl)
  n_Settled_told := He.noat_ok (c.d.fact 138 rfl)
  n_Settled_unknowns := He.noat_ok (c.d.fact 139 rfl)
  n_Shape_back := He.noat_ok (c.d.fact 140 rfl)
  n_Shape_ends := He.noat_ok (c.d.fact 141 rfl)
  n_Shape_front := He.noat_ok (c.d.fact 142 rfl)
  n_Shape_stays := He.noat_ok (c.d.fact 143 rfl)
  n_Shut_paper := He.noat_ok (c.d.fact 144 rfl)
  n_Stages_grammar := He.noat_ok (c.d.fact 145 rfl)
  n_Stages_stages := He.noat_ok (c.d.fact 146 rfl)
  n_Trail_root := He.noat_ok (c.d.fact 147 rfl)
  n_Trail_turns := He.noat_ok (c.d.fact 148 rfl)
  n_Trial_refused := He.noat_ok (c.d.fact 149 rfl)
  n_Trial_tolds := He.noat_ok (c.d.fact 150 rfl)
  n_Way_ends := He.noat_ok (c.d.fact 151 rfl)
  n_Way_reads := He.noat_ok (c.d.fact 152 rfl)
  n_Way_sayings := He.noat_ok (c.d.fact 153 rfl)
  n_Way_stop := He.noat_ok (c.d.fact 154 rfl)
  n_Way_turns := He.noat_ok (c.d.fact 155 rfl)
  m_Answer := He.mkr_ok (c.d.fact 156 rfl)
  m_Book := He.mkr_ok (c.d.fact 157 rfl)
  m_Canon := He.mkr_ok (c.d.fact 158 rfl)
  m_Carries := He.mkr_ok (c.d.fact 159 rfl)
  m_Case := He.mkr_ok (c.d.fact 160 rfl)
  m_Clash := He.mkr_ok (c.d.fact 161 rfl)
  m_Entry := He.mkr_ok (c.d.fact 162 rfl)
  m_Filling := He.mkr_ok (c.d.fact 163 rfl)
  m_Found := He.mkr_ok (c.d.fact 164 rfl)
  m_Grammar := He.mkr_ok (c.d.fact 165 rfl)
  m_Guess := He.mkr_ok (c.d.fact 166 rfl)
  m_Look := He.mkr_ok (c.d.fact 167 rfl)
  m_Never := He.mkr_ok (c.d.fact 168 rfl)
  m_Paper := He.mkr_ok (c.d.fact 169 rfl)
  m_Pressed := He.mkr_ok (c.d.fact 170 rfl)
  m_Root := He.mkr_ok (c.d.fact 171 rfl)
  m_Run := He.mkr_ok (c.d.fact 172 rfl)
  m_Settled := He.mkr_ok (c.d.fact 173 rfl)
  m_Shape := He.mkr_ok (c.d.fact 174 rfl)
  m_Shut := He.mkr_ok (c.d.fact 175 rfl)
  m_Stages := He.mkr_ok (c.d.fact 176 rfl)
  m_Trail := He.mkr_ok (c.d.fact 177 rfl)
  m_Trial := He.mkr_ok (c.d.fact 178 rfl)
  m_Way := He.mkr_ok (c.d.fact 179 rfl)
  e_Book := He.meth_ok (c.d.fact 180 rfl)
  e_Clash := He.meth_ok (c.d.fact 181 rfl)
  e_Guess := He.meth_ok (c.d.fact 182 rfl)
  e_Canon := He.meth_ok (c.d.fact 183 rfl)
  e_Settled := He.meth_ok (c.d.fact 184 rfl)
  e_Shape := He.meth_ok (c.d.fact 185 rfl)
  e_Answer := He.meth_ok (c.d.fact 186 rfl)
  e_Carries := He.meth_ok (c.d.fact 187 rfl)
  e_Case := He.meth_ok (c.d.fact 188 rfl)
  e_Look := He.meth_ok (c.d.fact 189 rfl)
  e_Entry := He.meth_ok (c.d.fact 190 rfl)
  e_Paper := He.meth_ok (c.d.fact 191 rfl)
  e_Shut := He.meth_ok (c.d.fact 192 rfl)
  e_Grammar := He.meth_ok (c.d.fact 193 rfl)
  e_Pressed := He.meth_ok (c.d.fact 194 rfl)
  e_Filling := He.meth_ok (c.d.fact 195 rfl)
  e_Root := He.meth_ok (c.d.fact 196 rfl)
  e_Trail := He.meth_ok (c.d.fact 197 rfl)
  e_Stages := He.meth_ok (c.d.fact 198 rfl)
  e_Run := He.meth_ok (c.d.fact 199 rfl)
  e_Way := He.meth_ok (c.d.fact 200 rfl)
  e_Found := He.meth_ok (c.d.fact 201 rfl)
  e_Never := He.meth_ok (c.d.fact 202 rfl)
  e_Trial := He.meth_ok (c.d.fact 203 rfl)
  k_FIGURES := He.str_ok X G (c.d.fact 204 rfl)
  k_MOST_SIGNS := He.int_ok X G (c.d.fact 205 rfl)
  k_MOST_TIMES := He.int_ok X G (c.d.fact 206 rfl)
  k_OUTER := He.str_ok X G (c.d.fact 207 rfl)
  k_SMALL := He.str_ok X G (c.d.fact 208 rfl)
  w_isi := List.all_eq_true.mp c.x _ (List.mem_of_getElem? (i := 0) rfl)
  w_kit := List.all_eq_true.mp c.x _ (List.mem_of_getElem? (i := 1) rfl)
  w_nf := List.all_eq_true.mp c.x _ (List.mem_of_getElem? (i := 2) rfl)
theorem hok_deeds (fx : Fx K mg fd) (C : Nat) (h : ok_deeds C = true) : Cls K ((ct K).ca C) ∧ NoAttr K ((ct K).ca C) "deeds" := by
  simp only [ok_deeds, Bool.or_eq_true, beq_iff_eq] at h
  rcases h with rfl | rfl
  · exact ⟨fx.c_Book, fx.n_Book_deeds⟩
  · exact ⟨fx.c_Paper, fx.n_Paper_deeds⟩
theorem hok_ends (fx : Fx K mg fd) (C : Nat) (h : ok_ends C = true) : Cls K ((ct K).ca C) ∧ NoAttr K ((ct K).ca C) "ends" := by
  simp only [ok_ends, Bool.or_eq_true, beq_iff_eq] at h
  rcases h with (((rfl | rfl) | rfl) | rfl) | rfl
  · exact ⟨fx.c_Book, fx.n_Book_ends⟩
  · exact ⟨fx.c_Shape, fx.n_Shape_ends⟩
  · exact ⟨fx.c_Pressed, fx.n_Pressed_ends⟩
  · exact ⟨fx.c_Run, fx.n_Run_ends⟩
  · exact ⟨fx.c_Way, fx.n_Way_ends⟩
theorem hok_rows (fx : Fx K mg fd) (C : Nat) (h : ok_rows C = true) : Cls K ((ct K).ca C) ∧ NoAttr K ((ct K).ca C) "rows" := by
  simp only [ok_rows, Bool.or_eq_true, beq_iff_eq] at h
  rcases h with (rfl | rfl) | rfl
  · exact ⟨fx.c_Book, fx.n_Book_rows⟩
  · exact ⟨fx.c_Carries, fx.n_Carries_rows⟩
  · exact ⟨fx.c_Case, fx.n_Case_rows⟩
theorem hok_states (fx : Fx K mg fd) (C : Nat) (h : ok_states C = true) : Cls K ((ct K).ca C) ∧ NoAttr K ((ct K).ca C) "states" := by
  simp only [ok_states, Bool.or_eq_true, beq_iff_eq] at h
  subst h; exact ⟨fx.c_Book, fx.n_Book_states⟩
theorem hok_why (fx : Fx K mg fd) (C : Nat) (h : ok_why C = true) : Cls K ((ct K).ca C) ∧ NoAttr K ((ct K).ca C) "why" := by
  simp only [ok_why, Bool.or_eq_true, beq_iff_eq] at h
  subst h; exact ⟨fx.c_Clash, fx.n_Clash_why⟩
theorem hok_at (fx : Fx K mg fd) (C : Nat) (h : ok_at C = true) : Cls K ((ct K).ca C) ∧ NoAttr K ((ct K).ca C) "at" := by
  simp only [ok_at, Bool.or_eq_true, beq_iff_eq] at h
  subst h; exact ⟨fx.c_Clash, fx.n_Clash_at⟩
theorem hok_parts (fx : Fx K mg fd) (C : Nat) (h : ok_parts C = true) : Cls K ((ct K).ca C) ∧ NoAttr K ((ct K).ca C) "parts" := by
  simp only [ok_parts, Bool.or_eq_true, beq_iff_eq] at h
  subst h; exact ⟨fx.c_Guess, fx.n_Guess_parts⟩
theorem hok_news (fx : Fx K mg fd) (C : Nat) (h : ok_news C = true) : Cls K ((ct K).ca C) ∧ NoAttr K ((ct K).ca C) "news" := by
  simp only [ok_news, Bool.or_eq_true, beq_iff_eq] at h
  subst h; exact ⟨fx.c_Guess, fx.n_Guess_news⟩
theorem hok_told (fx : Fx K mg fd) (C : Nat) (h : ok_told C = true) : Cls K ((ct K).ca C) ∧ NoAttr K ((ct K).ca C) "told" := by
  simp only [ok_told, Bool.or_eq_true, beq_iff_eq] at h
  rcases h with (rfl | rfl) | rfl
  · exact ⟨fx.c_Guess, fx.n_Guess_told⟩
  · exact ⟨fx.c_Settled, fx.n_Settled_told⟩
  · exact ⟨fx.c_Root, fx.n_Root_told⟩
theorem hok_letters (fx : Fx K mg fd) (C : Nat) (h : ok_letters C = true) : Cls K ((ct K).ca C) ∧ NoAttr K ((ct K).ca C) "letters" := by
  simp only [ok_letters, Bool.or_eq_true, beq_iff_eq] at h
  rcases h with ((rfl | rfl) | rfl) | rfl
  · exact ⟨fx.c_Guess, fx.n_Guess_letters⟩
  · exact ⟨fx.c_Canon, fx.n_Canon_letters⟩
  · exact ⟨fx.c_Settled, fx.n_Settled_letters⟩
  · exact ⟨fx.c_Root, fx.n_Root_letters⟩
theorem hok_unknowns (fx : Fx K mg fd) (C : Nat) (h : ok_unknowns C = true) : Cls K ((ct K).ca C) ∧ NoAttr K ((ct K).ca C) "unknowns" := by
  simp only [ok_unknowns, Bool.or_eq_true, beq_iff_eq] at h
  rcases h with ((rfl | rfl) | rfl) | rfl
  · exact ⟨fx.c_Guess, fx.n_Guess_unknowns⟩
  · exact ⟨fx.c_Canon, fx.n_Canon_unknowns⟩
  · exact ⟨fx.c_Settled, fx.n_Settled_unknowns⟩
  · exact ⟨fx.c_Root, fx.n_Root_unknowns⟩
theorem hok_spares (fx : Fx K mg fd) (C : Nat) (h : ok_spares C = true) : Cls K ((ct K).ca C) ∧ NoAttr K ((ct K).ca C) "spares" := by
  simp only [ok_spares, Bool.or_eq_true, beq_iff_eq] at h
  rcases h with (rfl | rfl) | rfl
  · exact ⟨fx.c_Guess, fx.n_Guess_spares⟩
  · exact ⟨fx.c_Settled, fx.n_Settled_spares⟩
  · exact ⟨fx.c_Root, fx.n_Root_spares⟩
theorem hok_equations (fx : Fx K mg fd) (C : Nat) (h : ok_equations C = true) : Cls K ((ct K).ca C) ∧ NoAttr K ((ct K).ca C) "equations" := by
  simp only [ok_equations, Bool.or_eq_true, beq_iff_eq] at h
  subst h; exact ⟨fx.c_Guess, fx.n_Guess_equations⟩
theorem hok_book (fx : Fx K mg fd) (C : Nat) (h : ok_book C = true) : Cls K ((ct K).ca C) ∧ NoAttr K ((ct K).ca C) "book" := by
  simp only [ok_book, Bool.or_eq_true, beq_iff_eq] at h
  rcases h with rfl | rfl
  · exact ⟨fx.c_Canon, fx.n_Canon_book⟩
  · exact ⟨fx.c_Entry, fx.n_Entry_book⟩
theorem hok_front (fx : Fx K mg fd) (C : Nat) (h : ok_front C = true) : Cls K ((ct K).ca C) ∧ NoAttr K ((ct K).ca C) "front" := by
  simp only [ok_front, Bool.or_eq_true, beq_iff_eq] at h
  subst h; exact ⟨fx.c_Shape, fx.n_Shape_front⟩
theorem hok_stays (fx : Fx K mg fd) (C : Nat) (h : ok_stays C = true) : Cls K ((ct K).ca C) ∧ NoAttr K ((ct K).ca C) "stays" := by
  simp only [ok_stays, Bool.or_eq_true, beq_iff_eq] at h
  subst h; exact ⟨fx.c_Shape, fx.n_Shape_stays⟩
theorem hok_back (fx : Fx K mg fd) (C : Nat) (h : ok_back C = true) : Cls K ((ct K).ca C) ∧ NoAttr K ((ct K).ca C) "back" := by
  simp only [ok_back, Bool.or_eq_true, beq_iff_eq] at h
  subst h; exact ⟨fx.c_Shape, fx.n_Shape_back⟩
theorem hok_numbers (fx : Fx K mg fd) (C : Nat) (h : ok_numbers C = true) : Cls K ((ct K).ca C) ∧ NoAttr K ((ct K).ca C) "numbers" := by
  simp only [ok_numbers, Bool.or_eq_true, beq_iff_eq] at h
  subst h; exact ⟨fx.c_Answer, fx.n_Answer_numbers⟩
theorem hok_sets (fx : Fx K mg fd) (C : Nat) (h : ok_sets C = true) : Cls K ((ct K).ca C) ∧ NoAttr K ((ct K).ca C) "sets" := by
  simp only [ok_sets, Bool.or_eq_true, beq_iff_eq] at h
  subst h; exact ⟨fx.c_Case, fx.n_Case_sets⟩
theorem hok_full (fx : Fx K mg fd) (C : Nat) (h : ok_full C = true) : Cls K ((ct K).ca C) ∧ NoAttr K ((ct K).ca C) "full" := by
  simp only [ok_full, Bool.or_eq_true, beq_iff_eq] at h
  subst h; exact ⟨fx.c_Case, fx.n_Case_full⟩
theorem hok_step (fx : Fx K mg fd) (C : Nat) (h : ok_step C = true) : Cls K ((ct K).ca C) ∧ NoAttr K ((ct K).ca C) "step" := by
  simp only [ok_step, Bool.or_eq_true, beq_iff_eq] at h
  rcases h with rfl | rfl
  · exact ⟨fx.c_Look, fx.n_Look_step⟩
  · exact ⟨fx.c_Entry, fx.n_Entry_step⟩
theorem hok_outcomes (fx : Fx K mg fd) (C : Nat) (h : ok_outcomes C = true) : Cls K ((ct K).ca C) ∧ NoAttr K ((ct K).ca C) "outcomes" := by
  simp only [ok_outcomes, Bool.or_eq_true, beq_iff_eq] at h
  subst h; exact ⟨fx.c_Look, fx.n_Look_outcomes⟩
theorem hok_lots (fx : Fx K mg fd) (C : Nat) (h : ok_lots C = true) : Cls K ((ct K).ca C) ∧ NoAttr K ((ct K).ca C) "lots" := by
  simp only [ok_lots, Bool.or_eq_true, beq_iff_eq] at h
  subst h; exact ⟨fx.c_Entry, fx.n_Entry_lots⟩
theorem hok_entries (fx : Fx K mg fd) (C : Nat) (h : ok_entries C = true) : Cls K ((ct K).ca C) ∧ NoAttr K ((ct K).ca C) "entries" := by
  simp only [ok_entries, Bool.or_eq_true, beq_iff_eq] at h
  subst h; exact ⟨fx.c_Paper, fx.n_Paper_entries⟩
theorem hok_paper (fx : Fx K mg fd) (C : Nat) (h : ok_paper C = true) : Cls K ((ct K).ca C) ∧ NoAttr K ((ct K).ca C) "paper" := by
  simp only [ok_paper, Bool.or_eq_true, beq_iff_eq] at h
  subst h; exact ⟨fx.c_Shut, fx.n_Shut_paper⟩
theorem hok_rules (fx : Fx K mg fd) (C : Nat) (h : ok_rules C = true) : Cls K ((ct K).ca C) ∧ NoAttr K ((ct K).ca C) "rules" := by
  simp only [ok_rules, Bool.or_eq_true, beq_iff_eq] at h
  subst h; exact ⟨fx.c_Grammar, fx.n_Grammar_rules⟩
theorem hok_lengths (fx : Fx K mg fd) (C : Nat) (h : ok_lengths C = true) : Cls K ((ct K).ca C) ∧ NoAttr K ((ct K).ca C) "lengths" := by
  simp only [ok_lengths, Bool.or_eq_true, beq_iff_eq] at h
  subst h; exact ⟨fx.c_Grammar, fx.n_Grammar_lengths⟩
theorem hok_table (fx : Fx K mg fd) (C : Nat) (h : ok_table C = true) : Cls K ((ct K).ca C) ∧ NoAttr K ((ct K).ca C) "table" := by
  simp only [ok_table, Bool.or_eq_true, beq_iff_eq] at h
  subst h; exact ⟨fx.c_Pressed, fx.n_Pressed_table⟩
theorem hok_grammar (fx : Fx K mg fd) (C : Nat) (h : ok_grammar C = true) : Cls K ((ct K).ca C) ∧ NoAttr K ((ct K).ca C) "grammar" := by
  simp only [ok_grammar, Bool.or_eq_true, beq_iff_eq] at h
  rcases h with rfl | rfl
  · exact ⟨fx.c_Filling, fx.n_Filling_grammar⟩
  · exact ⟨fx.c_Stages, fx.n_Stages_grammar⟩
theorem hok_words (fx : Fx K mg fd) (C : Nat) (h : ok_words C = true) : Cls K ((ct K).ca C) ∧ NoAttr K ((ct K).ca C) "words" := by
  simp only [ok_words, Bool.or_eq_true, beq_iff_eq] at h
  subst h; exact ⟨fx.c_Filling, fx.n_Filling_words⟩
theorem hok_empties (fx : Fx K mg fd) (C : Nat) (h : ok_empties C = true) : Cls K ((ct K).ca C) ∧ NoAttr K ((ct K).ca C) "empties" := by
  simp only [ok_empties, Bool.or_eq_true, beq_iff_eq] at h
  subst h; exact ⟨fx.c_Root, fx.n_Root_empties⟩
theorem hok_root (fx : Fx K mg fd) (C : Nat) (h : ok_root C = true) : Cls K ((ct K).ca C) ∧ NoAttr K ((ct K).ca C) "root" := by
  simp only [ok_root, Bool.or_eq_true, beq_iff_eq] at h
  subst h; exact ⟨fx.c_Trail, fx.n_Trail_root⟩
theorem hok_turns (fx : Fx K mg fd) (C : Nat) (h : ok_turns C = true) : Cls K ((ct K).ca C) ∧ NoAttr K ((ct K).ca C) "turns" := by
  simp only [ok_turns, Bool.or_eq_true, beq_iff_eq] at h
  rcases h with ((rfl | rfl) | rfl) | rfl
  · exact ⟨fx.c_Trail, fx.n_Trail_turns⟩
  · exact ⟨fx.c_Run, fx.n_Run_turns⟩
  · exact ⟨fx.c_Way, fx.n_Way_turns⟩
  · exact ⟨fx.c_Found, fx.n_Found_turns⟩
theorem hok_stages (fx : Fx K mg fd) (C : Nat) (h : ok_stages C = true) : Cls K ((ct K).ca C) ∧ NoAttr K ((ct K).ca C) "stages" := by
  simp only [ok_stages, Bool.or_eq_true, beq_iff_eq] at h
  subst h; exact ⟨fx.c_Stages, fx.n_Stages_stages⟩
theorem hok_used (fx : Fx K mg fd) (C : Nat) (h : ok_used C = true) : Cls K ((ct K).ca C) ∧ NoAttr K ((ct K).ca C) "used" := by
  simp only [ok_used, Bool.or_eq_true, beq_iff_eq] at h
  subst h; exact ⟨fx.c_Run, fx.n_Run_used⟩
theorem hok_stop (fx : Fx K mg fd) (C : Nat) (h : ok_stop C = true) : Cls K ((ct K).ca C) ∧ NoAttr K ((ct K).ca C) "stop" := by
  simp only [ok_stop, Bool.or_eq_true, beq_iff_eq] at h
  rcases h with rfl | rfl
  · exact ⟨fx.c_Run, fx.n_Run_stop⟩
  · exact ⟨fx.c_Way, fx.n_Way_stop⟩
theorem hok_reads (fx : Fx K mg fd) (C : Nat) (h : ok_reads C = true) : Cls K ((ct K).ca C) ∧ NoAttr K ((ct K).ca C) "reads" := by
  simp only [ok_reads, Bool.or_eq_true, beq_iff_eq] at h
  subst h; exact ⟨fx.c_Way, fx.n_Way_reads⟩
theorem hok_sayings (fx : Fx K mg fd) (C : Nat) (h : ok_sayings C = true) : Cls K ((ct K).ca C) ∧ NoAttr K ((ct K).ca C) "sayings" := by
  simp only [ok_sayings, Bool.or_eq_true, beq_iff_eq] at h
  subst h; exact ⟨fx.c_Way, fx.n_Way_sayings⟩
theorem hok_filling (fx : Fx K mg fd) (C : Nat) (h : ok_filling C = true) : Cls K ((ct K).ca C) ∧ NoAttr K ((ct K).ca C) "filling" := by
  simp only [ok_filling, Bool.or_eq_true, beq_iff_eq] at h
  subst h; exact ⟨fx.c_Found, fx.n_Found_filling⟩
theorem hok_papers (fx : Fx K mg fd) (C : Nat) (h : ok_papers C = true) : Cls K ((ct K).ca C) ∧ NoAttr K ((ct K).ca C) "papers" := by
  simp only [ok_papers, Bool.or_eq_true, beq_iff_eq] at h
  subst h; exact ⟨fx.c_Never, fx.n_Never_papers⟩
theorem hok_tolds (fx : Fx K mg fd) (C : Nat) (h : ok_tolds C = true) : Cls K ((ct K).ca C) ∧ NoAttr K ((ct K).ca C) "tolds" := by
  simp only [ok_tolds, Bool.or_eq_true, beq_iff_eq] at h
  subst h; exact ⟨fx.c_Trial, fx.n_Trial_tolds⟩
theorem hok_refused (fx : Fx K mg fd) (C : Nat) (h : ok_refused C = true) : Cls K ((ct K).ca C) ∧ NoAttr K ((ct K).ca C) "refused" := by
  simp only [ok_refused, Bool.or_eq_true, beq_iff_eq] at h
  subst h; exact ⟨fx.c_Trial, fx.n_Trial_refused⟩
theorem isiOk (fx : Fx K mg fd) {C : Nat} (h : C ∈ isCs) : IsiOk K (ct K) (.ref ((ct K).ca C)) (isiT isOk isBt C) := by
  refine isiT_ok (cn := cn) (cs := isCs) (fun _ => rfl) (fun E hE => ?_) fx.w_isi fx.w_kit h
  simp only [isOk, List.mem_cons, List.not_mem_nil, or_false] at hE
  rcases hE with rfl | rfl | rfl | rfl | rfl | rfl | rfl | rfl | rfl | rfl | rfl | rfl | rfl | rfl | rfl | rfl | rfl | rfl | rfl | rfl | rfl | rfl | rfl | rfl
  · exact fx.c_Book
  · exact fx.c_Clash
  · exact fx.c_Guess
  · exact fx.c_Canon
  · exact fx.c_Settled
  · exact fx.c_Shape
  · exact fx.c_Answer
  · exact fx.c_Carries
  · exact fx.c_Case
  · exact fx.c_Look
  · exact fx.c_Entry
  · exact fx.c_Paper
  · exact fx.c_Shut
  · exact fx.c_Grammar
  · exact fx.c_Pressed
  · exact fx.c_Filling
  · exact fx.c_Root
  · exact fx.c_Trail
  · exact fx.c_Stages
  · exact fx.c_Run
  · exact fx.c_Way
  · exact fx.c_Found
  · exact fx.c_Never
  · exact fx.c_Trial
end
section
variable {P : Program} {w : World} {K : PySem.W.Frag} {mg : Str → Option Value} {base : Heap} {fd : Nat → FuncData}
theorem eqcs {X : Cx} (fx : Fx X.K mg fd) : EqCs X (ct X.K) (fns X.K fd) eqTab :=
  (.cons (.mk' rfl fx.e_Book fx.i_Book__eq_) (.cons (.mk' rfl fx.e_Clash fx.i_Clash__eq_) (.cons (.mk' rfl fx.e_Guess fx.i_Guess__eq_) (.cons (.mk' rfl fx.e_Canon fx.i_Canon__eq_) (.cons (.mk' rfl fx.e_Settled fx.i_Settled__eq_) (.cons (.mk' rfl fx.e_Shape fx.i_Shape__eq_) (.cons (.mk' rfl fx.e_Answer fx.i_Answer__eq_) (.cons (.mk' rfl fx.e_Carries fx.i_Carries__eq_) (.cons (.mk' rfl fx.e_Case fx.i_Case__eq_) (.cons (.mk' rfl fx.e_Look fx.i_Look__eq_) (.cons (.mk' rfl fx.e_Entry fx.i_Entry__eq_) (.cons (.mk' rfl fx.e_Paper fx.i_Paper__eq_) (.cons (.mk' rfl fx.e_Shut fx.i_Shut__eq_) (.cons (.mk' rfl fx.e_Grammar fx.i_Grammar__eq_) (.cons (.mk' rfl fx.e_Pressed fx.i_Pressed__eq_) (.cons (.mk' rfl fx.e_Filling fx.i_Filling__eq_) (.cons (.mk' rfl fx.e_Root fx.i_Root__eq_) (.cons (.mk' rfl fx.e_Trail fx.i_Trail__eq_) (.cons (.mk' rfl fx.e_Stages fx.i_Stages__eq_) (.cons (.mk' rfl fx.e_Run fx.i_Run__eq_) (.cons (.mk' rfl fx.e_Way fx.i_Way__eq_) (.cons (.mk' rfl fx.e_Found fx.i_Found__eq_) (.cons (.mk' rfl fx.e_Never fx.i_Never__eq_) (.cons (.mk' rfl fx.e_Trial fx.i_Trial__eq_) .nil))))))))))))))))))))))))
theorem eqt {X : Cx} (fx : Fx X.K mg fd) : EqT X (ct X.K) (fns X.K fd) eqTab := (eqcs fx).tab (fun _ => rfl) fx.w_nf
abbrev N_is_whole : List Str := ["thing"]
theorem sc_is_whole : FnScope N_is_whole ["thing"] (defScope s_is_whole) := ⟨by kernel_rfl, by kernel_rfl, by kernel_rfl, by decide +kernel, rfl, by decide +kernel, by decide +kernel⟩
theorem t_is_whole (fx : Fx K mg fd) (call : CallT) (n : Nat) (cdv : Value) (A : Around) (outer : List Env) (s : Shared) (H : Hp) (E : XK) (c : Cq (cxOf (L2.CX P w) P w K mg base N_is_whole "is_whole" (defScope s_is_whole) (He.fAd K d_is_whole.at_) cdv A outer s H E) (ct K) (fns K fd) call n) :
    SSs (cxOf (L2.CX P w) P w K mg base N_is_whole "is_whole" (defScope s_is_whole) (He.fAd K d_is_whole.at_) cdv A outer s H E) (ct K) (fun c d _ H' => E c d H') (defBody s_is_whole) (m_is_whole call) := by
  have tk : Takes (cxOf (L2.CX P w) P w K mg base N_is_whole "is_whole" (defScope s_is_whole) (He.fAd K d_is_whole.at_) cdv A outer s H E) (fun cls d _ H' => E cls d H') := takes_of rfl rfl rfl rfl
  have nd := sc_is_whole.nd
  have po : PassesOwn (model P w) (cxOf (L2.CX P w) P w K mg base N_is_whole "is_whole" (defScope s_is_whole) (He.fAd K d_is_whole.at_) cdv A outer s H E).A (cxOf (L2.CX P w) P w K mg base N_is_whole "is_whole" (defScope s_is_whole) (He.fAd K d_is_whole.at_) cdv A outer s H E).env (cxOf (L2.CX P w) P w K mg base N_is_whole "is_whole" (defScope s_is_whole) (He.fAd K d_is_whole.at_) cdv A outer s H E).xe := passes_of rfl
  exact (sss_one (ss_ret' (se_and (se_isiB rfl fx.f_int (by decide +kernel) Mi.isi_int rfl fx.f_isinstance (se_var 0)) (se_one (se_not (se_isiB rfl fx.f_bool (by decide +kernel) Mi.isi_bool rfl fx.f_isinstance (se_var 0)))))))
theorem b_is_whole (fx : Fx K mg fd) : BodyOk P w K mg base (ct K) (fns K fd) ⟨He.fAd K d_is_whole.at_, fd 0, ["thing"]⟩ ⟨1, 1, false, m_is_whole⟩ :=
  ⟨_, "is_whole", _, _, _, _, _, N_is_whole, fx.D_is_whole, sc_is_whole, rfl, rfl, by decide, fun call n co cdv A outer s H E hr => t_is_whole fx call n cdv A outer s H E ⟨co, hr⟩⟩
abbrev N_is_sequence : List Str := ["thing"]
theorem sc_is_sequence : FnScope N_is_sequence ["thing"] (defScope s_is_sequence) := ⟨by kernel_rfl, by kernel_rfl, by kernel_rfl, by decide +kernel, rfl, by decide +kernel, by decide +kernel⟩
theorem t_is_sequence (fx : Fx K mg fd) (call : CallT) (n : Nat) (cdv : Value) (A : Around) (outer : List Env) (s : Shared) (H : Hp) (E : XK) (c : Cq (cxOf (L2.CX P w) P w K mg base N_is_sequence "is_sequence" (defScope s_is_sequence) (He.fAd K d_is_sequence.at_) cdv A outer s H E) (ct K) (fns K fd) call n) :
    SSs (cxOf (L2.CX P w) P w K mg base N_is_sequence "is_sequence" (defScope s_is_sequence) (He.fAd K d_is_sequence.at_) cdv A outer s H E) (ct K) (fun c d _ H' => E c d H') (defBody s_is_sequence) (m_is_sequence call) := by
  have tk : Takes (cxOf (L2.CX P w) P w K mg base N_is_sequence "is_sequence" (defScope s_is_sequence) (He.fAd K d_is_sequence.at_) cdv A outer s H E) (fun cls d _ H' => E cls d H') := takes_of rfl rfl rfl rfl
  have nd := sc_is_sequence.nd
  have po : PassesOwn (model P w) (cxOf (L2.CX P w) P w K mg base N_is_sequence "is_sequence" (defScope s_is_sequence) (He.fAd K d_is_sequence.at_) cdv A outer s H E).A (cxOf (L2.CX P w) P w K mg base N_is_sequence "is_sequence" (defScope s_is_sequence) (He.fAd K d_is_sequence.at_) cdv A outer s H E).env (cxOf (L2.CX P w) P w K mg base N_is_sequence "is_sequence" (defScope s_is_sequence) (He.fAd K d_is_sequence.at_) cdv A outer s H E).xe := passes_of rfl
  exact (sss_one (ss_ret' (se_or (se_isiB rfl fx.f_list (by decide +kernel) Mi.isi_list rfl fx.f_isinstance (se_var 0)) (se_one (se_isiB rfl fx.f_tuple (by decide +kernel) Mi.isi_tuple rfl fx.f_isinstance (se_var 0))))))
theorem b_is_sequence (fx : Fx K mg fd) : BodyOk P w K mg base (ct K) (fns K fd) ⟨He.fAd K d_is_sequence.at_, fd 1, ["thing"]⟩ ⟨1, 1, false, m_is_sequence⟩ :=
  ⟨_, "is_sequence", _, _, _, _, _, N_is_sequence, fx.D_is_sequence, sc_is_sequence, rfl, rfl, by decide, fun call n co cdv A outer s H E hr => t_is_sequence fx call n cdv A outer s H E ⟨co, hr⟩⟩
abbrev N_is_state : List Str := ["thing", "states"]
theorem sc_is_state : FnScope N_is_state ["thing", "states"] (defScope s_is_state) := ⟨by kernel_rfl, by kernel_rfl, by kernel_rfl, by decide +kernel, rfl, by decide +kernel, by decide +kernel⟩
theorem t_is_state (fx : Fx K mg fd) (call : CallT) (n : Nat) (cdv : Value) (A : Around) (outer : List Env) (s : Shared) (H : Hp) (E : XK) (c : Cq (cxOf (L2.CX P w) P w K mg base N_is_state "is_state" (defScope s_is_state) (He.fAd K d_is_state.at_) cdv A outer s H E) (ct K) (fns K fd) call n) :
    SSs (cxOf (L2.CX P w) P w K mg base N_is_state "is_state" (defScope s_is_state) (He.fAd K d_is_state.at_) cdv A outer s H E) (ct K) (fun c d _ H' => E c d H') (defBody s_is_state) (m_is_state call) := by
  have tk : Takes (cxOf (L2.CX P w) P w K mg base N_is_state "is_state" (defScope s_is_state) (He.fAd K d_is_state.at_) cdv A outer s H E) (fun cls d _ H' => E cls d H') := takes_of rfl rfl rfl rfl
  have nd := sc_is_state.nd
  have po : PassesOwn (model P w) (cxOf (L2.CX P w) P w K mg base N_is_state "is_state" (defScope s_is_state) (He.fAd K d_is_state.at_) cdv A outer s H E).A (cxOf (L2.CX P w) P w K mg base N_is_state "is_state" (defScope s_is_state) (He.fAd K d_is_state.at_) cdv A outer s H E).env (cxOf (L2.CX P w) P w K mg base N_is_state "is_state" (defScope s_is_state) (He.fAd K d_is_state.at_) cdv A outer s H E).xe := passes_of rfl
  exact (sss_one (ss_ret' (se_and (sc_call ⟨c.co, c.ro⟩ tk fx.i_is_whole fx.g_is_whole rfl rfl (sa_cons (se_var 0) sa_nil)) (se_one (se_chain le_sound lt_sound se_int (se_var 0) (se_var 1))))))
theorem b_is_state (fx : Fx K mg fd) : BodyOk P w K mg base (ct K) (fns K fd) ⟨He.fAd K d_is_state.at_, fd 2, ["thing", "states"]⟩ ⟨2, 2, false, m_is_state⟩ :=
  ⟨_, "is_state", _, _, _, _, _, N_is_state, fx.D_is_state, sc_is_state, rfl, rfl, by decide, fun call n co cdv A outer s H E hr => t_is_state fx call n cdv A outer s H E ⟨co, hr⟩⟩
abbrev N_checked_deeds : List Str := ["deeds", "states", "told", "one", "goal"]
theorem sc_checked_deeds : FnScope N_checked_deeds ["deeds", "states"] (defScope s_checked_deeds) := ⟨by kernel_rfl, by kernel_rfl, by kernel_rfl, by decide +kernel, rfl, by decide +kernel, by decide +kernel⟩
theorem t_checked_deeds (fx : Fx K mg fd) (call : CallT) (n : Nat) (cdv : Value) (A : Around) (outer : List Env) (s : Shared) (H : Hp) (E : XK) (c : Cq (cxOf (L2.CX P w) P w K mg base N_checked_deeds "checked_deeds" (defScope s_checked_deeds) (He.fAd K d_checked_deeds.at_) cdv A outer s H E) (ct K) (fns K fd) call n) :
    SSs (cxOf (L2.CX P w) P w K mg base N_checked_deeds "checked_deeds" (defScope s_checked_deeds) (He.fAd K d_checked_deeds.at_) cdv A outer s H E) (ct K) (fun c d _ H' => E c d H') (defBody s_checked_deeds) (m_checked_deeds call) := by
  have tk : Takes (cxOf (L2.CX P w) P w K mg base N_checked_deeds "checked_deeds" (defScope s_checked_deeds) (He.fAd K d_checked_deeds.at_) cdv A outer s H E) (fun cls d _ H' => E cls d H') := takes_of rfl rfl rfl rfl
  have nd := sc_checked_deeds.nd
  have po : PassesOwn (model P w) (cxOf (L2.CX P w) P w K mg base N_checked_deeds "checked_deeds" (defScope s_checked_deeds) (He.fAd K d_checked_deeds.at_) cdv A outer s H E).A (cxOf (L2.CX P w) P w K mg base N_checked_deeds "checked_deeds" (defScope s_checked_deeds) (He.fAd K d_checked_deeds.at_) cdv A outer s H E).env (cxOf (L2.CX P w) P w K mg base N_checked_deeds "checked_deeds" (defScope s_checked_deeds) (He.fAd K d_checked_deeds.at_) cdv A outer s H E).xe := passes_of rfl
  exact (sss_cons (ss_if (st_not (st_truth (sc_call ⟨c.co, c.ro⟩ tk fx.i_is_sequence fx.g_is_sequence rfl rfl (sa_cons (se_var 0) sa_nil))))
      (sss_one ss_never)
      sss_nil)
      (sss_cons (ss_set nd (i := 2) rfl (by first | exact .inl rfl | exact .inr rfl) (se_lst sa_nil))
      (sss_cons (ss_for po rfl (si_seq (se_var 0)) (sg_name nd (i := 3) rfl (by first | exact .inl rfl | exact .inr rfl))
      (sss_cons (ss_if (st_bool (sw_or (st_not (st_truth (sc_call ⟨c.co, c.ro⟩ tk fx.i_is_sequence fx.g_is_sequence rfl rfl (sa_cons (se_var 3) sa_nil)))) (sw_or1 (st_cmp (eqoN_sound c.co (eqt fx) c.ro) (se_callB len_sound rfl fx.f_len (by decide +kernel) (sa_cons (se_var 3) sa_nil)) (se_var 1)))))
      (sss_one ss_never)
      sss_nil)
      (sss_cons (ss_for po rfl (si_seq (se_var 3)) (sg_name nd (i := 4) rfl (by first | exact .inl rfl | exact .inr rfl))
      (sss_one (ss_if (st_not (st_truth (sc_call ⟨c.co, c.ro⟩ tk fx.i_is_state fx.g_is_state rfl rfl (sa_cons (se_var 4) (sa_cons (se_var 1) sa_nil)))))
      (sss_one ss_never)
      sss_nil)))
      (sss_one (ss_expr (se_append (se_var 2) (sa_cons (se_callTy tuple_sound rfl fx.f_tuple (by decide +kernel) (sa_cons (se_var 3) sa_nil)) sa_nil)))))))
      (sss_one (ss_ret' (se_callTy tuple_sound rfl fx.f_tuple (by decide +kernel) (sa_cons (se_var 2) sa_nil)))))))
theorem b_checked_deeds (fx : Fx K mg fd) : BodyOk P w K mg base (ct K) (fns K fd) ⟨He.fAd K d_checked_deeds.at_, fd 3, ["deeds", "states"]⟩ ⟨2, 5, false, m_checked_deeds⟩ :=
  ⟨_, "checked_deeds", _, _, _, _, _, N_checked_deeds, fx.D_checked_deeds, sc_checked_deeds, rfl, rfl, by decide, fun call n co cdv A outer s H E hr => t_checked_deeds fx call n cdv A outer s H E ⟨co, hr⟩⟩
abbrev N_are_goals : List Str := ["goals", "states", "before", "goal"]
theorem sc_are_goals : FnScope N_are_goals ["goals", "states"] (defScope s_are_goals) := ⟨by kernel_rfl, by kernel_rfl, by kernel_rfl, by decide +kernel, rfl, by decide +kernel, by decide +kernel⟩
theorem t_are_goals (fx : Fx K mg fd) (call : CallT) (n : Nat) (cdv : Value) (A : Around) (outer : List Env) (s : Shared) (H : Hp) (E : XK) (c : Cq (cxOf (L2.CX P w) P w K mg base N_are_goals "are_goals" (defScope s_are_goals) (He.fAd K d_are_goals.at_) cdv A outer s H E) (ct K) (fns K fd) call n) :
    SSs (cxOf (L2.CX P w) P w K mg base N_are_goals "are_goals" (defScope s_are_goals) (He.fAd K d_are_goals.at_) cdv A outer s H E) (ct K) (fun c d _ H' => E c d H') (defBody s_are_goals) (m_are_goals call) := by
  have tk : Takes (cxOf (L2.CX P w) P w K mg base N_are_goals "are_goals" (defScope s_are_goals) (He.fAd K d_are_goals.at_) cdv A outer s H E) (fun cls d _ H' => E cls d H') := takes_of rfl rfl rfl rfl
  have nd := sc_are_goals.nd
  have po : PassesOwn (model P w) (cxOf (L2.CX P w) P w K mg base N_are_goals "are_goals" (defScope s_are_goals) (He.fAd K d_are_goals.at_) cdv A outer s H E).A (cxOf (L2.CX P w) P w K mg base N_are_goals "are_goals" (defScope s_are_goals) (He.fAd K d_are_goals.at_) cdv A outer s H E).env (cxOf (L2.CX P w) P w K mg base N_are_goals "are_goals" (defScope s_are_goals) (He.fAd K d_are_goals.at_) cdv A outer s H E).xe := passes_of rfl
  exact (sss_cons (ss_if (st_not (st_truth (sc_call ⟨c.co, c.ro⟩ tk fx.i_is_sequence fx.g_is_sequence rfl rfl (sa_cons (se_var 0) sa_nil))))
      (sss_one (ss_ret' se_bl))
      sss_nil)
      (sss_cons (ss_set nd (i := 2) rfl (by first | exact .inl rfl | exact .inr rfl) (se_un neg_sound se_int))
      (sss_cons (ss_for po rfl (si_seq (se_var 0)) (sg_name nd (i := 3) rfl (by first | exact .inl rfl | exact .inr rfl))
      (sss_cons (ss_if (st_bool (sw_or (st_not (st_truth (sc_call ⟨c.co, c.ro⟩ tk fx.i_is_state fx.g_is_state rfl rfl (sa_cons (se_var 3) (sa_cons (se_var 1) sa_nil))))) (sw_or1 (st_cmp le_sound (se_var 3) (se_var 2)))))
      (sss_one (ss_ret' se_bl))
      sss_nil)
      (sss_one (ss_set nd (i := 2) rfl (by first | exact .inl rfl | exact .inr rfl) (se_var 3)))))
      (sss_one (ss_ret' se_bl)))))
theorem b_are_goals (fx : Fx K mg fd) : BodyOk P w K mg base (ct K) (fns K fd) ⟨He.fAd K d_are_goals.at_, fd 4, ["goals", "states"]⟩ ⟨2, 4, false, m_are_goals⟩ :=
  ⟨_, "are_goals", _, _, _, _, _, N_are_goals, fx.D_are_goals, sc_are_goals, rfl, rfl, by decide, fun call n co cdv A outer s H E hr => t_are_goals fx call n cdv A outer s H E ⟨co, hr⟩⟩
abbrev N_checked_ends : List Str := ["ends", "states", "told", "one", "start", "goals"]
theorem sc_checked_ends : FnScope N_checked_ends ["ends", "states"] (defScope s_checked_ends) := ⟨by kernel_rfl, by kernel_rfl, by kernel_rfl, by decide +kernel, rfl, by decide +kernel, by decide +kernel⟩
theorem t_checked_ends (fx : Fx K mg fd) (call : CallT) (n : Nat) (cdv : Value) (A : Around) (outer : List Env) (s : Shared) (H : Hp) (E : XK) (c : Cq (cxOf (L2.CX P w) P w K mg base N_checked_ends "checked_ends" (defScope s_checked_ends) (He.fAd K d_checked_ends.at_) cdv A outer s H E) (ct K) (fns K fd) call n) :
    SSs (cxOf (L2.CX P w) P w K mg base N_checked_ends "checked_ends" (defScope s_checked_ends) (He.fAd K d_checked_ends.at_) cdv A outer s H E) (ct K) (fun c d _ H' => E c d H') (defBody s_checked_ends) (m_checked_ends call) := by
  have tk : Takes (cxOf (L2.CX P w) P w K mg base N_checked_ends "checked_ends" (defScope s_checked_ends) (He.fAd K d_checked_ends.at_) cdv A outer s H E) (fun cls d _ H' => E cls d H') := takes_of rfl rfl rfl rfl
  have nd := sc_checked_ends.nd
  have po : PassesOwn (model P w) (cxOf (L2.CX P w) P w K mg base N_checked_ends "checked_ends" (defScope s_checked_ends) (He.fAd K d_checked_ends.at_) cdv A outer s H E).A (cxOf (L2.CX P w) P w K mg base N_checked_ends "checked_ends" (defScope s_checked_ends) (He.fAd K d_checked_ends.at_) cdv A outer s H E).env (cxOf (L2.CX P w) P w K mg base N_checked_ends "checked_ends" (defScope s_checked_ends) (He.fAd K d_checked_ends.at_) cdv A outer s H E).xe := passes_of rfl
  exact (sss_cons (ss_if (st_not (st_truth (sc_call ⟨c.co, c.ro⟩ tk fx.i_is_sequence fx.g_is_sequence rfl rfl (sa_cons (se_var 0) sa_nil))))
      (sss_one ss_never)
      sss_nil)
      (sss_cons (ss_set nd (i := 2) rfl (by first | exact .inl rfl | exact .inr rfl) (se_lst sa_nil))
      (sss_cons (ss_for po rfl (si_seq (se_var 0)) (sg_name nd (i := 3) rfl (by first | exact .inl rfl | exact .inr rfl))
      (sss_cons (ss_if (st_bool (sw_or (st_not (st_truth (sc_call ⟨c.co, c.ro⟩ tk fx.i_is_sequence fx.g_is_sequence rfl rfl (sa_cons (se_var 3) sa_nil)))) (sw_or1 (st_cmp neF_sound (se_callB len_sound rfl fx.f_len (by decide +kernel) (sa_cons (se_var 3) sa_nil)) se_int))))
      (sss_one ss_never)
      sss_nil)
      (sss_cons (ss_asg (se_var 3) (sg_tup rfl (sgs_cons (sg_name nd (i := 4) rfl (by first | exact .inl rfl | exact .inr rfl)) (sgs_cons (sg_name nd (i := 5) rfl (by first | exact .inl rfl | exact .inr rfl)) sgs_nil))))
      (sss_cons (ss_if (st_bool (sw_or (st_not (st_truth (sc_call ⟨c.co, c.ro⟩ tk fx.i_is_state fx.g_is_state rfl rfl (sa_cons (se_var 4) (sa_cons (se_var 1) sa_nil))))) (sw_or1 (st_not (st_truth (sc_call ⟨c.co, c.ro⟩ tk fx.i_are_goals fx.g_are_goals rfl rfl (sa_cons (se_var 5) (sa_cons (se_var 1) sa_nil))))))))
      (sss_one ss_never)
      sss_nil)
      (sss_one (ss_expr (se_append (se_var 2) (sa_cons (se_tup (sa_cons (se_var 4) (sa_cons (se_callTy tuple_sound rfl fx.f_tuple (by decide +kernel) (sa_cons (se_var 5) sa_nil)) sa_nil))) sa_nil))))))))
      (sss_one (ss_ret' (se_callTy tuple_sound rfl fx.f_tuple (by decide +kernel) (sa_cons (se_var 2) sa_nil)))))))
theorem b_checked_ends (fx : Fx K mg fd) : BodyOk P w K mg base (ct K) (fns K fd) ⟨He.fAd K d_checked_ends.at_, fd 5, ["ends", "states"]⟩ ⟨2, 6, false, m_checked_ends⟩ :=
  ⟨_, "checked_ends", _, _, _, _, _, N_checked_ends, fx.D_checked_ends, sc_checked_ends, rfl, rfl, by decide, fun call n co cdv A outer s H E hr => t_checked_ends fx call n cdv A outer s H E ⟨co, hr⟩⟩
abbrev N_checked_rows : List Str := ["rows", "told", "row", "side", "sign", "left", "right"]
theorem sc_checked_rows : FnScope N_checked_rows ["rows"] (defScope s_checked_rows) := ⟨by kernel_rfl, by kernel_rfl, by kernel_rfl, by decide +kernel, rfl, by decide +kernel, by decide +kernel⟩
theorem t_checked_rows (fx : Fx K mg fd) (call : CallT) (n : Nat) (cdv : Value) (A : Around) (outer : List Env) (s : Shared) (H : Hp) (E : XK) (c : Cq (cxOf (L2.CX P w) P w K mg base N_checked_rows "checked_rows" (defScope s_checked_rows) (He.fAd K d_checked_rows.at_) cdv A outer s H E) (ct K) (fns K fd) call n) :
    SSs (cxOf (L2.CX P w) P w K mg base N_checked_rows "checked_rows" (defScope s_checked_rows) (He.fAd K d_checked_rows.at_) cdv A outer s H E) (ct K) (fun c d _ H' => E c d H') (defBody s_checked_rows) (m_checked_rows call) := by
  have tk : Takes (cxOf (L2.CX P w) P w K mg base N_checked_rows "checked_rows" (defScope s_checked_rows) (He.fAd K d_checked_rows.at_) cdv A outer s H E) (fun cls d _ H' => E cls d H') := takes_of rfl rfl rfl rfl
  have nd := sc_checked_rows.nd
  have po : PassesOwn (model P w) (cxOf (L2.CX P w) P w K mg base N_checked_rows "checked_rows" (defScope s_checked_rows) (He.fAd K d_checked_rows.at_) cdv A outer s H E).A (cxOf (L2.CX P w) P w K mg base N_checked_rows "checked_rows" (defScope s_checked_rows) (He.fAd K d_checked_rows.at_) cdv A outer s H E).env (cxOf (L2.CX P w) P w K mg base N_checked_rows "checked_rows" (defScope s_checked_rows) (He.fAd K d_checked_rows.at_) cdv A outer s H E).xe := passes_of rfl
  exact (sss_cons (ss_if (st_not (st_truth (sc_call ⟨c.co, c.ro⟩ tk fx.i_is_sequence fx.g_is_sequence rfl rfl (sa_cons (se_var 0) sa_nil))))
      (sss_one ss_never)
      sss_nil)
      (sss_cons (ss_set nd (i := 1) rfl (by first | exact .inl rfl | exact .inr rfl) (se_lst sa_nil))
      (sss_cons (ss_for po rfl (si_seq (se_var 0)) (sg_name nd (i := 2) rfl (by first | exact .inl rfl | exact .inr rfl))
      (sss_cons (ss_if (st_bool (sw_or (st_not (st_truth (sc_call ⟨c.co, c.ro⟩ tk fx.i_is_sequence fx.g_is_sequence rfl rfl (sa_cons (se_var 2) sa_nil)))) (sw_or1 (st_cmp neF_sound (se_callB len_sound rfl fx.f_len (by decide +kernel) (sa_cons (se_var 2) sa_nil)) se_int))))
      (sss_one ss_never)
      sss_nil)
      (sss_cons (ss_for po rfl (si_seq (se_var 2)) (sg_name nd (i := 3) rfl (by first | exact .inl rfl | exact .inr rfl))
      (sss_cons (ss_if (st_not (st_truth (sc_call ⟨c.co, c.ro⟩ tk fx.i_is_sequence fx.g_is_sequence rfl rfl (sa_cons (se_var 3) sa_nil))))
      (sss_one ss_never)
      sss_nil)
      (sss_one (ss_for po rfl (si_seq (se_var 3)) (sg_name nd (i := 4) rfl (by first | exact .inl rfl | exact .inr rfl))
      (sss_one (ss_if (st_not (st_truth (sc_call ⟨c.co, c.ro⟩ tk fx.i_is_whole fx.g_is_whole rfl rfl (sa_cons (se_var 4) sa_nil))))
      (sss_one ss_never)
      sss_nil))))))
      (sss_cons (ss_asg (se_var 2) (sg_tup rfl (sgs_cons (sg_name nd (i := 5) rfl (by first | exact .inl rfl | exact .inr rfl)) (sgs_cons (sg_name nd (i := 6) rfl (by first | exact .inl rfl | exact .inr rfl)) sgs_nil))))
      (sss_one (ss_expr (se_append (se_var 1) (sa_cons (se_tup (sa_cons (se_callTy tuple_sound rfl fx.f_tuple (by decide +kernel) (sa_cons (se_var 5) sa_nil)) (sa_cons (se_callTy tuple_sound rfl fx.f_tuple (by decide +kernel) (sa_cons (se_var 6) sa_nil)) sa_nil))) sa_nil))))))))
      (sss_one (ss_ret' (se_callTy tuple_sound rfl fx.f_tuple (by decide +kernel) (sa_cons (se_var 1) sa_nil)))))))
theorem b_checked_rows (fx : Fx K mg fd) : BodyOk P w K mg base (ct K) (fns K fd) ⟨He.fAd K d_checked_rows.at_, fd 6, ["rows"]⟩ ⟨1, 7, false, m_checked_rows⟩ :=
  ⟨_, "checked_rows", _, _, _, _, _, N_checked_rows, fx.D_checked_rows, sc_checked_rows, rfl, rfl, by decide, fun call n co cdv A outer s H E hr => t_checked_rows fx call n cdv A outer s H E ⟨co, hr⟩⟩
abbrev N_check_signs : List Str := ["rows", "letters", "unknowns", "left", "right", "sign"]
theorem sc_check_signs : FnScope N_check_signs ["rows", "letters", "unknowns"] (defScope s_check_signs) := ⟨by kernel_rfl, by kernel_rfl, by kernel_rfl, by decide +kernel, rfl, by decide +kernel, by decide +kernel⟩
theorem t_check_signs (fx : Fx K mg fd) (call : CallT) (n : Nat) (cdv : Value) (A : Around) (outer : List Env) (s : Shared) (H : Hp) (E : XK) (c : Cq (cxOf (L2.CX P w) P w K mg base N_check_signs "check_signs" (defScope s_check_signs) (He.fAd K d_check_signs.at_) cdv A outer s H E) (ct K) (fns K fd) call n) :
    SSs (cxOf (L2.CX P w) P w K mg base N_check_signs "check_signs" (defScope s_check_signs) (He.fAd K d_check_signs.at_) cdv A outer s H E) (ct K) (fun c d _ H' => E c d H') (defBody s_check_signs) (m_check_signs call) := by
  have tk : Takes (cxOf (L2.CX P w) P w K mg base N_check_signs "check_signs" (defScope s_check_signs) (He.fAd K d_check_signs.at_) cdv A outer s H E) (fun cls d _ H' => E cls d H') := takes_of rfl rfl rfl rfl
  have nd := sc_check_signs.nd
  have po : PassesOwn (model P w) (cxOf (L2.CX P w) P w K mg base N_check_signs "check_signs" (defScope s_check_signs) (He.fAd K d_check_signs.at_) cdv A outer s H E).A (cxOf (L2.CX P w) P w K mg base N_check_signs "check_signs" (defScope s_check_signs) (He.fAd K d_check_signs.at_) cdv A outer s H E).env (cxOf (L2.CX P w) P w K mg base N_check_signs "check_signs" (defScope s_check_signs) (He.fAd K d_check_signs.at_) cdv A outer s H E).xe := passes_of rfl
  exact (sss_one (ss_for po rfl (si_seq (se_var 0)) (sg_tup rfl (sgs_cons (sg_name nd (i := 3) rfl (by first | exact .inl rfl | exact .inr rfl)) (sgs_cons (sg_name nd (i := 4) rfl (by first | exact .inl rfl | exact .inr rfl)) sgs_nil)))
      (sss_one (ss_for po rfl (si_seq (se_bin add_sound (se_var 3) (se_var 4))) (sg_name nd (i := 5) rfl (by first | exact .inl rfl | exact .inr rfl))
      (sss_one (ss_if (st_bool (sw_or (st_cmp ge_sound (se_var 5) (se_var 1)) (sw_or1 (st_cmp ge_sound (se_bin sub_sound (se_un neg_sound se_int) (se_var 5)) (se_var 2)))))
      (sss_one ss_never)
      sss_nil))))))
theorem b_check_signs (fx : Fx K mg fd) : BodyOk P w K mg base (ct K) (fns K fd) ⟨He.fAd K d_check_signs.at_, fd 7, ["rows", "letters", "unknowns"]⟩ ⟨3, 6, false, m_check_signs⟩ :=
  ⟨_, "check_signs", _, _, _, _, _, N_check_signs, fx.D_check_signs, sc_check_signs, rfl, rfl, by decide, fun call n co cdv A outer s H E hr => t_check_signs fx call n cdv A outer s H E ⟨co, hr⟩⟩
abbrev N_Book__init_ : List Str := ["self", "rows", "deeds", "ends", "states"]
theorem sc_Book__init_ : FnScope N_Book__init_ ["self", "rows", "deeds", "ends", "states"] (defScope s_Book__init_) := ⟨by kernel_rfl, by kernel_rfl, by kernel_rfl, by decide +kernel, rfl, by decide +kernel, by decide +kernel⟩
theorem t_Book__init_ (fx : Fx K mg fd) (call : CallT) (n : Nat) (cdv : Value) (A : Around) (outer : List Env) (s : Shared) (H : Hp) (E : XK) (c : Cq (cxOf (L2.CX P w) P w K mg base N_Book__init_ "Book.__init__" (defScope s_Book__init_) (He.fAd K d_Book__init_.at_) cdv A outer s H E) (ct K) (fns K fd) call n) :
    SSs (cxOf (L2.CX P w) P w K mg base N_Book__init_ "Book.__init__" (defScope s_Book__init_) (He.fAd K d_Book__init_.at_) cdv A outer s H E) (ct K) (fun c d _ H' => E c d H') (defBody s_Book__init_) (m_Book__init_ call) := by
  have tk : Takes (cxOf (L2.CX P w) P w K mg base N_Book__init_ "Book.__init__" (defScope s_Book__init_) (He.fAd K d_Book__init_.at_) cdv A outer s H E) (fun cls d _ H' => E cls d H') := takes_of rfl rfl rfl rfl
  have nd := sc_Book__init_.nd
  have po : PassesOwn (model P w) (cxOf (L2.CX P w) P w K mg base N_Book__init_ "Book.__init__" (defScope s_Book__init_) (He.fAd K d_Book__init_.at_) cdv A outer s H E).A (cxOf (L2.CX P w) P w K mg base N_Book__init_ "Book.__init__" (defScope s_Book__init_) (He.fAd K d_Book__init_.at_) cdv A outer s H E).env (cxOf (L2.CX P w) P w K mg base N_Book__init_ "Book.__init__" (defScope s_Book__init_) (He.fAd K d_Book__init_.at_) cdv A outer s H E).xe := passes_of rfl
  exact (sss_cons (ss_if (st_bool (sw_or (st_not (st_truth (sc_call ⟨c.co, c.ro⟩ tk fx.i_is_whole fx.g_is_whole rfl rfl (sa_cons (se_var 4) sa_nil)))) (sw_or1 (st_cmp lt_sound (se_var 4) se_int))))
      (sss_one ss_never)
      sss_nil)
      (sss_cons (ss_fld (ok := ok_deeds) (k := 0) (se_var 0) (sc_call ⟨c.co, c.ro⟩ tk fx.i_checked_deeds fx.g_checked_deeds rfl rfl (sa_cons (se_var 2) (sa_cons (se_var 4) sa_nil))) rfl (hok_deeds fx))
      (sss_cons (ss_fld (ok := ok_ends) (k := 1) (se_var 0) (sc_call ⟨c.co, c.ro⟩ tk fx.i_checked_ends fx.g_checked_ends rfl rfl (sa_cons (se_var 3) (sa_cons (se_var 4) sa_nil))) rfl (hok_ends fx))
      (sss_cons (ss_fld (ok := ok_rows) (k := 2) (se_var 0) (sc_call ⟨c.co, c.ro⟩ tk fx.i_checked_rows fx.g_checked_rows rfl rfl (sa_cons (se_var 1) sa_nil)) rfl (hok_rows fx))
      (sss_cons (ss_fld (ok := ok_states) (k := 3) (se_var 0) (se_var 4) rfl (hok_states fx))
      (sss_one (ss_expr (sc_call ⟨c.co, c.ro⟩ tk fx.i_check_signs fx.g_check_signs rfl rfl (sa_cons (se_fld (ok := ok_rows) (k := 2) (se_var 0) rfl (hok_rows fx)) (sa_cons (se_callB len_sound rfl fx.f_len (by decide +kernel) (sa_cons (se_fld (ok := ok_deeds) (k := 0) (se_var 0) rfl (hok_deeds fx)) sa_nil)) (sa_cons (se_callB len_sound rfl fx.f_len (by decide +kernel) (sa_cons (se_fld (ok := ok_ends) (k := 1) (se_var 0) rfl (hok_ends fx)) sa_nil)) sa_nil)))))))))))
theorem b_Book__init_ (fx : Fx K mg fd) : BodyOk P w K mg base (ct K) (fns K fd) ⟨He.fAd K d_Book__init_.at_, fd 8, ["self", "rows", "deeds", "ends", "states"]⟩ ⟨5, 5, false, m_Book__init_⟩ :=
  ⟨_, "Book.__init__", _, _, _, _, _, N_Book__init_, fx.D_Book__init_, sc_Book__init_, rfl, rfl, by decide, fun call n co cdv A outer s H E hr => t_Book__init_ fx call n cdv A outer s H E ⟨co, hr⟩⟩
abbrev N_Book__eq_ : List Str := ["self", "other"]
theorem sc_Book__eq_ : FnScope N_Book__eq_ ["self", "other"] (defScope s_Book__eq_) := ⟨by kernel_rfl, by kernel_rfl, by kernel_rfl, by decide +kernel, rfl, by decide +kernel, by decide +kernel⟩
theorem t_Book__eq_ (fx : Fx K mg fd) (call : CallT) (n : Nat) (cdv : Value) (A : Around) (outer : List Env) (s : Shared) (H : Hp) (E : XK) (c : Cq (cxOf (L2.CX P w) P w K mg base N_Book__eq_ "Book.__eq__" (defScope s_Book__eq_) (He.fAd K d_Book__eq_.at_) cdv A outer s H E) (ct K) (fns K fd) call n) :
    SSs (cxOf (L2.CX P w) P w K mg base N_Book__eq_ "Book.__eq__" (defScope s_Book__eq_) (He.fAd K d_Book__eq_.at_) cdv A outer s H E) (ct K) (fun c d _ H' => E c d H') (defBody s_Book__eq_) (m_Book__eq_ call) := by
  have tk : Takes (cxOf (L2.CX P w) P w K mg base N_Book__eq_ "Book.__eq__" (defScope s_Book__eq_) (He.fAd K d_Book__eq_.at_) cdv A outer s H E) (fun cls d _ H' => E cls d H') := takes_of rfl rfl rfl rfl
  have nd := sc_Book__eq_.nd
  have po : PassesOwn (model P w) (cxOf (L2.CX P w) P w K mg base N_Book__eq_ "Book.__eq__" (defScope s_Book__eq_) (He.fAd K d_Book__eq_.at_) cdv A outer s H E).A (cxOf (L2.CX P w) P w K mg base N_Book__eq_ "Book.__eq__" (defScope s_Book__eq_) (He.fAd K d_Book__eq_.at_) cdv A outer s H E).env (cxOf (L2.CX P w) P w K mg base N_Book__eq_ "Book.__eq__" (defScope s_Book__eq_) (He.fAd K d_Book__eq_.at_) cdv A outer s H E).xe := passes_of rfl
  exact (sss_one (ss_ret' (se_and (se_isiC rfl fx.g_Book (isiOk fx (C := 6) (by decide)) rfl fx.f_isinstance (se_var 1)) (se_and (se_cmp (eqoE_sound c.co (eqt fx) c.ro) (se_fld (ok := ok_rows) (k := 2) (se_var 0) rfl (hok_rows fx)) (se_fld (ok := ok_rows) (k := 2) (se_var 1) rfl (hok_rows fx))) (se_and (se_cmp (eqoE_sound c.co (eqt fx) c.ro) (se_fld (ok := ok_deeds) (k := 0) (se_var 0) rfl (hok_deeds fx)) (se_fld (ok := ok_deeds) (k := 0) (se_var 1) rfl (hok_deeds fx))) (se_and (se_cmp (eqoE_sound c.co (eqt fx) c.ro) (se_fld (ok := ok_ends) (k := 1) (se_var 0) rfl (hok_ends fx)) (se_fld (ok := ok_ends) (k := 1) (se_var 1) rfl (hok_ends fx))) (se_one (se_cmp (eqoE_sound c.co (eqt fx) c.ro) (se_fld (ok := ok_states) (k := 3) (se_var 0) rfl (hok_states fx)) (se_fld (ok := ok_states) (k := 3) (se_var 1) rfl (hok_states fx))))))))))
theorem b_Book__eq_ (fx : Fx K mg fd) : BodyOk P w K mg base (ct K) (fns K fd) ⟨He.fAd K d_Book__eq_.at_, fd 9, ["self", "other"]⟩ ⟨2, 2, false, m_Book__eq_⟩ :=
  ⟨_, "Book.__eq__", _, _, _, _, _, N_Book__eq_, fx.D_Book__eq_, sc_Book__eq_, rfl, rfl, by decide, fun call n co cdv A outer s H E hr => t_Book__eq_ fx call n cdv A outer s H E ⟨co, hr⟩⟩
abbrev N_Clash__init_ : List Str := ["self", "why", "at"]
theorem sc_Clash__init_ : FnScope N_Clash__init_ ["self", "why", "at"] (defScope s_Clash__init_) := ⟨by kernel_rfl, by kernel_rfl, by kernel_rfl, by decide +kernel, rfl, by decide +kernel, by decide +kernel⟩
theorem t_Clash__init_ (fx : Fx K mg fd) (call : CallT) (n : Nat) (cdv : Value) (A : Around) (outer : List Env) (s : Shared) (H : Hp) (E : XK) (c : Cq (cxOf (L2.CX P w) P w K mg base N_Clash__init_ "Clash.__init__" (defScope s_Clash__init_) (He.fAd K d_Clash__init_.at_) cdv A outer s H E) (ct K) (fns K fd) call n) :
    SSs (cxOf (L2.CX P w) P w K mg base N_Clash__init_ "Clash.__init__" (defScope s_Clash__init_) (He.fAd K d_Clash__init_.at_) cdv A outer s H E) (ct K) (fun c d _ H' => E c d H') (defBody s_Clash__init_) (m_Clash__init_ call) := by
  have tk : Takes (cxOf (L2.CX P w) P w K mg base N_Clash__init_ "Clash.__init__" (defScope s_Clash__init_) (He.fAd K d_Clash__init_.at_) cdv A outer s H E) (fun cls d _ H' => E cls d H') := takes_of rfl rfl rfl rfl
  have nd := sc_Clash__init_.nd
  have po : PassesOwn (model P w) (cxOf (L2.CX P w) P w K mg base N_Clash__init_ "Clash.__init__" (defScope s_Clash__init_) (He.fAd K d_Clash__init_.at_) cdv A outer s H E).A (cxOf (L2.CX P w) P w K mg base N_Clash__init_ "Clash.__init__" (defScope s_Clash__init_) (He.fAd K d_Clash__init_.at_) cdv A outer s H E).env (cxOf (L2.CX P w) P w K mg base N_Clash__init_ "Clash.__init__" (defScope s_Clash__init_) (He.fAd K d_Clash__init_.at_) cdv A outer s H E).xe := passes_of rfl
  exact (sss_cons (ss_fld (ok := ok_why) (k := 4) (se_var 0) (se_var 1) rfl (hok_why fx))
      (sss_one (ss_fld (ok := ok_at) (k := 5) (se_var 0) (se_var 2) rfl (hok_at fx))))
theorem b_Clash__init_ (fx : Fx K mg fd) : BodyOk P w K mg base (ct K) (fns K fd) ⟨He.fAd K d_Clash__init_.at_, fd 10, ["self", "why", "at"]⟩ ⟨3, 3, false, m_Clash__init_⟩ :=
  ⟨_, "Clash.__init__", _, _, _, _, _, N_Clash__init_, fx.D_Clash__init_, sc_Clash__init_, rfl, rfl, by decide, fun call n co cdv A outer s H E hr => t_Clash__init_ fx call n cdv A outer s H E ⟨co, hr⟩⟩
abbrev N_Clash__eq_ : List Str := ["self", "other"]
theorem sc_Clash__eq_ : FnScope N_Clash__eq_ ["self", "other"] (defScope s_Clash__eq_) := ⟨by kernel_rfl, by kernel_rfl, by kernel_rfl, by decide +kernel, rfl, by decide +kernel, by decide +kernel⟩
theorem t_Clash__eq_ (fx : Fx K mg fd) (call : CallT) (n : Nat) (cdv : Value) (A : Around) (outer : List Env) (s : Shared) (H : Hp) (E : XK) (c : Cq (cxOf (L2.CX P w) P w K mg base N_Clash__eq_ "Clash.__eq__" (defScope s_Clash__eq_) (He.fAd K d_Clash__eq_.at_) cdv A outer s H E) (ct K) (fns K fd) call n) :
    SSs (cxOf (L2.CX P w) P w K mg base N_Clash__eq_ "Clash.__eq__" (defScope s_Clash__eq_) (He.fAd K d_Clash__eq_.at_) cdv A outer s H E) (ct K) (fun c d _ H' => E c d H') (defBody s_Clash__eq_) (m_Clash__eq_ call) := by
  have tk : Takes (cxOf (L2.CX P w) P w K mg base N_Clash__eq_ "Clash.__eq__" (defScope s_Clash__eq_) (He.fAd K d_Clash__eq_.at_) cdv A outer s H E) (fun cls d _ H' => E cls d H') := takes_of rfl rfl rfl rfl
  have nd := sc_Clash__eq_.nd
  have po : PassesOwn (model P w) (cxOf (L2.CX P w) P w K mg base N_Clash__eq_ "Clash.__eq__" (defScope s_Clash__eq_) (He.fAd K d_Clash__eq_.at_) cdv A outer s H E).A (cxOf (L2.CX P w) P w K mg base N_Clash__eq_ "Clash.__eq__" (defScope s_Clash__eq_) (He.fAd K d_Clash__eq_.at_) cdv A outer s H E).env (cxOf (L2.CX P w) P w K mg base N_Clash__eq_ "Clash.__eq__" (defScope s_Clash__eq_) (He.fAd K d_Clash__eq_.at_) cdv A outer s H E).xe := passes_of rfl
  exact (sss_one (ss_ret' (se_and (se_isiC rfl fx.g_Clash (isiOk fx (C := 7) (by decide)) rfl fx.f_isinstance (se_var 1)) (se_and (se_cmp (eqoE_sound c.co (eqt fx) c.ro) (se_fld (ok := ok_why) (k := 4) (se_var 0) rfl (hok_why fx)) (se_fld (ok := ok_why) (k := 4) (se_var 1) rfl (hok_why fx))) (se_one (se_cmp (eqoE_sound c.co (eqt fx) c.ro) (se_fld (ok := ok_at) (k := 5) (se_var 0) rfl (hok_at fx)) (se_fld (ok := ok_at) (k := 5) (se_var 1) rfl (hok_at fx))))))))
theorem b_Clash__eq_ (fx : Fx K mg fd) : BodyOk P w K mg base (ct K) (fns K fd) ⟨He.fAd K d_Clash__eq_.at_, fd 11, ["self", "other"]⟩ ⟨2, 2, false, m_Clash__eq_⟩ :=
  ⟨_, "Clash.__eq__", _, _, _, _, _, N_Clash__eq_, fx.D_Clash__eq_, sc_Clash__eq_, rfl, rfl, by decide, fun call n co cdv A outer s H E hr => t_Clash__eq_ fx call n cdv A outer s H E ⟨co, hr⟩⟩
abbrev N_Guess__init_ : List Str := ["self", "parts", "news", "told", "letters", "unknowns", "spares", "equations"]
theorem sc_Guess__init_ : FnScope N_Guess__init_ ["self", "parts", "news", "told", "letters", "unknowns", "spares", "equations"] (defScope s_Guess__init_) := ⟨by kernel_rfl, by kernel_rfl, by kernel_rfl, by decide +kernel, rfl, by decide +kernel, by decide +kernel⟩
theorem t_Guess__init_ (fx : Fx K mg fd) (call : CallT) (n : Nat) (cdv : Value) (A : Around) (outer : List Env) (s : Shared) (H : Hp) (E : XK) (c : Cq (cxOf (L2.CX P w) P w K mg base N_Guess__init_ "Guess.__init__" (defScope s_Guess__init_) (He.fAd K d_Guess__init_.at_) cdv A outer s H E) (ct K) (fns K fd) call n) :
    SSs (cxOf (L2.CX P w) P w K mg base N_Guess__init_ "Guess.__init__" (defScope s_Guess__init_) (He.fAd K d_Guess__init_.at_) cdv A outer s H E) (ct K) (fun c d _ H' => E c d H') (defBody s_Guess__init_) (m_Guess__init_ call) := by
  have tk : Takes (cxOf (L2.CX P w) P w K mg base N_Guess__init_ "Guess.__init__" (defScope s_Guess__init_) (He.fAd K d_Guess__init_.at_) cdv A outer s H E) (fun cls d _ H' => E cls d H') := takes_of rfl rfl rfl rfl
  have nd := sc_Guess__init_.nd
  have po : PassesOwn (model P w) (cxOf (L2.CX P w) P w K mg base N_Guess__init_ "Guess.__init__" (defScope s_Guess__init_) (He.fAd K d_Guess__init_.at_) cdv A outer s H E).A (cxOf (L2.CX P w) P w K mg base N_Guess__init_ "Guess.__init__" (defScope s_Guess__init_) (He.fAd K d_Guess__init_.at_) cdv A outer s H E).env (cxOf (L2.CX P w) P w K mg base N_Guess__init_ "Guess.__init__" (defScope s_Guess__init_) (He.fAd K d_Guess__init_.at_) cdv A outer s H E).xe := passes_of rfl
  exact (sss_cons (ss_fld (ok := ok_parts) (k := 6) (se_var 0) (se_var 1) rfl (hok_parts fx))
      (sss_cons (ss_fld (ok := ok_news) (k := 7) (se_var 0) (se_var 2) rfl (hok_news fx))
      (sss_cons (ss_fld (ok := ok_told) (k := 8) (se_var 0) (se_var 3) rfl (hok_told fx))
      (sss_cons (ss_fld (ok := ok_letters) (k := 9) (se_var 0) (se_var 4) rfl (hok_letters fx))
      (sss_cons (ss_fld (ok := ok_unknowns) (k := 10) (se_var 0) (se_var 5) rfl (hok_unknowns fx))
      (sss_cons (ss_fld (ok := ok_spares) (k := 11) (se_var 0) (se_var 6) rfl (hok_spares fx))
      (sss_one (ss_fld (ok := ok_equations) (k := 12) (se_var 0) (se_var 7) rfl (hok_equations fx)))))))))
theorem b_Guess__init_ (fx : Fx K mg fd) : BodyOk P w K mg base (ct K) (fns K fd) ⟨He.fAd K d_Guess__init_.at_, fd 12, ["self", "parts", "news", "told", "letters", "unknowns", "spares", "equations"]⟩ ⟨8, 8, false, m_Guess__init_⟩ :=
  ⟨_, "Guess.__init__", _, _, _, _, _, N_Guess__init_, fx.D_Guess__init_, sc_Guess__init_, rfl, rfl, by decide, fun call n co cdv A outer s H E hr => t_Guess__init_ fx call n cdv A outer s H E ⟨co, hr⟩⟩
abbrev N_Guess__eq_ : List Str := ["self", "other"]
theorem sc_Guess__eq_ : FnScope N_Guess__eq_ ["self", "other"] (defScope s_Guess__eq_) := ⟨by kernel_rfl, by kernel_rfl, by kernel_rfl, by decide +kernel, rfl, by decide +kernel, by decide +kernel⟩
theorem t_Guess__eq_ (fx : Fx K mg fd) (call : CallT) (n : Nat) (cdv : Value) (A : Around) (outer : List Env) (s : Shared) (H : Hp) (E : XK) (c : Cq (cxOf (L2.CX P w) P w K mg base N_Guess__eq_ "Guess.__eq__" (defScope s_Guess__eq_) (He.fAd K d_Guess__eq_.at_) cdv A outer s H E) (ct K) (fns K fd) call n) :
    SSs (cxOf (L2.CX P w) P w K mg base N_Guess__eq_ "Guess.__eq__" (defScope s_Guess__eq_) (He.fAd K d_Guess__eq_.at_) cdv A outer s H E) (ct K) (fun c d _ H' => E c d H') (defBody s_Guess__eq_) (m_Guess__eq_ call) := by
  have tk : Takes (cxOf (L2.CX P w) P w K mg base N_Guess__eq_ "Guess.__eq__" (defScope s_Guess__eq_) (He.fAd K d_Guess__eq_.at_) cdv A outer s H E) (fun cls d _ H' => E cls d H') := takes_of rfl rfl rfl rfl
  have nd := sc_Guess__eq_.nd
  have po : PassesOwn (model P w) (cxOf (L2.CX P w) P w K mg base N_Guess__eq_ "Guess.__eq__" (defScope s_Guess__eq_) (He.fAd K d_Guess__eq_.at_) cdv A outer s H E).A (cxOf (L2.CX P w) P w K mg base N_Guess__eq_ "Guess.__eq__" (defScope s_Guess__eq_) (He.fAd K d_Guess__eq_.at_) cdv A outer s H E).env (cxOf (L2.CX P w) P w K mg base N_Guess__eq_ "Guess.__eq__" (defScope s_Guess__eq_) (He.fAd K d_Guess__eq_.at_) cdv A outer s H E).xe := passes_of rfl
  exact (sss_one (ss_ret' (se_and (se_isiC rfl fx.g_Guess (isiOk fx (C := 8) (by decide)) rfl fx.f_isinstance (se_var 1)) (se_and (se_cmp (eqoE_sound c.co (eqt fx) c.ro) (se_fld (ok := ok_parts) (k := 6) (se_var 0) rfl (hok_parts fx)) (se_fld (ok := ok_parts) (k := 6) (se_var 1) rfl (hok_parts fx))) (se_and (se_cmp (eqoE_sound c.co (eqt fx) c.ro) (se_fld (ok := ok_news) (k := 7) (se_var 0) rfl (hok_news fx)) (se_fld (ok := ok_news) (k := 7) (se_var 1) rfl (hok_news fx))) (se_and (se_cmp (eqoE_sound c.co (eqt fx) c.ro) (se_fld (ok := ok_told) (k := 8) (se_var 0) rfl (hok_told fx)) (se_fld (ok := ok_told) (k := 8) (se_var 1) rfl (hok_told fx))) (se_and (se_cmp (eqoE_sound c.co (eqt fx) c.ro) (se_fld (ok := ok_letters) (k := 9) (se_var 0) rfl (hok_letters fx)) (se_fld (ok := ok_letters) (k := 9) (se_var 1) rfl (hok_letters fx))) (se_and (se_cmp (eqoE_sound c.co (eqt fx) c.ro) (se_fld (ok := ok_unknowns) (k := 10) (se_var 0) rfl (hok_unknowns fx)) (se_fld (ok := ok_unknowns) (k := 10) (se_var 1) rfl (hok_unknowns fx))) (se_and (se_cmp (eqoE_sound c.co (eqt fx) c.ro) (se_fld (ok := ok_spares) (k := 11) (se_var 0) rfl (hok_spares fx)) (se_fld (ok := ok_spares) (k := 11) (se_var 1) rfl (hok_spares fx))) (se_one (se_cmp (eqoE_sound c.co (eqt fx) c.ro) (se_fld (ok := ok_equations) (k := 12) (se_var 0) rfl (hok_equations fx)) (se_fld (ok := ok_equations) (k := 12) (se_var 1) rfl (hok_equations fx)))))))))))))
theorem b_Guess__eq_ (fx : Fx K mg fd) : BodyOk P w K mg base (ct K) (fns K fd) ⟨He.fAd K d_Guess__eq_.at_, fd 13, ["self", "other"]⟩ ⟨2, 2, false, m_Guess__eq_⟩ :=
  ⟨_, "Guess.__eq__", _, _, _, _, _, N_Guess__eq_, fx.D_Guess__eq_, sc_Guess__eq_, rfl, rfl, by decide, fun call n co cdv A outer s H E hr => t_Guess__eq_ fx call n cdv A outer s H E ⟨co, hr⟩⟩
abbrev N_Canon__init_ : List Str := ["self", "book", "letters", "unknowns"]
theorem sc_Canon__init_ : FnScope N_Canon__init_ ["self", "book", "letters", "unknowns"] (defScope s_Canon__init_) := ⟨by kernel_rfl, by kernel_rfl, by kernel_rfl, by decide +kernel, rfl, by decide +kernel, by decide +kernel⟩
theorem t_Canon__init_ (fx : Fx K mg fd) (call : CallT) (n : Nat) (cdv : Value) (A : Around) (outer : List Env) (s : Shared) (H : Hp) (E : XK) (c : Cq (cxOf (L2.CX P w) P w K mg base N_Canon__init_ "Canon.__init__" (defScope s_Canon__init_) (He.fAd K d_Canon__init_.at_) cdv A outer s H E) (ct K) (fns K fd) call n) :
    SSs (cxOf (L2.CX P w) P w K mg base N_Canon__init_ "Canon.__init__" (defScope s_Canon__init_) (He.fAd K d_Canon__init_.at_) cdv A outer s H E) (ct K) (fun c d _ H' => E c d H') (defBody s_Canon__init_) (m_Canon__init_ call) := by
  have tk : Takes (cxOf (L2.CX P w) P w K mg base N_Canon__init_ "Canon.__init__" (defScope s_Canon__init_) (He.fAd K d_Canon__init_.at_) cdv A outer s H E) (fun cls d _ H' => E cls d H') := takes_of rfl rfl rfl rfl
  have nd := sc_Canon__init_.nd
  have po : PassesOwn (model P w) (cxOf (L2.CX P w) P w K mg base N_Canon__init_ "Canon.__init__" (defScope s_Canon__init_) (He.fAd K d_Canon__init_.at_) cdv A outer s H E).A (cxOf (L2.CX P w) P w K mg base N_Canon__init_ "Canon.__init__" (defScope s_Canon__init_) (He.fAd K d_Canon__init_.at_) cdv A outer s H E).env (cxOf (L2.CX P w) P w K mg base N_Canon__init_ "Canon.__init__" (defScope s_Canon__init_) (He.fAd K d_Canon__init_.at_) cdv A outer s H E).xe := passes_of rfl
  exact (sss_cons (ss_fld (ok := ok_book) (k := 13) (se_var 0) (se_var 1) rfl (hok_book fx))
      (sss_cons (ss_fld (ok := ok_letters) (k := 9) (se_var 0) (se_var 2) rfl (hok_letters fx))
      (sss_one (ss_fld (ok := ok_unknowns) (k := 10) (se_var 0) (se_var 3) rfl (hok_unknowns fx)))))
theorem b_Canon__init_ (fx : Fx K mg fd) : BodyOk P w K mg base (ct K) (fns K fd) ⟨He.fAd K d_Canon__init_.at_, fd 14, ["self", "book", "letters", "unknowns"]⟩ ⟨4, 4, false, m_Canon__init_⟩ :=
  ⟨_, "Canon.__init__", _, _, _, _, _, N_Canon__init_, fx.D_Canon__init_, sc_Canon__init_, rfl, rfl, by decide, fun call n co cdv A outer s H E hr => t_Canon__init_ fx call n cdv A outer s H E ⟨co, hr⟩⟩
abbrev N_Canon__eq_ : List Str := ["self", "other"]
theorem sc_Canon__eq_ : FnScope N_Canon__eq_ ["self", "other"] (defScope s_Canon__eq_) := ⟨by kernel_rfl, by kernel_rfl, by kernel_rfl, by decide +kernel, rfl, by decide +kernel, by decide +kernel⟩
theorem t_Canon__eq_ (fx : Fx K mg fd) (call : CallT) (n : Nat) (cdv : Value) (A : Around) (outer : List Env) (s : Shared) (H : Hp) (E : XK) (c : Cq (cxOf (L2.CX P w) P w K mg base N_Canon__eq_ "Canon.__eq__" (defScope s_Canon__eq_) (He.fAd K d_Canon__eq_.at_) cdv A outer s H E) (ct K) (fns K fd) call n) :
    SSs (cxOf (L2.CX P w) P w K mg base N_Canon__eq_ "Canon.__eq__" (defScope s_Canon__eq_) (He.fAd K d_Canon__eq_.at_) cdv A outer s H E) (ct K) (fun c d _ H' => E c d H') (defBody s_Canon__eq_) (m_Canon__eq_ call) := by
  have tk : Takes (cxOf (L2.CX P w) P w K mg base N_Canon__eq_ "Canon.__eq__" (defScope s_Canon__eq_) (He.fAd K d_Canon__eq_.at_) cdv A outer s H E) (fun cls d _ H' => E cls d H') := takes_of rfl rfl rfl rfl
  have nd := sc_Canon__eq_.nd
  have po : PassesOwn (model P w) (cxOf (L2.CX P w) P w K mg base N_Canon__eq_ "Canon.__eq__" (defScope s_Canon__eq_) (He.fAd K d_Canon__eq_.at_) cdv A outer s H E).A (cxOf (L2.CX P w) P w K mg base N_Canon__eq_ "Canon.__eq__" (defScope s_Canon__eq_) (He.fAd K d_Canon__eq_.at_) cdv A outer s H E).env (cxOf (L2.CX P w) P w K mg base N_Canon__eq_ "Canon.__eq__" (defScope s_Canon__eq_) (He.fAd K d_Canon__eq_.at_) cdv A outer s H E).xe := passes_of rfl
  exact (sss_one (ss_ret' (se_and (se_isiC rfl fx.g_Canon (isiOk fx (C := 9) (by decide)) rfl fx.f_isinstance (se_var 1)) (se_and (se_cmp (eqoE_sound c.co (eqt fx) c.ro) (se_fld (ok := ok_book) (k := 13) (se_var 0) rfl (hok_book fx)) (se_fld (ok := ok_book) (k := 13) (se_var 1) rfl (hok_book fx))) (se_and (se_cmp (eqoE_sound c.co (eqt fx) c.ro) (se_fld (ok := ok_letters) (k := 9) (se_var 0) rfl (hok_letters fx)) (se_fld (ok := ok_letters) (k := 9) (se_var 1) rfl (hok_letters fx))) (se_one (se_cmp (eqoE_sound c.co (eqt fx) c.ro) (se_fld (ok := ok_unknowns) (k := 10) (se_var 0) rfl (hok_unknowns fx)) (se_fld (ok := ok_unknowns) (k := 10) (se_var 1) rfl (hok_unknowns fx)))))))))
theorem b_Canon__eq_ (fx : Fx K mg fd) : BodyOk P w K mg base (ct K) (fns K fd) ⟨He.fAd K d_Canon__eq_.at_, fd 15, ["self", "other"]⟩ ⟨2, 2, false, m_Canon__eq_⟩ :=
  ⟨_, "Canon.__eq__", _, _, _, _, _, N_Canon__eq_, fx.D_Canon__eq_, sc_Canon__eq_, rfl, rfl, by decide, fun call n co cdv A outer s H E hr => t_Canon__eq_ fx call n cdv A outer s H E ⟨co, hr⟩⟩
abbrev N_Settled__init_ : List Str := ["self", "told", "letters", "unknowns", "spares"]
theorem sc_Settled__init_ : FnScope N_Settled__init_ ["self", "told", "letters", "unknowns", "spares"] (defScope s_Settled__init_) := ⟨by kernel_rfl, by kernel_rfl, by kernel_rfl, by decide +kernel, rfl, by decide +kernel, by decide +kernel⟩
theorem t_Settled__init_ (fx : Fx K mg fd) (call : CallT) (n : Nat) (cdv : Value) (A : Around) (outer : List Env) (s : Shared) (H : Hp) (E : XK) (c : Cq (cxOf (L2.CX P w) P w K mg base N_Settled__init_ "Settled.__init__" (defScope s_Settled__init_) (He.fAd K d_Settled__init_.at_) cdv A outer s H E) (ct K) (fns K fd) call n) :
    SSs (cxOf (L2.CX P w) P w K mg base N_Settled__init_ "Settled.__init__" (defScope s_Settled__init_) (He.fAd K d_Settled__init_.at_) cdv A outer s H E) (ct K) (fun c d _ H' => E c d H') (defBody s_Settled__init_) (m_Settled__init_ call) := by
  have tk : Takes (cxOf (L2.CX P w) P w K mg base N_Settled__init_ "Settled.__init__" (defScope s_Settled__init_) (He.fAd K d_Settled__init_.at_) cdv A outer s H E) (fun cls d _ H' => E cls d H') := takes_of rfl rfl rfl rfl
  have nd := sc_Settled__init_.nd
  have po : PassesOwn (model P w) (cxOf (L2.CX P w) P w K mg base N_Settled__init_ "Settled.__init__" (defScope s_Settled__init_) (He.fAd K d_Settled__init_.at_) cdv A outer s H E).A (cxOf (L2.CX P w) P w K mg base N_Settled__init_ "Settled.__init__" (defScope s_Settled__init_) (He.fAd K d_Settled__init_.at_) cdv A outer s H E).env (cxOf (L2.CX P w) P w K mg base N_Settled__init_ "Settled.__init__" (defScope s_Settled__init_) (He.fAd K d_Settled__init_.at_) cdv A outer s H E).xe := passes_of rfl
  exact (sss_cons (ss_fld (ok := ok_told) (k := 8) (se_var 0) (se_var 1) rfl (hok_told fx))
      (sss_cons (ss_fld (ok := ok_letters) (k := 9) (se_var 0) (se_var 2) rfl (hok_letters fx))
      (sss_cons (ss_fld (ok := ok_unknowns) (k := 10) (se_var 0) (se_var 3) rfl (hok_unknowns fx))
      (sss_one (ss_fld (ok := ok_spares) (k := 11) (se_var 0) (se_var 4) rfl (hok_spares fx))))))
theorem b_Settled__init_ (fx : Fx K mg fd) : BodyOk P w K mg base (ct K) (fns K fd) ⟨He.fAd K d_Settled__init_.at_, fd 16, ["self", "told", "letters", "unknowns", "spares"]⟩ ⟨5, 5, false, m_Settled__init_⟩ :=
  ⟨_, "Settled.__init__", _, _, _, _, _, N_Settled__init_, fx.D_Settled__init_, sc_Settled__init_, rfl, rfl, by decide, fun call n co cdv A outer s H E hr => t_Settled__init_ fx call n cdv A outer s H E ⟨co, hr⟩⟩
abbrev N_Settled__eq_ : List Str := ["self", "other"]
theorem sc_Settled__eq_ : FnScope N_Settled__eq_ ["self", "other"] (defScope s_Settled__eq_) := ⟨by kernel_rfl, by kernel_rfl, by kernel_rfl, by decide +kernel, rfl, by decide +kernel, by decide +kernel⟩
theorem t_Settled__eq_ (fx : Fx K mg fd) (call : CallT) (n : Nat) (cdv : Value) (A : Around) (outer : List Env) (s : Shared) (H : Hp) (E : XK) (c : Cq (cxOf (L2.CX P w) P w K mg base N_Settled__eq_ "Settled.__eq__" (defScope s_Settled__eq_) (He.fAd K d_Settled__eq_.at_) cdv A outer s H E) (ct K) (fns K fd) call n) :
    SSs (cxOf (L2.CX P w) P w K mg base N_Settled__eq_ "Settled.__eq__" (defScope s_Settled__eq_) (He.fAd K d_Settled__eq_.at_) cdv A outer s H E) (ct K) (fun c d _ H' => E c d H') (defBody s_Settled__eq_) (m_Settled__eq_ call) := by
  have tk : Takes (cxOf (L2.CX P w) P w K mg base N_Settled__eq_ "Settled.__eq__" (defScope s_Settled__eq_) (He.fAd K d_Settled__eq_.at_) cdv A outer s H E) (fun cls d _ H' => E cls d H') := takes_of rfl rfl rfl rfl
  have nd := sc_Settled__eq_.nd
  have po : PassesOwn (model P w) (cxOf (L2.CX P w) P w K mg base N_Settled__eq_ "Settled.__eq__" (defScope s_Settled__eq_) (He.fAd K d_Settled__eq_.at_) cdv A outer s H E).A (cxOf (L2.CX P w) P w K mg base N_Settled__eq_ "Settled.__eq__" (defScope s_Settled__eq_) (He.fAd K d_Settled__eq_.at_) cdv A outer s H E).env (cxOf (L2.CX P w) P w K mg base N_Settled__eq_ "Settled.__eq__" (defScope s_Settled__eq_) (He.fAd K d_Settled__eq_.at_) cdv A outer s H E).xe := passes_of rfl
  exact (sss_one (ss_ret' (se_and (se_isiC rfl fx.g_Settled (isiOk fx (C := 10) (by decide)) rfl fx.f_isinstance (se_var 1)) (se_and (se_cmp (eqoE_sound c.co (eqt fx) c.ro) (se_fld (ok := ok_told) (k := 8) (se_var 0) rfl (hok_told fx)) (se_fld (ok := ok_told) (k := 8) (se_var 1) rfl (hok_told fx))) (se_and (se_cmp (eqoE_sound c.co (eqt fx) c.ro) (se_fld (ok := ok_letters) (k := 9) (se_var 0) rfl (hok_letters fx)) (se_fld (ok := ok_letters) (k := 9) (se_var 1) rfl (hok_letters fx))) (se_and (se_cmp (eqoE_sound c.co (eqt fx) c.ro) (se_fld (ok := ok_unknowns) (k := 10) (se_var 0) rfl (hok_unknowns fx)) (se_fld (ok := ok_unknowns) (k := 10) (se_var 1) rfl (hok_unknowns fx))) (se_one (se_cmp (eqoE_sound c.co (eqt fx) c.ro) (se_fld (ok := ok_spares) (k := 11) (se_var 0) rfl (hok_spares fx)) (se_fld (ok := ok_spares) (k := 11) (se_var 1) rfl (hok_spares fx))))))))))
theorem b_Settled__eq_ (fx : Fx K mg fd) : BodyOk P w K mg base (ct K) (fns K fd) ⟨He.fAd K d_Settled__eq_.at_, fd 17, ["self", "other"]⟩ ⟨2, 2, false, m_Settled__eq_⟩ :=
  ⟨_, "Settled.__eq__", _, _, _, _, _, N_Settled__eq_, fx.D_Settled__eq_, sc_Settled__eq_, rfl, rfl, by decide, fun call n co cdv A outer s H E hr => t_Settled__eq_ fx call n cdv A outer s H E ⟨co, hr⟩⟩
abbrev N_Shape__init_ : List Str := ["self", "front", "stays", "back", "ends"]
theorem sc_Shape__init_ : FnScope N_Shape__init_ ["self", "front", "stays", "back", "ends"] (defScope s_Shape__init_) := ⟨by kernel_rfl, by kernel_rfl, by kernel_rfl, by decide +kernel, rfl, by decide +kernel, by decide +kernel⟩
theorem t_Shape__init_ (fx : Fx K mg fd) (call : CallT) (n : Nat) (cdv : Value) (A : Around) (outer : List Env) (s : Shared) (H : Hp) (E : XK) (c : Cq (cxOf (L2.CX P w) P w K mg base N_Shape__init_ "Shape.__init__" (defScope s_Shape__init_) (He.fAd K d_Shape__init_.at_) cdv A outer s H E) (ct K) (fns K fd) call n) :
    SSs (cxOf (L2.CX P w) P w K mg base N_Shape__init_ "Shape.__init__" (defScope s_Shape__init_) (He.fAd K d_Shape__init_.at_) cdv A outer s H E) (ct K) (fun c d _ H' => E c d H') (defBody s_Shape__init_) (m_Shape__init_ call) := by
  have tk : Takes (cxOf (L2.CX P w) P w K mg base N_Shape__init_ "Shape.__init__" (defScope s_Shape__init_) (He.fAd K d_Shape__init_.at_) cdv A outer s H E) (fun cls d _ H' => E cls d H') := takes_of rfl rfl rfl rfl
  have nd := sc_Shape__init_.nd
  have po : PassesOwn (model P w) (cxOf (L2.CX P w) P w K mg base N_Shape__init_ "Shape.__init__" (defScope s_Shape__init_) (He.fAd K d_Shape__init_.at_) cdv A outer s H E).A (cxOf (L2.CX P w) P w K mg base N_Shape__init_ "Shape.__init__" (defScope s_Shape__init_) (He.fAd K d_Shape__init_.at_) cdv A outer s H E).env (cxOf (L2.CX P w) P w K mg base N_Shape__init_ "Shape.__init__" (defScope s_Shape__init_) (He.fAd K d_Shape__init_.at_) cdv A outer s H E).xe := passes_of rfl
  exact (sss_cons (ss_fld (ok := ok_front) (k := 14) (se_var 0) (se_var 1) rfl (hok_front fx))
      (sss_cons (ss_fld (ok := ok_stays) (k := 15) (se_var 0) (se_var 2) rfl (hok_stays fx))
      (sss_cons (ss_fld (ok := ok_back) (k := 16) (se_var 0) (se_var 3) rfl (hok_back fx))
      (sss_one (ss_fld (ok := ok_ends) (k := 1) (se_var 0) (se_var 4) rfl (hok_ends fx))))))
theorem b_Shape__init_ (fx : Fx K mg fd) : BodyOk P w K mg base (ct K) (fns K fd) ⟨He.fAd K d_Shape__init_.at_, fd 18, ["self", "front", "stays", "back", "ends"]⟩ ⟨5, 5, false, m_Shape__init_⟩ :=
  ⟨_, "Shape.__init__", _, _, _, _, _, N_Shape__init_, fx.D_Shape__init_, sc_Shape__init_, rfl, rfl, by decide, fun call n co cdv A outer s H E hr => t_Shape__init_ fx call n cdv A outer s H E ⟨co, hr⟩⟩
abbrev N_Shape__eq_ : List Str := ["self", "other"]
theorem sc_Shape__eq_ : FnScope N_Shape__eq_ ["self", "other"] (defScope s_Shape__eq_) := ⟨by kernel_rfl, by kernel_rfl, by kernel_rfl, by decide +kernel, rfl, by decide +kernel, by decide +kernel⟩
theorem t_Shape__eq_ (fx : Fx K mg fd) (call : CallT) (n : Nat) (cdv : Value) (A : Around) (outer : List Env) (s : Shared) (H : Hp) (E : XK) (c : Cq (cxOf (L2.CX P w) P w K mg base N_Shape__eq_ "Shape.__eq__" (defScope s_Shape__eq_) (He.fAd K d_Shape__eq_.at_) cdv A outer s H E) (ct K) (fns K fd) call n) :
    SSs (cxOf (L2.CX P w) P w K mg base N_Shape__eq_ "Shape.__eq__" (defScope s_Shape__eq_) (He.fAd K d_Shape__eq_.at_) cdv A outer s H E) (ct K) (fun c d _ H' => E c d H') (defBody s_Shape__eq_) (m_Shape__eq_ call) := by
  have tk : Takes (cxOf (L2.CX P w) P w K mg base N_Shape__eq_ "Shape.__eq__" (defScope s_Shape__eq_) (He.fAd K d_Shape__eq_.at_) cdv A outer s H E) (fun cls d _ H' => E cls d H') := takes_of rfl rfl rfl rfl
  have nd := sc_Shape__eq_.nd
  have po : PassesOwn (model P w) (cxOf (L2.CX P w) P w K mg base N_Shape__eq_ "Shape.__eq__" (defScope s_Shape__eq_) (He.fAd K d_Shape__eq_.at_) cdv A outer s H E).A (cxOf (L2.CX P w) P w K mg base N_Shape__eq_ "Shape.__eq__" (defScope s_Shape__eq_) (He.fAd K d_Shape__eq_.at_) cdv A outer s H E).env (cxOf (L2.CX P w) P w K mg base N_Shape__eq_ "Shape.__eq__" (defScope s_Shape__eq_) (He.fAd K d_Shape__eq_.at_) cdv A outer s H E).xe := passes_of rfl
  exact (sss_one (ss_ret' (se_and (se_isiC rfl fx.g_Shape (isiOk fx (C := 11) (by decide)) rfl fx.f_isinstance (se_var 1)) (se_and (se_cmp (eqoE_sound c.co (eqt fx) c.ro) (se_fld (ok := ok_front) (k := 14) (se_var 0) rfl (hok_front fx)) (se_fld (ok := ok_front) (k := 14) (se_var 1) rfl (hok_front fx))) (se_and (se_cmp (eqoE_sound c.co (eqt fx) c.ro) (se_fld (ok := ok_stays) (k := 15) (se_var 0) rfl (hok_stays fx)) (se_fld (ok := ok_stays) (k := 15) (se_var 1) rfl (hok_stays fx))) (se_and (se_cmp (eqoE_sound c.co (eqt fx) c.ro) (se_fld (ok := ok_back) (k := 16) (se_var 0) rfl (hok_back fx)) (se_fld (ok := ok_back) (k := 16) (se_var 1) rfl (hok_back fx))) (se_one (se_cmp (eqoE_sound c.co (eqt fx) c.ro) (se_fld (ok := ok_ends) (k := 1) (se_var 0) rfl (hok_ends fx)) (se_fld (ok := ok_ends) (k := 1) (se_var 1) rfl (hok_ends fx))))))))))
theorem b_Shape__eq_ (fx : Fx K mg fd) : BodyOk P w K mg base (ct K) (fns K fd) ⟨He.fAd K d_Shape__eq_.at_, fd 19, ["self", "other"]⟩ ⟨2, 2, false, m_Shape__eq_⟩ :=
  ⟨_, "Shape.__eq__", _, _, _, _, _, N_Shape__eq_, fx.D_Shape__eq_, sc_Shape__eq_, rfl, rfl, by decide, fun call n co cdv A outer s H E hr => t_Shape__eq_ fx call n cdv A outer s H E ⟨co, hr⟩⟩
abbrev N_Answer__init_ : List Str := ["self", "numbers"]
theorem sc_Answer__init_ : FnScope N_Answer__init_ ["self", "numbers"] (defScope s_Answer__init_) := ⟨by kernel_rfl, by kernel_rfl, by kernel_rfl, by decide +kernel, rfl, by decide +kernel, by decide +kernel⟩
theorem t_Answer__init_ (fx : Fx K mg fd) (call : CallT) (n : Nat) (cdv : Value) (A : Around) (outer : List Env) (s : Shared) (H : Hp) (E : XK) (c : Cq (cxOf (L2.CX P w) P w K mg base N_Answer__init_ "Answer.__init__" (defScope s_Answer__init_) (He.fAd K d_Answer__init_.at_) cdv A outer s H E) (ct K) (fns K fd) call n) :
    SSs (cxOf (L2.CX P w) P w K mg base N_Answer__init_ "Answer.__init__" (defScope s_Answer__init_) (He.fAd K d_Answer__init_.at_) cdv A outer s H E) (ct K) (fun c d _ H' => E c d H') (defBody s_Answer__init_) (m_Answer__init_ call) := by
  have tk : Takes (cxOf (L2.CX P w) P w K mg base N_Answer__init_ "Answer.__init__" (defScope s_Answer__init_) (He.fAd K d_Answer__init_.at_) cdv A outer s H E) (fun cls d _ H' => E cls d H') := takes_of rfl rfl rfl rfl
  have nd := sc_Answer__init_.nd
  have po : PassesOwn (model P w) (cxOf (L2.CX P w) P w K mg base N_Answer__init_ "Answer.__init__" (defScope s_Answer__init_) (He.fAd K d_Answer__init_.at_) cdv A outer s H E).A (cxOf (L2.CX P w) P w K mg base N_Answer__init_ "Answer.__init__" (defScope s_Answer__init_) (He.fAd K d_Answer__init_.at_) cdv A outer s H E).env (cxOf (L2.CX P w) P w K mg base N_Answer__init_ "Answer.__init__" (defScope s_Answer__init_) (He.fAd K d_Answer__init_.at_) cdv A outer s H E).xe := passes_of rfl
  exact (sss_one (ss_fld (ok := ok_numbers) (k := 17) (se_var 0) (se_var 1) rfl (hok_numbers fx)))
theorem b_Answer__init_ (fx : Fx K mg fd) : BodyOk P w K mg base (ct K) (fns K fd) ⟨He.fAd K d_Answer__init_.at_, fd 20, ["self", "numbers"]⟩ ⟨2, 2, false, m_Answer__init_⟩ :=
  ⟨_, "Answer.__init__", _, _, _, _, _, N_Answer__init_, fx.D_Answer__init_, sc_Answer__init_, rfl, rfl, by decide, fun call n co cdv A outer s H E hr => t_Answer__init_ fx call n cdv A outer s H E ⟨co, hr⟩⟩
abbrev N_Answer__eq_ : List Str := ["self", "other"]
theorem sc_Answer__eq_ : FnScope N_Answer__eq_ ["self", "other"] (defScope s_Answer__eq_) := ⟨by kernel_rfl, by kernel_rfl, by kernel_rfl, by decide +kernel, rfl, by decide +kernel, by decide +kernel⟩
theorem t_Answer__eq_ (fx : Fx K mg fd) (call : CallT) (n : Nat) (cdv : Value) (A : Around) (outer : List Env) (s : Shared) (H : Hp) (E : XK) (c : Cq (cxOf (L2.CX P w) P w K mg base N_Answer__eq_ "Answer.__eq__" (defScope s_Answer__eq_) (He.fAd K d_Answer__eq_.at_) cdv A outer s H E) (ct K) (fns K fd) call n) :
    SSs (cxOf (L2.CX P w) P w K mg base N_Answer__eq_ "Answer.__eq__" (defScope s_Answer__eq_) (He.fAd K d_Answer__eq_.at_) cdv A outer s H E) (ct K) (fun c d _ H' => E c d H') (defBody s_Answer__eq_) (m_Answer__eq_ call) := by
  have tk : Takes (cxOf (L2.CX P w) P w K mg base N_Answer__eq_ "Answer.__eq__" (defScope s_Answer__eq_) (He.fAd K d_Answer__eq_.at_) cdv A outer s H E) (fun cls d _ H' => E cls d H') := takes_of rfl rfl rfl rfl
  have nd := sc_Answer__eq_.nd
  have po : PassesOwn (model P w) (cxOf (L2.CX P w) P w K mg base N_Answer__eq_ "Answer.__eq__" (defScope s_Answer__eq_) (He.fAd K d_Answer__eq_.at_) cdv A outer s H E).A (cxOf (L2.CX P w) P w K mg base N_Answer__eq_ "Answer.__eq__" (defScope s_Answer__eq_) (He.fAd K d_Answer__eq_.at_) cdv A outer s H E).env (cxOf (L2.CX P w) P w K mg base N_Answer__eq_ "Answer.__eq__" (defScope s_Answer__eq_) (He.fAd K d_Answer__eq_.at_) cdv A outer s H E).xe := passes_of rfl
  exact (sss_one (ss_ret' (se_and (se_isiC rfl fx.g_Answer (isiOk fx (C := 12) (by decide)) rfl fx.f_isinstance (se_var 1)) (se_one (se_cmp (eqoE_sound c.co (eqt fx) c.ro) (se_fld (ok := ok_numbers) (k := 17) (se_var 0) rfl (hok_numbers fx)) (se_fld (ok := ok_numbers) (k := 17) (se_var 1) rfl (hok_numbers fx)))))))
theorem b_Answer__eq_ (fx : Fx K mg fd) : BodyOk P w K mg base (ct K) (fns K fd) ⟨He.fAd K d_Answer__eq_.at_, fd 21, ["self", "other"]⟩ ⟨2, 2, false, m_Answer__eq_⟩ :=
  ⟨_, "Answer.__eq__", _, _, _, _, _, N_Answer__eq_, fx.D_Answer__eq_, sc_Answer__eq_, rfl, rfl, by decide, fun call n co cdv A outer s H E hr => t_Answer__eq_ fx call n cdv A outer s H E ⟨co, hr⟩⟩
abbrev N_Carries__init_ : List Str := ["self", "rows"]
theorem sc_Carries__init_ : FnScope N_Carries__init_ ["self", "rows"] (defScope s_Carries__init_) := ⟨by kernel_rfl, by kernel_rfl, by kernel_rfl, by decide +kernel, rfl, by decide +kernel, by decide +kernel⟩
theorem t_Carries__init_ (fx : Fx K mg fd) (call : CallT) (n : Nat) (cdv : Value) (A : Around) (outer : List Env) (s : Shared) (H : Hp) (E : XK) (c : Cq (cxOf (L2.CX P w) P w K mg base N_Carries__init_ "Carries.__init__" (defScope s_Carries__init_) (He.fAd K d_Carries__init_.at_) cdv A outer s H E) (ct K) (fns K fd) call n) :
    SSs (cxOf (L2.CX P w) P w K mg base N_Carries__init_ "Carries.__init__" (defScope s_Carries__init_) (He.fAd K d_Carries__init_.at_) cdv A outer s H E) (ct K) (fun c d _ H' => E c d H') (defBody s_Carries__init_) (m_Carries__init_ call) := by
  have tk : Takes (cxOf (L2.CX P w) P w K mg base N_Carries__init_ "Carries.__init__" (defScope s_Carries__init_) (He.fAd K d_Carries__init_.at_) cdv A outer s H E) (fun cls d _ H' => E cls d H') := takes_of rfl rfl rfl rfl
  have nd := sc_Carries__init_.nd
  have po : PassesOwn (model P w) (cxOf (L2.CX P w) P w K mg base N_Carries__init_ "Carries.__init__" (defScope s_Carries__init_) (He.fAd K d_Carries__init_.at_) cdv A outer s H E).A (cxOf (L2.CX P w) P w K mg base N_Carries__init_ "Carries.__init__" (defScope s_Carries__init_) (He.fAd K d_Carries__init_.at_) cdv A outer s H E).env (cxOf (L2.CX P w) P w K mg base N_Carries__init_ "Carries.__init__" (defScope s_Carries__init_) (He.fAd K d_Carries__init_.at_) cdv A outer s H E).xe := passes_of rfl
  exact (sss_one (ss_fld (ok := ok_rows) (k := 2) (se_var 0) (se_var 1) rfl (hok_rows fx)))
theorem b_Carries__init_ (fx : Fx K mg fd) : BodyOk P w K mg base (ct K) (fns K fd) ⟨He.fAd K d_Carries__init_.at_, fd 22, ["self", "rows"]⟩ ⟨2, 2, false, m_Carries__init_⟩ :=
  ⟨_, "Carries.__init__", _, _, _, _, _, N_Carries__init_, fx.D_Carries__init_, sc_Carries__init_, rfl, rfl, by decide, fun call n co cdv A outer s H E hr => t_Carries__init_ fx call n cdv A outer s H E ⟨co, hr⟩⟩
abbrev N_Carries__eq_ : List Str := ["self", "other"]
theorem sc_Carries__eq_ : FnScope N_Carries__eq_ ["self", "other"] (defScope s_Carries__eq_) := ⟨by kernel_rfl, by kernel_rfl, by kernel_rfl, by decide +kernel, rfl, by decide +kernel, by decide +kernel⟩
theorem t_Carries__eq_ (fx : Fx K mg fd) (call : CallT) (n : Nat) (cdv : Value) (A : Around) (outer : List Env) (s : Shared) (H : Hp) (E : XK) (c : Cq (cxOf (L2.CX P w) P w K mg base N_Carries__eq_ "Carries.__eq__" (defScope s_Carries__eq_) (He.fAd K d_Carries__eq_.at_) cdv A outer s H E) (ct K) (fns K fd) call n) :
    SSs (cxOf (L2.CX P w) P w K mg base N_Carries__eq_ "Carries.__eq__" (defScope s_Carries__eq_) (He.fAd K d_Carries__eq_.at_) cdv A outer s H E) (ct K) (fun c d _ H' => E c d H') (defBody s_Carries__eq_) (m_Carries__eq_ call) := by
  have tk : Takes (cxOf (L2.CX P w) P w K mg base N_Carries__eq_ "Carries.__eq__" (defScope s_Carries__eq_) (He.fAd K d_Carries__eq_.at_) cdv A outer s H E) (fun cls d _ H' => E cls d H') := takes_of rfl rfl rfl rfl
  have nd := sc_Carries__eq_.nd
  have po : PassesOwn (model P w) (cxOf (L2.CX P w) P w K mg base N_Carries__eq_ "Carries.__eq__" (defScope s_Carries__eq_) (He.fAd K d_Carries__eq_.at_) cdv A outer s H E).A (cxOf (L2.CX P w) P w K mg base N_Carries__eq_ "Carries.__eq__" (defScope s_Carries__eq_) (He.fAd K d_Carries__eq_.at_) cdv A outer s H E).env (cxOf (L2.CX P w) P w K mg base N_Carries__eq_ "Carries.__eq__" (defScope s_Carries__eq_) (He.fAd K d_Carries__eq_.at_) cdv A outer s H E).xe := passes_of rfl
  exact (sss_one (ss_ret' (se_and (se_isiC rfl fx.g_Carries (isiOk fx (C := 13) (by decide)) rfl fx.f_isinstance (se_var 1)) (se_one (se_cmp (eqoE_sound c.co (eqt fx) c.ro) (se_fld (ok := ok_rows) (k := 2) (se_var 0) rfl (hok_rows fx)) (se_fld (ok := ok_rows) (k := 2) (se_var 1) rfl (hok_rows fx)))))))
theorem b_Carries__eq_ (fx : Fx K mg fd) : BodyOk P w K mg base (ct K) (fns K fd) ⟨He.fAd K d_Carries__eq_.at_, fd 23, ["self", "other"]⟩ ⟨2, 2, false, m_Carries__eq_⟩ :=
  ⟨_, "Carries.__eq__", _, _, _, _, _, N_Carries__eq_, fx.D_Carries__eq_, sc_Carries__eq_, rfl, rfl, by decide, fun call n co cdv A outer s H E hr => t_Carries__eq_ fx call n cdv A outer s H E ⟨co, hr⟩⟩
abbrev N_Case__init_ : List Str := ["self", "rows", "sets", "full"]
theorem sc_Case__init_ : FnScope N_Case__init_ ["self", "rows", "sets", "full"] (defScope s_Case__init_) := ⟨by kernel_rfl, by kernel_rfl, by kernel_rfl, by decide +kernel, rfl, by decide +kernel, by decide +kernel⟩
theorem t_Case__init_ (fx : Fx K mg fd) (call : CallT) (n : Nat) (cdv : Value) (A : Around) (outer : List Env) (s : Shared) (H : Hp) (E : XK) (c : Cq (cxOf (L2.CX P w) P w K mg base N_Case__init_ "Case.__init__" (defScope s_Case__init_) (He.fAd K d_Case__init_.at_) cdv A outer s H E) (ct K) (fns K fd) call n) :
    SSs (cxOf (L2.CX P w) P w K mg base N_Case__init_ "Case.__init__" (defScope s_Case__init_) (He.fAd K d_Case__init_.at_) cdv A outer s H E) (ct K) (fun c d _ H' => E c d H') (defBody s_Case__init_) (m_Case__init_ call) := by
  have tk : Takes (cxOf (L2.CX P w) P w K mg base N_Case__init_ "Case.__init__" (defScope s_Case__init_) (He.fAd K d_Case__init_.at_) cdv A outer s H E) (fun cls d _ H' => E cls d H') := takes_of rfl rfl rfl rfl
  have nd := sc_Case__init_.nd
  have po : PassesOwn (model P w) (cxOf (L2.CX P w) P w K mg base N_Case__init_ "Case.__init__" (defScope s_Case__init_) (He.fAd K d_Case__init_.at_) cdv A outer s H E).A (cxOf (L2.CX P w) P w K mg base N_Case__init_ "Case.__init__" (defScope s_Case__init_) (He.fAd K d_Case__init_.at_) cdv A outer s H E).env (cxOf (L2.CX P w) P w K mg base N_Case__init_ "Case.__init__" (defScope s_Case__init_) (He.fAd K d_Case__init_.at_) cdv A outer s H E).xe := passes_of rfl
  exact (sss_cons (ss_fld (ok := ok_rows) (k := 2) (se_var 0) (se_var 1) rfl (hok_rows fx))
      (sss_cons (ss_fld (ok := ok_sets) (k := 18) (se_var 0) (se_var 2) rfl (hok_sets fx))
      (sss_one (ss_fld (ok := ok_full) (k := 19) (se_var 0) (se_var 3) rfl (hok_full fx)))))
theorem b_Case__init_ (fx : Fx K mg fd) : BodyOk P w K mg base (ct K) (fns K fd) ⟨He.fAd K d_Case__init_.at_, fd 24, ["self", "rows", "sets", "full"]⟩ ⟨4, 4, false, m_Case__init_⟩ :=
  ⟨_, "Case.__init__", _, _, _, _, _, N_Case__init_, fx.D_Case__init_, sc_Case__init_, rfl, rfl, by decide, fun call n co cdv A outer s H E hr => t_Case__init_ fx call n cdv A outer s H E ⟨co, hr⟩⟩
abbrev N_Case__eq_ : List Str := ["self", "other"]
theorem sc_Case__eq_ : FnScope N_Case__eq_ ["self", "other"] (defScope s_Case__eq_) := ⟨by kernel_rfl, by kernel_rfl, by kernel_rfl, by decide +kernel, rfl, by decide +kernel, by decide +kernel⟩
theorem t_Case__eq_ (fx : Fx K mg fd) (call : CallT) (n : Nat) (cdv : Value) (A : Around) (outer : List Env) (s : Shared) (H : Hp) (E : XK) (c : Cq (cxOf (L2.CX P w) P w K mg base N_Case__eq_ "Case.__eq__" (defScope s_Case__eq_) (He.fAd K d_Case__eq_.at_) cdv A outer s H E) (ct K) (fns K fd) call n) :
    SSs (cxOf (L2.CX P w) P w K mg base N_Case__eq_ "Case.__eq__" (defScope s_Case__eq_) (He.fAd K d_Case__eq_.at_) cdv A outer s H E) (ct K) (fun c d _ H' => E c d H') (defBody s_Case__eq_) (m_Case__eq_ call) := by
  have tk : Takes (cxOf (L2.CX P w) P w K mg base N_Case__eq_ "Case.__eq__" (defScope s_Case__eq_) (He.fAd K d_Case__eq_.at_) cdv A outer s H E) (fun cls d _ H' => E cls d H') := takes_of rfl rfl rfl rfl
  have nd := sc_Case__eq_.nd
  have po : PassesOwn (model P w) (cxOf (L2.CX P w) P w K mg base N_Case__eq_ "Case.__eq__" (defScope s_Case__eq_) (He.fAd K d_Case__eq_.at_) cdv A outer s H E).A (cxOf (L2.CX P w) P w K mg base N_Case__eq_ "Case.__eq__" (defScope s_Case__eq_) (He.fAd K d_Case__eq_.at_) cdv A outer s H E).env (cxOf (L2.CX P w) P w K mg base N_Case__eq_ "Case.__eq__" (defScope s_Case__eq_) (He.fAd K d_Case__eq_.at_) cdv A outer s H E).xe := passes_of rfl
  exact (sss_one (ss_ret' (se_and (se_isiC rfl fx.g_Case (isiOk fx (C := 14) (by decide)) rfl fx.f_isinstance (se_var 1)) (se_and (se_cmp (eqoE_sound c.co (eqt fx) c.ro) (se_fld (ok := ok_rows) (k := 2) (se_var 0) rfl (hok_rows fx)) (se_fld (ok := ok_rows) (k := 2) (se_var 1) rfl (hok_rows fx))) (se_and (se_cmp (eqoE_sound c.co (eqt fx) c.ro) (se_fld (ok := ok_sets) (k := 18) (se_var 0) rfl (hok_sets fx)) (se_fld (ok := ok_sets) (k := 18) (se_var 1) rfl (hok_sets fx))) (se_one (se_cmp (eqoE_sound c.co (eqt fx) c.ro) (se_fld (ok := ok_full) (k := 19) (se_var 0) rfl (hok_full fx)) (se_fld (ok := ok_full) (k := 19) (se_var 1) rfl (hok_full fx)))))))))
theorem b_Case__eq_ (fx : Fx K mg fd) : BodyOk P w K mg base (ct K) (fns K fd) ⟨He.fAd K d_Case__eq_.at_, fd 25, ["self", "other"]⟩ ⟨2, 2, false, m_Case__eq_⟩ :=
  ⟨_, "Case.__eq__", _, _, _, _, _, N_Case__eq_, fx.D_Case__eq_, sc_Case__eq_, rfl, rfl, by decide, fun call n co cdv A outer s H E hr => t_Case__eq_ fx call n cdv A outer s H E ⟨co, hr⟩⟩
abbrev N_Look__init_ : List Str := ["self", "step", "outcomes"]
theorem sc_Look__init_ : FnScope N_Look__init_ ["self", "step", "outcomes"] (defScope s_Look__init_) := ⟨by kernel_rfl, by kernel_rfl, by kernel_rfl, by decide +kernel, rfl, by decide +kernel, by decide +kernel⟩
theorem t_Look__init_ (fx : Fx K mg fd) (call : CallT) (n : Nat) (cdv : Value) (A : Around) (outer : List Env) (s : Shared) (H : Hp) (E : XK) (c : Cq (cxOf (L2.CX P w) P w K mg base N_Look__init_ "Look.__init__" (defScope s_Look__init_) (He.fAd K d_Look__init_.at_) cdv A outer s H E) (ct K) (fns K fd) call n) :
    SSs (cxOf (L2.CX P w) P w K mg base N_Look__init_ "Look.__init__" (defScope s_Look__init_) (He.fAd K d_Look__init_.at_) cdv A outer s H E) (ct K) (fun c d _ H' => E c d H') (defBody s_Look__init_) (m_Look__init_ call) := by
  have tk : Takes (cxOf (L2.CX P w) P w K mg base N_Look__init_ "Look.__init__" (defScope s_Look__init_) (He.fAd K d_Look__init_.at_) cdv A outer s H E) (fun cls d _ H' => E cls d H') := takes_of rfl rfl rfl rfl
  have nd := sc_Look__init_.nd
  have po : PassesOwn (model P w) (cxOf (L2.CX P w) P w K mg base N_Look__init_ "Look.__init__" (defScope s_Look__init_) (He.fAd K d_Look__init_.at_) cdv A outer s H E).A (cxOf (L2.CX P w) P w K mg base N_Look__init_ "Look.__init__" (defScope s_Look__init_) (He.fAd K d_Look__init_.at_) cdv A outer s H E).env (cxOf (L2.CX P w) P w K mg base N_Look__init_ "Look.__init__" (defScope s_Look__init_) (He.fAd K d_Look__init_.at_) cdv A outer s H E).xe := passes_of rfl
  exact (sss_cons (ss_fld (ok := ok_step) (k := 20) (se_var 0) (se_var 1) rfl (hok_step fx))
      (sss_one (ss_fld (ok := ok_outcomes) (k := 21) (se_var 0) (se_var 2) rfl (hok_outcomes fx))))
theorem b_Look__init_ (fx : Fx K mg fd) : BodyOk P w K mg base (ct K) (fns K fd) ⟨He.fAd K d_Look__init_.at_, fd 26, ["self", "step", "outcomes"]⟩ ⟨3, 3, false, m_Look__init_⟩ :=
  ⟨_, "Look.__init__", _, _, _, _, _, N_Look__init_, fx.D_Look__init_, sc_Look__init_, rfl, rfl, by decide, fun call n co cdv A outer s H E hr => t_Look__init_ fx call n cdv A outer s H E ⟨co, hr⟩⟩
abbrev N_Look__eq_ : List Str := ["self", "other"]
theorem sc_Look__eq_ : FnScope N_Look__eq_ ["self", "other"] (defScope s_Look__eq_) := ⟨by kernel_rfl, by kernel_rfl, by kernel_rfl, by decide +kernel, rfl, by decide +kernel, by decide +kernel⟩
theorem t_Look__eq_ (fx : Fx K mg fd) (call : CallT) (n : Nat) (cdv : Value) (A : Around) (outer : List Env) (s : Shared) (H : Hp) (E : XK) (c : Cq (cxOf (L2.CX P w) P w K mg base N_Look__eq_ "Look.__eq__" (defScope s_Look__eq_) (He.fAd K d_Look__eq_.at_) cdv A outer s H E) (ct K) (fns K fd) call n) :
    SSs (cxOf (L2.CX P w) P w K mg base N_Look__eq_ "Look.__eq__" (defScope s_Look__eq_) (He.fAd K d_Look__eq_.at_) cdv A outer s H E) (ct K) (fun c d _ H' => E c d H') (defBody s_Look__eq_) (m_Look__eq_ call) := by
  have tk : Takes (cxOf (L2.CX P w) P w K mg base N_Look__eq_ "Look.__eq__" (defScope s_Look__eq_) (He.fAd K d_Look__eq_.at_) cdv A outer s H E) (fun cls d _ H' => E cls d H') := takes_of rfl rfl rfl rfl
  have nd := sc_Look__eq_.nd
  have po : PassesOwn (model P w) (cxOf (L2.CX P w) P w K mg base N_Look__eq_ "Look.__eq__" (defScope s_Look__eq_) (He.fAd K d_Look__eq_.at_) cdv A outer s H E).A (cxOf (L2.CX P w) P w K mg base N_Look__eq_ "Look.__eq__" (defScope s_Look__eq_) (He.fAd K d_Look__eq_.at_) cdv A outer s H E).env (cxOf (L2.CX P w) P w K mg base N_Look__eq_ "Look.__eq__" (defScope s_Look__eq_) (He.fAd K d_Look__eq_.at_) cdv A outer s H E).xe := passes_of rfl
  exact (sss_one (ss_ret' (se_and (se_isiC rfl fx.g_Look (isiOk fx (C := 15) (by decide)) rfl fx.f_isinstance (se_var 1)) (se_and (se_cmp (eqoE_sound c.co (eqt fx) c.ro) (se_fld (ok := ok_step) (k := 20) (se_var 0) rfl (hok_step fx)) (se_fld (ok := ok_step) (k := 20) (se_var 1) rfl (hok_step fx))) (se_one (se_cmp (eqoE_sound c.co (eqt fx) c.ro) (se_fld (ok := ok_outcomes) (k := 21) (se_var 0) rfl (hok_outcomes fx)) (se_fld (ok := ok_outcomes) (k := 21) (se_var 1) rfl (hok_outcomes fx))))))))
theorem b_Look__eq_ (fx : Fx K mg fd) : BodyOk P w K mg base (ct K) (fns K fd) ⟨He.fAd K d_Look__eq_.at_, fd 27, ["self", "other"]⟩ ⟨2, 2, false, m_Look__eq_⟩ :=
  ⟨_, "Look.__eq__", _, _, _, _, _, N_Look__eq_, fx.D_Look__eq_, sc_Look__eq_, rfl, rfl, by decide, fun call n co cdv A outer s H E hr => t_Look__eq_ fx call n cdv A outer s H E ⟨co, hr⟩⟩
abbrev N_Entry__init_ : List Str := ["self", "book", "step", "lots"]
theorem sc_Entry__init_ : FnScope N_Entry__init_ ["self", "book", "step", "lots"] (defScope s_Entry__init_) := ⟨by kernel_rfl, by kernel_rfl, by kernel_rfl, by decide +kernel, rfl, by decide +kernel, by decide +kernel⟩
theorem t_Entry__init_ (fx : Fx K mg fd) (call : CallT) (n : Nat) (cdv : Value) (A : Around) (outer : List Env) (s : Shared) (H : Hp) (E : XK) (c : Cq (cxOf (L2.CX P w) P w K mg base N_Entry__init_ "Entry.__init__" (defScope s_Entry__init_) (He.fAd K d_Entry__init_.at_) cdv A outer s H E) (ct K) (fns K fd) call n) :
    SSs (cxOf (L2.CX P w) P w K mg base N_Entry__init_ "Entry.__init__" (defScope s_Entry__init_) (He.fAd K d_Entry__init_.at_) cdv A outer s H E) (ct K) (fun c d _ H' => E c d H') (defBody s_Entry__init_) (m_Entry__init_ call) := by
  have tk : Takes (cxOf (L2.CX P w) P w K mg base N_Entry__init_ "Entry.__init__" (defScope s_Entry__init_) (He.fAd K d_Entry__init_.at_) cdv A outer s H E) (fun cls d _ H' => E cls d H') := takes_of rfl rfl rfl rfl
  have nd := sc_Entry__init_.nd
  have po : PassesOwn (model P w) (cxOf (L2.CX P w) P w K mg base N_Entry__init_ "Entry.__init__" (defScope s_Entry__init_) (He.fAd K d_Entry__init_.at_) cdv A outer s H E).A (cxOf (L2.CX P w) P w K mg base N_Entry__init_ "Entry.__init__" (defScope s_Entry__init_) (He.fAd K d_Entry__init_.at_) cdv A outer s H E).env (cxOf (L2.CX P w) P w K mg base N_Entry__init_ "Entry.__init__" (defScope s_Entry__init_) (He.fAd K d_Entry__init_.at_) cdv A outer s H E).xe := passes_of rfl
  exact (sss_cons (ss_fld (ok := ok_book) (k := 13) (se_var 0) (se_var 1) rfl (hok_book fx))
      (sss_cons (ss_fld (ok := ok_step) (k := 20) (se_var 0) (se_var 2) rfl (hok_step fx))
      (sss_one (ss_fld (ok := ok_lots) (k := 22) (se_var 0) (se_var 3) rfl (hok_lots fx)))))
theorem b_Entry__init_ (fx : Fx K mg fd) : BodyOk P w K mg base (ct K) (fns K fd) ⟨He.fAd K d_Entry__init_.at_, fd 28, ["self", "book", "step", "lots"]⟩ ⟨4, 4, false, m_Entry__init_⟩ :=
  ⟨_, "Entry.__init__", _, _, _, _, _, N_Entry__init_, fx.D_Entry__init_, sc_Entry__init_, rfl, rfl, by decide, fun call n co cdv A outer s H E hr => t_Entry__init_ fx call n cdv A outer s H E ⟨co, hr⟩⟩
abbrev N_Entry__eq_ : List Str := ["self", "other"]
theorem sc_Entry__eq_ : FnScope N_Entry__eq_ ["self", "other"] (defScope s_Entry__eq_) := ⟨by kernel_rfl, by kernel_rfl, by kernel_rfl, by decide +kernel, rfl, by decide +kernel, by decide +kernel⟩
theorem t_Entry__eq_ (fx : Fx K mg fd) (call : CallT) (n : Nat) (cdv : Value) (A : Around) (outer : List Env) (s : Shared) (H : Hp) (E : XK) (c : Cq (cxOf (L2.CX P w) P w K mg base N_Entry__eq_ "Entry.__eq__" (defScope s_Entry__eq_) (He.fAd K d_Entry__eq_.at_) cdv A outer s H E) (ct K) (fns K fd) call n) :
    SSs (cxOf (L2.CX P w) P w K mg base N_Entry__eq_ "Entry.__eq__" (defScope s_Entry__eq_) (He.fAd K d_Entry__eq_.at_) cdv A outer s H E) (ct K) (fun c d _ H' => E c d H') (defBody s_Entry__eq_) (m_Entry__eq_ call) := by
  have tk : Takes (cxOf (L2.CX P w) P w K mg base N_Entry__eq_ "Entry.__eq__" (defScope s_Entry__eq_) (He.fAd K d_Entry__eq_.at_) cdv A outer s H E) (fun cls d _ H' => E cls d H') := takes_of rfl rfl rfl rfl
  have nd := sc_Entry__eq_.nd
  have po : PassesOwn (model P w) (cxOf (L2.CX P w) P w K mg base N_Entry__eq_ "Entry.__eq__" (defScope s_Entry__eq_) (He.fAd K d_Entry__eq_.at_) cdv A outer s H E).A (cxOf (L2.CX P w) P w K mg base N_Entry__eq_ "Entry.__eq__" (defScope s_Entry__eq_) (He.fAd K d_Entry__eq_.at_) cdv A outer s H E).env (cxOf (L2.CX P w) P w K mg base N_Entry__eq_ "Entry.__eq__" (defScope s_Entry__eq_) (He.fAd K d_Entry__eq_.at_) cdv A outer s H E).xe := passes_of rfl
  exact (sss_one (ss_ret' (se_and (se_isiC rfl fx.g_Entry (isiOk fx (C := 16) (by decide)) rfl fx.f_isinstance (se_var 1)) (se_and (se_cmp (eqoE_sound c.co (eqt fx) c.ro) (se_fld (ok := ok_book) (k := 13) (se_var 0) rfl (hok_book fx)) (se_fld (ok := ok_book) (k := 13) (se_var 1) rfl (hok_book fx))) (se_and (se_cmp (eqoE_sound c.co (eqt fx) c.ro) (se_fld (ok := ok_step) (k := 20) (se_var 0) rfl (hok_step fx)) (se_fld (ok := ok_step) (k := 20) (se_var 1) rfl (hok_step fx))) (se_one (se_cmp (eqoE_sound c.co (eqt fx) c.ro) (se_fld (ok := ok_lots) (k := 22) (se_var 0) rfl (hok_lots fx)) (se_fld (ok := ok_lots) (k := 22) (se_var 1) rfl (hok_lots fx)))))))))
theorem b_Entry__eq_ (fx : Fx K mg fd) : BodyOk P w K mg base (ct K) (fns K fd) ⟨He.fAd K d_Entry__eq_.at_, fd 29, ["self", "other"]⟩ ⟨2, 2, false, m_Entry__eq_⟩ :=
  ⟨_, "Entry.__eq__", _, _, _, _, _, N_Entry__eq_, fx.D_Entry__eq_, sc_Entry__eq_, rfl, rfl, by decide, fun call n co cdv A outer s H E hr => t_Entry__eq_ fx call n cdv A outer s H E ⟨co, hr⟩⟩
abbrev N_Paper__init_ : List Str := ["self", "deeds", "entries"]
theorem sc_Paper__init_ : FnScope N_Paper__init_ ["self", "deeds", "entries"] (defScope s_Paper__init_) := ⟨by kernel_rfl, by kernel_rfl, by kernel_rfl, by decide +kernel, rfl, by decide +kernel, by decide +kernel⟩
theorem t_Paper__init_ (fx : Fx K mg fd) (call : CallT) (n : Nat) (cdv : Value) (A : Around) (outer : List Env) (s : Shared) (H : Hp) (E : XK) (c : Cq (cxOf (L2.CX P w) P w K mg base N_Paper__init_ "Paper.__init__" (defScope s_Paper__init_) (He.fAd K d_Paper__init_.at_) cdv A outer s H E) (ct K) (fns K fd) call n) :
    SSs (cxOf (L2.CX P w) P w K mg base N_Paper__init_ "Paper.__init__" (defScope s_Paper__init_) (He.fAd K d_Paper__init_.at_) cdv A outer s H E) (ct K) (fun c d _ H' => E c d H') (defBody s_Paper__init_) (m_Paper__init_ call) := by
  have tk : Takes (cxOf (L2.CX P w) P w K mg base N_Paper__init_ "Paper.__init__" (defScope s_Paper__init_) (He.fAd K d_Paper__init_.at_) cdv A outer s H E) (fun cls d _ H' => E cls d H') := takes_of rfl rfl rfl rfl
  have nd := sc_Paper__init_.nd
  have po : PassesOwn (model P w) (cxOf (L2.CX P w) P w K mg base N_Paper__init_ "Paper.__init__" (defScope s_Paper__init_) (He.fAd K d_Paper__init_.at_) cdv A outer s H E).A (cxOf (L2.CX P w) P w K mg base N_Paper__init_ "Paper.__init__" (defScope s_Paper__init_) (He.fAd K d_Paper__init_.at_) cdv A outer s H E).env (cxOf (L2.CX P w) P w K mg base N_Paper__init_ "Paper.__init__" (defScope s_Paper__init_) (He.fAd K d_Paper__init_.at_) cdv A outer s H E).xe := passes_of rfl
  exact (sss_cons (ss_fld (ok := ok_deeds) (k := 0) (se_var 0) (se_callTy tuple_sound rfl fx.f_tuple (by decide +kernel) (sa_cons (se_var 1) sa_nil)) rfl (hok_deeds fx))
      (sss_one (ss_fld (ok := ok_entries) (k := 23) (se_var 0) (se_callTy tuple_sound rfl fx.f_tuple (by decide +kernel) (sa_cons (se_var 2) sa_nil)) rfl (hok_entries fx))))
theorem b_Paper__init_ (fx : Fx K mg fd) : BodyOk P w K mg base (ct K) (fns K fd) ⟨He.fAd K d_Paper__init_.at_, fd 30, ["self", "deeds", "entries"]⟩ ⟨3, 3, false, m_Paper__init_⟩ :=
  ⟨_, "Paper.__init__", _, _, _, _, _, N_Paper__init_, fx.D_Paper__init_, sc_Paper__init_, rfl, rfl, by decide, fun call n co cdv A outer s H E hr => t_Paper__init_ fx call n cdv A outer s H E ⟨co, hr⟩⟩
abbrev N_Paper__eq_ : List Str := ["self", "other"]
theorem sc_Paper__eq_ : FnScope N_Paper__eq_ ["self", "other"] (defScope s_Paper__eq_) := ⟨by kernel_rfl, by kernel_rfl, by kernel_rfl, by decide +kernel, rfl, by decide +kernel, by decide +kernel⟩
theorem t_Paper__eq_ (fx : Fx K mg fd) (call : CallT) (n : Nat) (cdv : Value) (A : Around) (outer : List Env) (s : Shared) (H : Hp) (E : XK) (c : Cq (cxOf (L2.CX P w) P w K mg base N_Paper__eq_ "Paper.__eq__" (defScope s_Paper__eq_) (He.fAd K d_Paper__eq_.at_) cdv A outer s H E) (ct K) (fns K fd) call n) :
    SSs (cxOf (L2.CX P w) P w K mg base N_Paper__eq_ "Paper.__eq__" (defScope s_Paper__eq_) (He.fAd K d_Paper__eq_.at_) cdv A outer s H E) (ct K) (fun c d _ H' => E c d H') (defBody s_Paper__eq_) (m_Paper__eq_ call) := by
  have tk : Takes (cxOf (L2.CX P w) P w K mg base N_Paper__eq_ "Paper.__eq__" (defScope s_Paper__eq_) (He.fAd K d_Paper__eq_.at_) cdv A outer s H E) (fun cls d _ H' => E cls d H') := takes_of rfl rfl rfl rfl
  have nd := sc_Paper__eq_.nd
  have po : PassesOwn (model P w) (cxOf (L2.CX P w) P w K mg base N_Paper__eq_ "Paper.__eq__" (defScope s_Paper__eq_) (He.fAd K d_Paper__eq_.at_) cdv A outer s H E).A (cxOf (L2.CX P w) P w K mg base N_Paper__eq_ "Paper.__eq__" (defScope s_Paper__eq_) (He.fAd K d_Paper__eq_.at_) cdv A outer s H E).env (cxOf (L2.CX P w) P w K mg base N_Paper__eq_ "Paper.__eq__" (defScope s_Paper__eq_) (He.fAd K d_Paper__eq_.at_) cdv A outer s H E).xe := passes_of rfl
  exact (sss_one (ss_ret' (se_and (se_isiC rfl fx.g_Paper (isiOk fx (C := 17) (by decide)) rfl fx.f_isinstance (se_var 1)) (se_and (se_cmp (eqoE_sound c.co (eqt fx) c.ro) (se_fld (ok := ok_deeds) (k := 0) (se_var 0) rfl (hok_deeds fx)) (se_fld (ok := ok_deeds) (k := 0) (se_var 1) rfl (hok_deeds fx))) (se_one (se_cmp (eqoE_sound c.co (eqt fx) c.ro) (se_fld (ok := ok_entries) (k := 23) (se_var 0) rfl (hok_entries fx)) (se_fld (ok := ok_entries) (k := 23) (se_var 1) rfl (hok_entries fx))))))))
theorem b_Paper__eq_ (fx : Fx K mg fd) : BodyOk P w K mg base (ct K) (fns K fd) ⟨He.fAd K d_Paper__eq_.at_, fd 31, ["self", "other"]⟩ ⟨2, 2, false, m_Paper__eq_⟩ :=
  ⟨_, "Paper.__eq__", _, _, _, _, _, N_Paper__eq_, fx.D_Paper__eq_, sc_Paper__eq_, rfl, rfl, by decide, fun call n co cdv A outer s H E hr => t_Paper__eq_ fx call n cdv A outer s H E ⟨co, hr⟩⟩
abbrev N_Shut__init_ : List Str := ["self", "paper"]
theorem sc_Shut__init_ : FnScope N_Shut__init_ ["self", "paper"] (defScope s_Shut__init_) := ⟨by kernel_rfl, by kernel_rfl, by kernel_rfl, by decide +kernel, rfl, by decide +kernel, by decide +kernel⟩
theorem t_Shut__init_ (fx : Fx K mg fd) (call : CallT) (n : Nat) (cdv : Value) (A : Around) (outer : List Env) (s : Shared) (H : Hp) (E : XK) (c : Cq (cxOf (L2.CX P w) P w K mg base N_Shut__init_ "Shut.__init__" (defScope s_Shut__init_) (He.fAd K d_Shut__init_.at_) cdv A outer s H E) (ct K) (fns K fd) call n) :
    SSs (cxOf (L2.CX P w) P w K mg base N_Shut__init_ "Shut.__init__" (defScope s_Shut__init_) (He.fAd K d_Shut__init_.at_) cdv A outer s H E) (ct K) (fun c d _ H' => E c d H') (defBody s_Shut__init_) (m_Shut__init_ call) := by
  have tk : Takes (cxOf (L2.CX P w) P w K mg base N_Shut__init_ "Shut.__init__" (defScope s_Shut__init_) (He.fAd K d_Shut__init_.at_) cdv A outer s H E) (fun cls d _ H' => E cls d H') := takes_of rfl rfl rfl rfl
  have nd := sc_Shut__init_.nd
  have po : PassesOwn (model P w) (cxOf (L2.CX P w) P w K mg base N_Shut__init_ "Shut.__init__" (defScope s_Shut__init_) (He.fAd K d_Shut__init_.at_) cdv A outer s H E).A (cxOf (L2.CX P w) P w K mg base N_Shut__init_ "Shut.__init__" (defScope s_Shut__init_) (He.fAd K d_Shut__init_.at_) cdv A outer s H E).env (cxOf (L2.CX P w) P w K mg base N_Shut__init_ "Shut.__init__" (defScope s_Shut__init_) (He.fAd K d_Shut__init_.at_) cdv A outer s H E).xe := passes_of rfl
  exact (sss_one (ss_fld (ok := ok_paper) (k := 24) (se_var 0) (se_var 1) rfl (hok_paper fx)))
theorem b_Shut__init_ (fx : Fx K mg fd) : BodyOk P w K mg base (ct K) (fns K fd) ⟨He.fAd K d_Shut__init_.at_, fd 32, ["self", "paper"]⟩ ⟨2, 2, false, m_Shut__init_⟩ :=
  ⟨_, "Shut.__init__", _, _, _, _, _, N_Shut__init_, fx.D_Shut__init_, sc_Shut__init_, rfl, rfl, by decide, fun call n co cdv A outer s H E hr => t_Shut__init_ fx call n cdv A outer s H E ⟨co, hr⟩⟩
abbrev N_Shut__eq_ : List Str := ["self", "other"]
theorem sc_Shut__eq_ : FnScope N_Shut__eq_ ["self", "other"] (defScope s_Shut__eq_) := ⟨by kernel_rfl, by kernel_rfl, by kernel_rfl, by decide +kernel, rfl, by decide +kernel, by decide +kernel⟩
theorem t_Shut__eq_ (fx : Fx K mg fd) (call : CallT) (n : Nat) (cdv : Value) (A : Around) (outer : List Env) (s : Shared) (H : Hp) (E : XK) (c : Cq (cxOf (L2.CX P w) P w K mg base N_Shut__eq_ "Shut.__eq__" (defScope s_Shut__eq_) (He.fAd K d_Shut__eq_.at_) cdv A outer s H E) (ct K) (fns K fd) call n) :
    SSs (cxOf (L2.CX P w) P w K mg base N_Shut__eq_ "Shut.__eq__" (defScope s_Shut__eq_) (He.fAd K d_Shut__eq_.at_) cdv A outer s H E) (ct K) (fun c d _ H' => E c d H') (defBody s_Shut__eq_) (m_Shut__eq_ call) := by
  have tk : Takes (cxOf (L2.CX P w) P w K mg base N_Shut__eq_ "Shut.__eq__" (defScope s_Shut__eq_) (He.fAd K d_Shut__eq_.at_) cdv A outer s H E) (fun cls d _ H' => E cls d H') := takes_of rfl rfl rfl rfl
  have nd := sc_Shut__eq_.nd
  have po : PassesOwn (model P w) (cxOf (L2.CX P w) P w K mg base N_Shut__eq_ "Shut.__eq__" (defScope s_Shut__eq_) (He.fAd K d_Shut__eq_.at_) cdv A outer s H E).A (cxOf (L2.CX P w) P w K mg base N_Shut__eq_ "Shut.__eq__" (defScope s_Shut__eq_) (He.fAd K d_Shut__eq_.at_) cdv A outer s H E).env (cxOf (L2.CX P w) P w K mg base N_Shut__eq_ "Shut.__eq__" (defScope s_Shut__eq_) (He.fAd K d_Shut__eq_.at_) cdv A outer s H E).xe := passes_of rfl
  exact (sss_one (ss_ret' (se_and (se_isiC rfl fx.g_Shut (isiOk fx (C := 18) (by decide)) rfl fx.f_isinstance (se_var 1)) (se_one (se_cmp (eqoE_sound c.co (eqt fx) c.ro) (se_fld (ok := ok_paper) (k := 24) (se_var 0) rfl (hok_paper fx)) (se_fld (ok := ok_paper) (k := 24) (se_var 1) rfl (hok_paper fx)))))))
theorem b_Shut__eq_ (fx : Fx K mg fd) : BodyOk P w K mg base (ct K) (fns K fd) ⟨He.fAd K d_Shut__eq_.at_, fd 33, ["self", "other"]⟩ ⟨2, 2, false, m_Shut__eq_⟩ :=
  ⟨_, "Shut.__eq__", _, _, _, _, _, N_Shut__eq_, fx.D_Shut__eq_, sc_Shut__eq_, rfl, rfl, by decide, fun call n co cdv A outer s H E hr => t_Shut__eq_ fx call n cdv A outer s H E ⟨co, hr⟩⟩
abbrev N_is_outer_text : List Str := ["thing", "sign"]
theorem sc_is_outer_text : FnScope N_is_outer_text ["thing"] (defScope s_is_outer_text) := ⟨by kernel_rfl, by kernel_rfl, by kernel_rfl, by decide +kernel, rfl, by decide +kernel, by decide +kernel⟩
theorem t_is_outer_text (fx : Fx K mg fd) (call : CallT) (n : Nat) (cdv : Value) (A : Around) (outer : List Env) (s : Shared) (H : Hp) (E : XK) (c : Cq (cxOf (L2.CX P w) P w K mg base N_is_outer_text "is_outer_text" (defScope s_is_outer_text) (He.fAd K d_is_outer_text.at_) cdv A outer s H E) (ct K) (fns K fd) call n) :
    SSs (cxOf (L2.CX P w) P w K mg base N_is_outer_text "is_outer_text" (defScope s_is_outer_text) (He.fAd K d_is_outer_text.at_) cdv A outer s H E) (ct K) (fun c d _ H' => E c d H') (defBody s_is_outer_text) (m_is_outer_text call) := by
  have tk : Takes (cxOf (L2.CX P w) P w K mg base N_is_outer_text "is_outer_text" (defScope s_is_outer_text) (He.fAd K d_is_outer_text.at_) cdv A outer s H E) (fun cls d _ H' => E cls d H') := takes_of rfl rfl rfl rfl
  have nd := sc_is_outer_text.nd
  have po : PassesOwn (model P w) (cxOf (L2.CX P w) P w K mg base N_is_outer_text "is_outer_text" (defScope s_is_outer_text) (He.fAd K d_is_outer_text.at_) cdv A outer s H E).A (cxOf (L2.CX P w) P w K mg base N_is_outer_text "is_outer_text" (defScope s_is_outer_text) (He.fAd K d_is_outer_text.at_) cdv A outer s H E).env (cxOf (L2.CX P w) P w K mg base N_is_outer_text "is_outer_text" (defScope s_is_outer_text) (He.fAd K d_is_outer_text.at_) cdv A outer s H E).xe := passes_of rfl
  exact (sss_one (ss_ret' (se_and (se_isiB rfl fx.f_str (by decide +kernel) Mi.isi_str rfl fx.f_isinstance (se_var 0)) (se_one (se_callB (all_sound rfl) rfl fx.f_all (by decide +kernel) (sa_cons (se_lc false rfl nd (si_str (se_var 0)) (own := [("sign", 1)]) (blkOk_by (by first | decide +kernel | kernel_rfl)) rfl (fun _ _ _ _ _ => (sgc_name nd (i := 1) rfl (by first | exact .inl rfl | exact .inr rfl) (by decide))) (fun _ _ _ _ _ => spt_nil) (fun _ _ _ _ _ => (se_cmp inC_sound (se_var 1) (se_gS rfl fx.k_OUTER)))) sa_nil))))))
theorem b_is_outer_text (fx : Fx K mg fd) : BodyOk P w K mg base (ct K) (fns K fd) ⟨He.fAd K d_is_outer_text.at_, fd 34, ["thing"]⟩ ⟨1, 2, false, m_is_outer_text⟩ :=
  ⟨_, "is_outer_text", _, _, _, _, _, N_is_outer_text, fx.D_is_outer_text, sc_is_outer_text, rfl, rfl, by decide, fun call n co cdv A outer s H E hr => t_is_outer_text fx call n cdv A outer s H E ⟨co, hr⟩⟩
abbrev N_is_earlier : List Str := ["symbol", "at"]
theorem sc_is_earlier : FnScope N_is_earlier ["symbol", "at"] (defScope s_is_earlier) := ⟨by kernel_rfl, by kernel_rfl, by kernel_rfl, by decide +kernel, rfl, by decide +kernel, by decide +kernel⟩
theorem t_is_earlier (fx : Fx K mg fd) (call : CallT) (n : Nat) (cdv : Value) (A : Around) (outer : List Env) (s : Shared) (H : Hp) (E : XK) (c : Cq (cxOf (L2.CX P w) P w K mg base N_is_earlier "is_earlier" (defScope s_is_earlier) (He.fAd K d_is_earlier.at_) cdv A outer s H E) (ct K) (fns K fd) call n) :
    SSs (cxOf (L2.CX P w) P w K mg base N_is_earlier "is_earlier" (defScope s_is_earlier) (He.fAd K d_is_earlier.at_) cdv A outer s H E) (ct K) (fun c d _ H' => E c d H') (defBody s_is_earlier) (m_is_earlier call) := by
  have tk : Takes (cxOf (L2.CX P w) P w K mg base N_is_earlier "is_earlier" (defScope s_is_earlier) (He.fAd K d_is_earlier.at_) cdv A outer s H E) (fun cls d _ H' => E cls d H') := takes_of rfl rfl rfl rfl
  have nd := sc_is_earlier.nd
  have po : PassesOwn (model P w) (cxOf (L2.CX P w) P w K mg base N_is_earlier "is_earlier" (defScope s_is_earlier) (He.fAd K d_is_earlier.at_) cdv A outer s H E).A (cxOf (L2.CX P w) P w K mg base N_is_earlier "is_earlier" (defScope s_is_earlier) (He.fAd K d_is_earlier.at_) cdv A outer s H E).env (cxOf (L2.CX P w) P w K mg base N_is_earlier "is_earlier" (defScope s_is_earlier) (He.fAd K d_is_earlier.at_) cdv A outer s H E).xe := passes_of rfl
  exact (sss_one (ss_ret' (se_and (sc_call ⟨c.co, c.ro⟩ tk fx.i_is_whole fx.g_is_whole rfl rfl (sa_cons (se_var 0) sa_nil)) (se_one (se_chain le_sound lt_sound se_int (se_var 0) (se_var 1))))))
theorem b_is_earlier (fx : Fx K mg fd) : BodyOk P w K mg base (ct K) (fns K fd) ⟨He.fAd K d_is_earlier.at_, fd 35, ["symbol", "at"]⟩ ⟨2, 2, false, m_is_earlier⟩ :=
  ⟨_, "is_earlier", _, _, _, _, _, N_is_earlier, fx.D_is_earlier, sc_is_earlier, rfl, rfl, by decide, fun call n co cdv A outer s H E hr => t_is_earlier fx call n cdv A outer s H E ⟨co, hr⟩⟩
abbrev N_checked_rule : List Str := ["rule", "at", "good"]
theorem sc_checked_rule : FnScope N_checked_rule ["rule", "at"] (defScope s_checked_rule) := ⟨by kernel_rfl, by kernel_rfl, by kernel_rfl, by decide +kernel, rfl, by decide +kernel, by decide +kernel⟩
theorem t_checked_rule (fx : Fx K mg fd) (call : CallT) (n : Nat) (cdv : Value) (A : Around) (outer : List Env) (s : Shared) (H : Hp) (E : XK) (c : Cq (cxOf (L2.CX P w) P w K mg base N_checked_rule "checked_rule" (defScope s_checked_rule) (He.fAd K d_checked_rule.at_) cdv A outer s H E) (ct K) (fns K fd) call n) :
    SSs (cxOf (L2.CX P w) P w K mg base N_checked_rule "checked_rule" (defScope s_checked_rule) (He.fAd K d_checked_rule.at_) cdv A outer s H E) (ct K) (fun c d _ H' => E c d H') (defBody s_checked_rule) (m_checked_rule call) := by
  have tk : Takes (cxOf (L2.CX P w) P w K mg base N_checked_rule "checked_rule" (defScope s_checked_rule) (He.fAd K d_checked_rule.at_) cdv A outer s H E) (fun cls d _ H' => E cls d H') := takes_of rfl rfl rfl rfl
  have nd := sc_checked_rule.nd
  have po : PassesOwn (model P w) (cxOf (L2.CX P w) P w K mg base N_checked_rule "checked_rule" (defScope s_checked_rule) (He.fAd K d_checked_rule.at_) cdv A outer s H E).A (cxOf (L2.CX P w) P w K mg base N_checked_rule "checked_rule" (defScope s_checked_rule) (He.fAd K d_checked_rule.at_) cdv A outer s H E).env (cxOf (L2.CX P w) P w K mg base N_checked_rule "checked_rule" (defScope s_checked_rule) (He.fAd K d_checked_rule.at_) cdv A outer s H E).xe := passes_of rfl
  exact (sss_cons (ss_if (st_bool (sw_or (st_not (st_truth (sc_call ⟨c.co, c.ro⟩ tk fx.i_is_sequence fx.g_is_sequence rfl rfl (sa_cons (se_var 0) sa_nil)))) (sw_or (st_cmp eqF_sound (se_callB len_sound rfl fx.f_len (by decide +kernel) (sa_cons (se_var 0) sa_nil)) se_int) (sw_or1 (st_not (st_truth (se_isiB rfl fx.f_str (by decide +kernel) Mi.isi_str rfl fx.f_isinstance (se_ix ix_sound (se_var 0) se_int))))))))
      (sss_one (ss_ret' se_non))
      sss_nil)
      (sss_cons (ss_if (st_cmp eqF_sound (se_ix ix_sound (se_var 0) se_int) se_str)
      (sss_one (ss_set nd (i := 2) rfl (by first | exact .inl rfl | exact .inr rfl) (se_and (se_cmp eqF_sound (se_callB len_sound rfl fx.f_len (by decide +kernel) (sa_cons (se_var 0) sa_nil)) se_int) (se_and (sc_call ⟨c.co, c.ro⟩ tk fx.i_is_outer_text fx.g_is_outer_text rfl rfl (sa_cons (se_ix ix_sound (se_var 0) se_int) sa_nil)) (se_one (se_chain le_sound le_sound se_int (se_callB len_sound rfl fx.f_len (by decide +kernel) (sa_cons (se_ix ix_sound (se_var 0) se_int) sa_nil)) (se_gI rfl fx.k_MOST_SIGNS)))))))
      (sss_one (ss_if (st_cmp eqF_sound (se_ix ix_sound (se_var 0) se_int) se_str)
      (sss_one (ss_set nd (i := 2) rfl (by first | exact .inl rfl | exact .inr rfl) (se_and (se_cmp eqF_sound (se_callB len_sound rfl fx.f_len (by decide +kernel) (sa_cons (se_var 0) sa_nil)) se_int) (se_and (sc_call ⟨c.co, c.ro⟩ tk fx.i_is_earlier fx.g_is_earlier rfl rfl (sa_cons (se_ix ix_sound (se_var 0) se_int) (sa_cons (se_var 1) sa_nil))) (se_one (sc_call ⟨c.co, c.ro⟩ tk fx.i_is_earlier fx.g_is_earlier rfl rfl (sa_cons (se_ix ix_sound (se_var 0) se_int) (sa_cons (se_var 1) sa_nil))))))))
      (sss_one (ss_if (st_cmp eqF_sound (se_ix ix_sound (se_var 0) se_int) se_str)
      (sss_cons (ss_set nd (i := 2) rfl (by first | exact .inl rfl | exact .inr rfl) (se_and (se_cmp eqF_sound (se_callB len_sound rfl fx.f_len (by decide +kernel) (sa_cons (se_var 0) sa_nil)) se_int) (se_and (sc_call ⟨c.co, c.ro⟩ tk fx.i_is_earlier fx.g_is_earlier rfl rfl (sa_cons (se_ix ix_sound (se_var 0) se_int) (sa_cons (se_var 1) sa_nil))) (se_one (sc_call ⟨c.co, c.ro⟩ tk fx.i_is_whole fx.g_is_whole rfl rfl (sa_cons (se_ix ix_sound (se_var 0) se_int) sa_nil))))))
      (sss_one (ss_set nd (i := 2) rfl (by first | exact .inl rfl | exact .inr rfl) (se_and (se_var 2) (se_one (se_chain le_sound le_sound se_int (se_ix ix_sound (se_var 0) se_int) (se_gI rfl fx.k_MOST_TIMES)))))))
      (sss_one (ss_set nd (i := 2) rfl (by first | exact .inl rfl | exact .inr rfl) se_bl)))))))
      (sss_one (ss_ret' (se_if (st_truth (se_var 2)) (se_callTy tuple_sound rfl fx.f_tuple (by decide +kernel) (sa_cons (se_var 0) sa_nil)) se_non)))))
theorem b_checked_rule (fx : Fx K mg fd) : BodyOk P w K mg base (ct K) (fns K fd) ⟨He.fAd K d_checked_rule.at_, fd 36, ["rule", "at"]⟩ ⟨2, 3, false, m_checked_rule⟩ :=
  ⟨_, "checked_rule", _, _, _, _, _, N_checked_rule, fx.D_checked_rule, sc_checked_rule, rfl, rfl, by decide, fun call n co cdv A outer s H E hr => t_checked_rule fx call n cdv A outer s H E ⟨co, hr⟩⟩
abbrev N_checked_word : List Str := ["grammar", "word", "symbol"]
theorem sc_checked_word : FnScope N_checked_word ["grammar", "word"] (defScope s_checked_word) := ⟨by kernel_rfl, by kernel_rfl, by kernel_rfl, by decide +kernel, rfl, by decide +kernel, by decide +kernel⟩
theorem t_checked_word (fx : Fx K mg fd) (call : CallT) (n : Nat) (cdv : Value) (A : Around) (outer : List Env) (s : Shared) (H : Hp) (E : XK) (c : Cq (cxOf (L2.CX P w) P w K mg base N_checked_word "checked_word" (defScope s_checked_word) (He.fAd K d_checked_word.at_) cdv A outer s H E) (ct K) (fns K fd) call n) :
    SSs (cxOf (L2.CX P w) P w K mg base N_checked_word "checked_word" (defScope s_checked_word) (He.fAd K d_checked_word.at_) cdv A outer s H E) (ct K) (fun c d _ H' => E c d H') (defBody s_checked_word) (m_checked_word call) := by
  have tk : Takes (cxOf (L2.CX P w) P w K mg base N_checked_word "checked_word" (defScope s_checked_word) (He.fAd K d_checked_word.at_) cdv A outer s H E) (fun cls d _ H' => E cls d H') := takes_of rfl rfl rfl rfl
  have nd := sc_checked_word.nd
  have po : PassesOwn (model P w) (cxOf (L2.CX P w) P w K mg base N_checked_word "checked_word" (defScope s_checked_word) (He.fAd K d_checked_word.at_) cdv A outer s H E).A (cxOf (L2.CX P w) P w K mg base N_checked_word "checked_word" (defScope s_checked_word) (He.fAd K d_checked_word.at_) cdv A outer s H E).env (cxOf (L2.CX P w) P w K mg base N_checked_word "checked_word" (defScope s_checked_word) (He.fAd K d_checked_word.at_) cdv A outer s H E).xe := passes_of rfl
  exact (sss_cons (ss_if (st_not (st_truth (sc_call ⟨c.co, c.ro⟩ tk fx.i_is_sequence fx.g_is_sequence rfl rfl (sa_cons (se_var 1) sa_nil))))
      (sss_one ss_never)
      sss_nil)
      (sss_cons (ss_for po rfl (si_seq (se_var 1)) (sg_name nd (i := 2) rfl (by first | exact .inl rfl | exact .inr rfl))
      (sss_one (ss_if (st_not (st_truth (sc_call ⟨c.co, c.ro⟩ tk fx.i_is_earlier fx.g_is_earlier rfl rfl (sa_cons (se_var 2) (sa_cons (se_callB len_sound rfl fx.f_len (by decide +kernel) (sa_cons (se_fld (ok := ok_rules) (k := 25) (se_var 0) rfl (hok_rules fx)) sa_nil)) sa_nil)))))
      (sss_one ss_never)
      sss_nil)))
      (sss_one (ss_ret' (se_callTy tuple_sound rfl fx.f_tuple (by decide +kernel) (sa_cons (se_var 1) sa_nil))))))
theorem b_checked_word (fx : Fx K mg fd) : BodyOk P w K mg base (ct K) (fns K fd) ⟨He.fAd K d_checked_word.at_, fd 37, ["grammar", "word"]⟩ ⟨2, 3, false, m_checked_word⟩ :=
  ⟨_, "checked_word", _, _, _, _, _, N_checked_word, fx.D_checked_word, sc_checked_word, rfl, rfl, by decide, fun call n co cdv A outer s H E hr => t_checked_word fx call n cdv A outer s H E ⟨co, hr⟩⟩
abbrev N_rule_lengths : List Str := ["rules", "lengths", "rule"]
theorem sc_rule_lengths : FnScope N_rule_lengths ["rules"] (defScope s_rule_lengths) := ⟨by kernel_rfl, by kernel_rfl, by kernel_rfl, by decide +kernel, rfl, by decide +kernel, by decide +kernel⟩
theorem t_rule_lengths (fx : Fx K mg fd) (call : CallT) (n : Nat) (cdv : Value) (A : Around) (outer : List Env) (s : Shared) (H : Hp) (E : XK) (c : Cq (cxOf (L2.CX P w) P w K mg base N_rule_lengths "rule_lengths" (defScope s_rule_lengths) (He.fAd K d_rule_lengths.at_) cdv A outer s H E) (ct K) (fns K fd) call n) :
    SSs (cxOf (L2.CX P w) P w K mg base N_rule_lengths "rule_lengths" (defScope s_rule_lengths) (He.fAd K d_rule_lengths.at_) cdv A outer s H E) (ct K) (fun c d _ H' => E c d H') (defBody s_rule_lengths) (m_rule_lengths call) := by
  have tk : Takes (cxOf (L2.CX P w) P w K mg base N_rule_lengths "rule_lengths" (defScope s_rule_lengths) (He.fAd K d_rule_lengths.at_) cdv A outer s H E) (fun cls d _ H' => E cls d H') := takes_of rfl rfl rfl rfl
  have nd := sc_rule_lengths.nd
  have po : PassesOwn (model P w) (cxOf (L2.CX P w) P w K mg base N_rule_lengths "rule_lengths" (defScope s_rule_lengths) (He.fAd K d_rule_lengths.at_) cdv A outer s H E).A (cxOf (L2.CX P w) P w K mg base N_rule_lengths "rule_lengths" (defScope s_rule_lengths) (He.fAd K d_rule_lengths.at_) cdv A outer s H E).env (cxOf (L2.CX P w) P w K mg base N_rule_lengths "rule_lengths" (defScope s_rule_lengths) (He.fAd K d_rule_lengths.at_) cdv A outer s H E).xe := passes_of rfl
  exact (sss_cons (ss_set nd (i := 1) rfl (by first | exact .inl rfl | exact .inr rfl) (se_lst sa_nil))
      (sss_cons (ss_for po rfl (si_seq (se_var 0)) (sg_name nd (i := 2) rfl (by first | exact .inl rfl | exact .inr rfl))
      (sss_one (ss_if (st_cmp eqF_sound (se_ix ix_sound (se_var 2) se_int) se_str)
      (sss_one (ss_expr (se_append (se_var 1) (sa_cons (se_callB len_sound rfl fx.f_len (by decide +kernel) (sa_cons (se_ix ix_sound (se_var 2) se_int) sa_nil)) sa_nil))))
      (sss_one (ss_if (st_cmp eqF_sound (se_ix ix_sound (se_var 2) se_int) se_str)
      (sss_one (ss_expr (se_append (se_var 1) (sa_cons (se_bin add_sound (se_ix ix_sound (se_var 1) (se_ix ix_sound (se_var 2) se_int)) (se_ix ix_sound (se_var 1) (se_ix ix_sound (se_var 2) se_int))) sa_nil))))
      (sss_one (ss_expr (se_append (se_var 1) (sa_cons (se_bin mulI_sound (se_ix ix_sound (se_var 1) (se_ix ix_sound (se_var 2) se_int)) (se_ix ix_sound (se_var 2) se_int)) sa_nil)))))))))
      (sss_one (ss_ret' (se_callTy tuple_sound rfl fx.f_tuple (by decide +kernel) (sa_cons (se_var 1) sa_nil))))))
theorem b_rule_lengths (fx : Fx K mg fd) : BodyOk P w K mg base (ct K) (fns K fd) ⟨He.fAd K d_rule_lengths.at_, fd 38, ["rules"]⟩ ⟨1, 3, false, m_rule_lengths⟩ :=
  ⟨_, "rule_lengths", _, _, _, _, _, N_rule_lengths, fx.D_rule_lengths, sc_rule_lengths, rfl, rfl, by decide, fun call n co cdv A outer s H E hr => t_rule_lengths fx call n cdv A outer s H E ⟨co, hr⟩⟩
abbrev N_Grammar__init_ : List Str := ["self", "rules", "kept", "at", "rule", "good"]
theorem sc_Grammar__init_ : FnScope N_Grammar__init_ ["self", "rules"] (defScope s_Grammar__init_) := ⟨by kernel_rfl, by kernel_rfl, by kernel_rfl, by decide +kernel, rfl, by decide +kernel, by decide +kernel⟩
theorem t_Grammar__init_ (fx : Fx K mg fd) (call : CallT) (n : Nat) (cdv : Value) (A : Around) (outer : List Env) (s : Shared) (H : Hp) (E : XK) (c : Cq (cxOf (L2.CX P w) P w K mg base N_Grammar__init_ "Grammar.__init__" (defScope s_Grammar__init_) (He.fAd K d_Grammar__init_.at_) cdv A outer s H E) (ct K) (fns K fd) call n) :
    SSs (cxOf (L2.CX P w) P w K mg base N_Grammar__init_ "Grammar.__init__" (defScope s_Grammar__init_) (He.fAd K d_Grammar__init_.at_) cdv A outer s H E) (ct K) (fun c d _ H' => E c d H') (defBody s_Grammar__init_) (m_Grammar__init_ call) := by
  have tk : Takes (cxOf (L2.CX P w) P w K mg base N_Grammar__init_ "Grammar.__init__" (defScope s_Grammar__init_) (He.fAd K d_Grammar__init_.at_) cdv A outer s H E) (fun cls d _ H' => E cls d H') := takes_of rfl rfl rfl rfl
  have nd := sc_Grammar__init_.nd
  have po : PassesOwn (model P w) (cxOf (L2.CX P w) P w K mg base N_Grammar__init_ "Grammar.__init__" (defScope s_Grammar__init_) (He.fAd K d_Grammar__init_.at_) cdv A outer s H E).A (cxOf (L2.CX P w) P w K mg base N_Grammar__init_ "Grammar.__init__" (defScope s_Grammar__init_) (He.fAd K d_Grammar__init_.at_) cdv A outer s H E).env (cxOf (L2.CX P w) P w K mg base N_Grammar__init_ "Grammar.__init__" (defScope s_Grammar__init_) (He.fAd K d_Grammar__init_.at_) cdv A outer s H E).xe := passes_of rfl
  exact (sss_cons (ss_if (st_not (st_truth (sc_call ⟨c.co, c.ro⟩ tk fx.i_is_sequence fx.g_is_sequence rfl rfl (sa_cons (se_var 1) sa_nil))))
      (sss_one ss_never)
      sss_nil)
      (sss_cons (ss_set nd (i := 2) rfl (by first | exact .inl rfl | exact .inr rfl) (se_lst sa_nil))
      (sss_cons (ss_for po rfl (si_enum rfl fx.f_enumerate (sa_cons (se_var 1) sa_nil)) (sg_tup rfl (sgs_cons (sg_name nd (i := 3) rfl (by first | exact .inl rfl | exact .inr rfl)) (sgs_cons (sg_name nd (i := 4) rfl (by first | exact .inl rfl | exact .inr rfl)) sgs_nil)))
      (sss_cons (ss_set nd (i := 5) rfl (by first | exact .inl rfl | exact .inr rfl) (sc_call ⟨c.co, c.ro⟩ tk fx.i_checked_rule fx.g_checked_rule rfl rfl (sa_cons (se_var 4) (sa_cons (se_var 3) sa_nil))))
      (sss_cons (ss_if (st_cmp isN_sound (se_var 5) se_non)
      (sss_one ss_never)
      sss_nil)
      (sss_one (ss_expr (se_append (se_var 2) (sa_cons (se_var 5) sa_nil)))))))
      (sss_cons (ss_fld (ok := ok_rules) (k := 25) (se_var 0) (se_callTy tuple_sound rfl fx.f_tuple (by decide +kernel) (sa_cons (se_var 2) sa_nil)) rfl (hok_rules fx))
      (sss_one (ss_fld (ok := ok_lengths) (k := 26) (se_var 0) (sc_call ⟨c.co, c.ro⟩ tk fx.i_rule_lengths fx.g_rule_lengths rfl rfl (sa_cons (se_fld (ok := ok_rules) (k := 25) (se_var 0) rfl (hok_rules fx)) sa_nil)) rfl (hok_lengths fx)))))))
theorem b_Grammar__init_ (fx : Fx K mg fd) : BodyOk P w K mg base (ct K) (fns K fd) ⟨He.fAd K d_Grammar__init_.at_, fd 39, ["self", "rules"]⟩ ⟨2, 6, false, m_Grammar__init_⟩ :=
  ⟨_, "Grammar.__init__", _, _, _, _, _, N_Grammar__init_, fx.D_Grammar__init_, sc_Grammar__init_, rfl, rfl, by decide, fun call n co cdv A outer s H E hr => t_Grammar__init_ fx call n cdv A outer s H E ⟨co, hr⟩⟩
abbrev N_Grammar__eq_ : List Str := ["self", "other"]
theorem sc_Grammar__eq_ : FnScope N_Grammar__eq_ ["self", "other"] (defScope s_Grammar__eq_) := ⟨by kernel_rfl, by kernel_rfl, by kernel_rfl, by decide +kernel, rfl, by decide +kernel, by decide +kernel⟩
theorem t_Grammar__eq_ (fx : Fx K mg fd) (call : CallT) (n : Nat) (cdv : Value) (A : Around) (outer : List Env) (s : Shared) (H : Hp) (E : XK) (c : Cq (cxOf (L2.CX P w) P w K mg base N_Grammar__eq_ "Grammar.__eq__" (defScope s_Grammar__eq_) (He.fAd K d_Grammar__eq_.at_) cdv A outer s H E) (ct K) (fns K fd) call n) :
    SSs (cxOf (L2.CX P w) P w K mg base N_Grammar__eq_ "Grammar.__eq__" (defScope s_Grammar__eq_) (He.fAd K d_Grammar__eq_.at_) cdv A outer s H E) (ct K) (fun c d _ H' => E c d H') (defBody s_Grammar__eq_) (m_Grammar__eq_ call) := by
  have tk : Takes (cxOf (L2.CX P w) P w K mg base N_Grammar__eq_ "Grammar.__eq__" (defScope s_Grammar__eq_) (He.fAd K d_Grammar__eq_.at_) cdv A outer s H E) (fun cls d _ H' => E cls d H') := takes_of rfl rfl rfl rfl
  have nd := sc_Grammar__eq_.nd
  have po : PassesOwn (model P w) (cxOf (L2.CX P w) P w K mg base N_Grammar__eq_ "Grammar.__eq__" (defScope s_Grammar__eq_) (He.fAd K d_Grammar__eq_.at_) cdv A outer s H E).A (cxOf (L2.CX P w) P w K mg base N_Grammar__eq_ "Grammar.__eq__" (defScope s_Grammar__eq_) (He.fAd K d_Grammar__eq_.at_) cdv A outer s H E).env (cxOf (L2.CX P w) P w K mg base N_Grammar__eq_ "Grammar.__eq__" (defScope s_Grammar__eq_) (He.fAd K d_Grammar__eq_.at_) cdv A outer s H E).xe := passes_of rfl
  exact (sss_one (ss_ret' (se_and (se_isiC rfl fx.g_Grammar (isiOk fx (C := 19) (by decide)) rfl fx.f_isinstance (se_var 1)) (se_one (se_cmp (eqoE_sound c.co (eqt fx) c.ro) (se_fld (ok := ok_rules) (k := 25) (se_var 0) rfl (hok_rules fx)) (se_fld (ok := ok_rules) (k := 25) (se_var 1) rfl (hok_rules fx)))))))
theorem b_Grammar__eq_ (fx : Fx K mg fd) : BodyOk P w K mg base (ct K) (fns K fd) ⟨He.fAd K d_Grammar__eq_.at_, fd 40, ["self", "other"]⟩ ⟨2, 2, false, m_Grammar__eq_⟩ :=
  ⟨_, "Grammar.__eq__", _, _, _, _, _, N_Grammar__eq_, fx.D_Grammar__eq_, sc_Grammar__eq_, rfl, rfl, by decide, fun call n co cdv A outer s H E hr => t_Grammar__eq_ fx call n cdv A outer s H E ⟨co, hr⟩⟩
abbrev N_Pressed__init_ : List Str := ["self", "table", "ends"]
theorem sc_Pressed__init_ : FnScope N_Pressed__init_ ["self", "table", "ends"] (defScope s_Pressed__init_) := ⟨by kernel_rfl, by kernel_rfl, by kernel_rfl, by decide +kernel, rfl, by decide +kernel, by decide +kernel⟩
theorem t_Pressed__init_ (fx : Fx K mg fd) (call : CallT) (n : Nat) (cdv : Value) (A : Around) (outer : List Env) (s : Shared) (H : Hp) (E : XK) (c : Cq (cxOf (L2.CX P w) P w K mg base N_Pressed__init_ "Pressed.__init__" (defScope s_Pressed__init_) (He.fAd K d_Pressed__init_.at_) cdv A outer s H E) (ct K) (fns K fd) call n) :
    SSs (cxOf (L2.CX P w) P w K mg base N_Pressed__init_ "Pressed.__init__" (defScope s_Pressed__init_) (He.fAd K d_Pressed__init_.at_) cdv A outer s H E) (ct K) (fun c d _ H' => E c d H') (defBody s_Pressed__init_) (m_Pressed__init_ call) := by
  have tk : Takes (cxOf (L2.CX P w) P w K mg base N_Pressed__init_ "Pressed.__init__" (defScope s_Pressed__init_) (He.fAd K d_Pressed__init_.at_) cdv A outer s H E) (fun cls d _ H' => E cls d H') := takes_of rfl rfl rfl rfl
  have nd := sc_Pressed__init_.nd
  have po : PassesOwn (model P w) (cxOf (L2.CX P w) P w K mg base N_Pressed__init_ "Pressed.__init__" (defScope s_Pressed__init_) (He.fAd K d_Pressed__init_.at_) cdv A outer s H E).A (cxOf (L2.CX P w) P w K mg base N_Pressed__init_ "Pressed.__init__" (defScope s_Pressed__init_) (He.fAd K d_Pressed__init_.at_) cdv A outer s H E).env (cxOf (L2.CX P w) P w K mg base N_Pressed__init_ "Pressed.__init__" (defScope s_Pressed__init_) (He.fAd K d_Pressed__init_.at_) cdv A outer s H E).xe := passes_of rfl
  exact (sss_cons (ss_fld (ok := ok_table) (k := 27) (se_var 0) (se_var 1) rfl (hok_table fx))
      (sss_one (ss_fld (ok := ok_ends) (k := 1) (se_var 0) (se_var 2) rfl (hok_ends fx))))
theorem b_Pressed__init_ (fx : Fx K mg fd) : BodyOk P w K mg base (ct K) (fns K fd) ⟨He.fAd K d_Pressed__init_.at_, fd 41, ["self", "table", "ends"]⟩ ⟨3, 3, false, m_Pressed__init_⟩ :=
  ⟨_, "Pressed.__init__", _, _, _, _, _, N_Pressed__init_, fx.D_Pressed__init_, sc_Pressed__init_, rfl, rfl, by decide, fun call n co cdv A outer s H E hr => t_Pressed__init_ fx call n cdv A outer s H E ⟨co, hr⟩⟩
abbrev N_Pressed__eq_ : List Str := ["self", "other"]
theorem sc_Pressed__eq_ : FnScope N_Pressed__eq_ ["self", "other"] (defScope s_Pressed__eq_) := ⟨by kernel_rfl, by kernel_rfl, by kernel_rfl, by decide +kernel, rfl, by decide +kernel, by decide +kernel⟩
theorem t_Pressed__eq_ (fx : Fx K mg fd) (call : CallT) (n : Nat) (cdv : Value) (A : Around) (outer : List Env) (s : Shared) (H : Hp) (E : XK) (c : Cq (cxOf (L2.CX P w) P w K mg base N_Pressed__eq_ "Pressed.__eq__" (defScope s_Pressed__eq_) (He.fAd K d_Pressed__eq_.at_) cdv A outer s H E) (ct K) (fns K fd) call n) :
    SSs (cxOf (L2.CX P w) P w K mg base N_Pressed__eq_ "Pressed.__eq__" (defScope s_Pressed__eq_) (He.fAd K d_Pressed__eq_.at_) cdv A outer s H E) (ct K) (fun c d _ H' => E c d H') (defBody s_Pressed__eq_) (m_Pressed__eq_ call) := by
  have tk : Takes (cxOf (L2.CX P w) P w K mg base N_Pressed__eq_ "Pressed.__eq__" (defScope s_Pressed__eq_) (He.fAd K d_Pressed__eq_.at_) cdv A outer s H E) (fun cls d _ H' => E cls d H') := takes_of rfl rfl rfl rfl
  have nd := sc_Pressed__eq_.nd
  have po : PassesOwn (model P w) (cxOf (L2.CX P w) P w K mg base N_Pressed__eq_ "Pressed.__eq__" (defScope s_Pressed__eq_) (He.fAd K d_Pressed__eq_.at_) cdv A outer s H E).A (cxOf (L2.CX P w) P w K mg base N_Pressed__eq_ "Pressed.__eq__" (defScope s_Pressed__eq_) (He.fAd K d_Pressed__eq_.at_) cdv A outer s H E).env (cxOf (L2.CX P w) P w K mg base N_Pressed__eq_ "Pressed.__eq__" (defScope s_Pressed__eq_) (He.fAd K d_Pressed__eq_.at_) cdv A outer s H E).xe := passes_of rfl
  exact (sss_one (ss_ret' (se_and (se_isiC rfl fx.g_Pressed (isiOk fx (C := 20) (by decide)) rfl fx.f_isinstance (se_var 1)) (se_and (se_cmp (eqoE_sound c.co (eqt fx) c.ro) (se_fld (ok := ok_table) (k := 27) (se_var 0) rfl (hok_table fx)) (se_fld (ok := ok_table) (k := 27) (se_var 1) rfl (hok_table fx))) (se_one (se_cmp (eqoE_sound c.co (eqt fx) c.ro) (se_fld (ok := ok_ends) (k := 1) (se_var 0) rfl (hok_ends fx)) (se_fld (ok := ok_ends) (k := 1) (se_var 1) rfl (hok_ends fx))))))))
theorem b_Pressed__eq_ (fx : Fx K mg fd) : BodyOk P w K mg base (ct K) (fns K fd) ⟨He.fAd K d_Pressed__eq_.at_, fd 42, ["self", "other"]⟩ ⟨2, 2, false, m_Pressed__eq_⟩ :=
  ⟨_, "Pressed.__eq__", _, _, _, _, _, N_Pressed__eq_, fx.D_Pressed__eq_, sc_Pressed__eq_, rfl, rfl, by decide, fun call n co cdv A outer s H E hr => t_Pressed__eq_ fx call n cdv A outer s H E ⟨co, hr⟩⟩
abbrev N_is_filled_name : List Str := ["thing", "rest", "sign"]
theorem sc_is_filled_name : FnScope N_is_filled_name ["thing"] (defScope s_is_filled_name) := ⟨by kernel_rfl, by kernel_rfl, by kernel_rfl, by decide +kernel, rfl, by decide +kernel, by decide +kernel⟩
theorem t_is_filled_name (fx : Fx K mg fd) (call : CallT) (n : Nat) (cdv : Value) (A : Around) (outer : List Env) (s : Shared) (H : Hp) (E : XK) (c : Cq (cxOf (L2.CX P w) P w K mg base N_is_filled_name "is_filled_name" (defScope s_is_filled_name) (He.fAd K d_is_filled_name.at_) cdv A outer s H E) (ct K) (fns K fd) call n) :
    SSs (cxOf (L2.CX P w) P w K mg base N_is_filled_name "is_filled_name" (defScope s_is_filled_name) (He.fAd K d_is_filled_name.at_) cdv A outer s H E) (ct K) (fun c d _ H' => E c d H') (defBody s_is_filled_name) (m_is_filled_name call) := by
  have tk : Takes (cxOf (L2.CX P w) P w K mg base N_is_filled_name "is_filled_name" (defScope s_is_filled_name) (He.fAd K d_is_filled_name.at_) cdv A outer s H E) (fun cls d _ H' => E cls d H') := takes_of rfl rfl rfl rfl
  have nd := sc_is_filled_name.nd
  have po : PassesOwn (model P w) (cxOf (L2.CX P w) P w K mg base N_is_filled_name "is_filled_name" (defScope s_is_filled_name) (He.fAd K d_is_filled_name.at_) cdv A outer s H E).A (cxOf (L2.CX P w) P w K mg base N_is_filled_name "is_filled_name" (defScope s_is_filled_name) (He.fAd K d_is_filled_name.at_) cdv A outer s H E).env (cxOf (L2.CX P w) P w K mg base N_is_filled_name "is_filled_name" (defScope s_is_filled_name) (He.fAd K d_is_filled_name.at_) cdv A outer s H E).xe := passes_of rfl
  exact (sss_cons (ss_if (st_bool (sw_or (st_not (st_truth (se_isiB rfl fx.f_str (by decide +kernel) Mi.isi_str rfl fx.f_isinstance (se_var 0)))) (sw_or (st_not (st_chain le_sound le_sound se_int (se_callB len_sound rfl fx.f_len (by decide +kernel) (sa_cons (se_var 0) sa_nil)) se_int)) (sw_or1 (st_cmp neF_sound (se_ix ix_sound (se_var 0) se_int) se_str)))))
      (sss_one (ss_ret' se_bl))
      sss_nil)
      (sss_cons (ss_set nd (i := 1) rfl (by first | exact .inl rfl | exact .inr rfl) (se_slice (se_var 0) (so_some se_int) so_none))
      (sss_one (ss_ret' (se_or (se_callB (all_sound rfl) rfl fx.f_all (by decide +kernel) (sa_cons (se_lc false rfl nd (si_str (se_var 1)) (own := [("sign", 2)]) (blkOk_by (by first | decide +kernel | kernel_rfl)) rfl (fun _ _ _ _ _ => (sgc_name nd (i := 2) rfl (by first | exact .inl rfl | exact .inr rfl) (by decide))) (fun _ _ _ _ _ => spt_nil) (fun _ _ _ _ _ => (se_cmp inC_sound (se_var 2) (se_gS rfl fx.k_SMALL)))) sa_nil)) (se_one (se_callB (all_sound rfl) rfl fx.f_all (by decide +kernel) (sa_cons (se_lc false rfl nd (si_str (se_var 1)) (own := [("sign", 2)]) (blkOk_by (by first | decide +kernel | kernel_rfl)) rfl (fun _ _ _ _ _ => (sgc_name nd (i := 2) rfl (by first | exact .inl rfl | exact .inr rfl) (by decide))) (fun _ _ _ _ _ => spt_nil) (fun _ _ _ _ _ => (se_cmp inC_sound (se_var 2) (se_gS rfl fx.k_FIGURES)))) sa_nil))))))))
theorem b_is_filled_name (fx : Fx K mg fd) : BodyOk P w K mg base (ct K) (fns K fd) ⟨He.fAd K d_is_filled_name.at_, fd 43, ["thing"]⟩ ⟨1, 3, false, m_is_filled_name⟩ :=
  ⟨_, "is_filled_name", _, _, _, _, _, N_is_filled_name, fx.D_is_filled_name, sc_is_filled_name, rfl, rfl, by decide, fun call n co cdv A outer s H E hr => t_is_filled_name fx call n cdv A outer s H E ⟨co, hr⟩⟩
abbrev N_checked_couple : List Str := ["entry", "last", "at"]
theorem sc_checked_couple : FnScope N_checked_couple ["entry", "last", "at"] (defScope s_checked_couple) := ⟨by kernel_rfl, by kernel_rfl, by kernel_rfl, by decide +kernel, rfl, by decide +kernel, by decide +kernel⟩
theorem t_checked_couple (fx : Fx K mg fd) (call : CallT) (n : Nat) (cdv : Value) (A : Around) (outer : List Env) (s : Shared) (H : Hp) (E : XK) (c : Cq (cxOf (L2.CX P w) P w K mg base N_checked_couple "checked_couple" (defScope s_checked_couple) (He.fAd K d_checked_couple.at_) cdv A outer s H E) (ct K) (fns K fd) call n) :
    SSs (cxOf (L2.CX P w) P w K mg base N_checked_couple "checked_couple" (defScope s_checked_couple) (He.fAd K d_checked_couple.at_) cdv A outer s H E) (ct K) (fun c d _ H' => E c d H') (defBody s_checked_couple) (m_checked_couple call) := by
  have tk : Takes (cxOf (L2.CX P w) P w K mg base N_checked_couple "checked_couple" (defScope s_checked_couple) (He.fAd K d_checked_couple.at_) cdv A outer s H E) (fun cls d _ H' => E cls d H') := takes_of rfl rfl rfl rfl
  have nd := sc_checked_couple.nd
  have po : PassesOwn (model P w) (cxOf (L2.CX P w) P w K mg base N_checked_couple "checked_couple" (defScope s_checked_couple) (He.fAd K d_checked_couple.at_) cdv A outer s H E).A (cxOf (L2.CX P w) P w K mg base N_checked_couple "checked_couple" (defScope s_checked_couple) (He.fAd K d_checked_couple.at_) cdv A outer s H E).env (cxOf (L2.CX P w) P w K mg base N_checked_couple "checked_couple" (defScope s_checked_couple) (He.fAd K d_checked_couple.at_) cdv A outer s H E).xe := passes_of rfl
  exact (sss_cons (ss_if (st_bool (sw_or (st_not (st_truth (sc_call ⟨c.co, c.ro⟩ tk fx.i_is_sequence fx.g_is_sequence rfl rfl (sa_cons (se_var 0) sa_nil)))) (sw_or (st_cmp neF_sound (se_callB len_sound rfl fx.f_len (by decide +kernel) (sa_cons (se_var 0) sa_nil)) se_int) (sw_or (st_not (st_truth (sc_call ⟨c.co, c.ro⟩ tk fx.i_is_filled_name fx.g_is_filled_name rfl rfl (sa_cons (se_ix ix_sound (se_var 0) se_int) sa_nil)))) (sw_or1 (st_cmp leS_sound (se_ix ix_sound (se_var 0) se_int) (se_var 1)))))))
      (sss_one ss_never)
      sss_nil)
      (sss_one (ss_ret' (se_var 0))))
theorem b_checked_couple (fx : Fx K mg fd) : BodyOk P w K mg base (ct K) (fns K fd) ⟨He.fAd K d_checked_couple.at_, fd 44, ["entry", "last", "at"]⟩ ⟨3, 3, false, m_checked_couple⟩ :=
  ⟨_, "checked_couple", _, _, _, _, _, N_checked_couple, fx.D_checked_couple, sc_checked_couple, rfl, rfl, by decide, fun call n co cdv A outer s H E hr => t_checked_couple fx call n cdv A outer s H E ⟨co, hr⟩⟩
abbrev N_Filling__init_ : List Str := ["self", "grammar", "words", "kept", "last", "at", "entry", "word"]
theorem sc_Filling__init_ : FnScope N_Filling__init_ ["self", "grammar", "words"] (defScope s_Filling__init_) := ⟨by kernel_rfl, by kernel_rfl, by kernel_rfl, by decide +kernel, rfl, by decide +kernel, by decide +kernel⟩
theorem t_Filling__init_ (fx : Fx K mg fd) (call : CallT) (n : Nat) (cdv : Value) (A : Around) (outer : List Env) (s : Shared) (H : Hp) (E : XK) (c : Cq (cxOf (L2.CX P w) P w K mg base N_Filling__init_ "Filling.__init__" (defScope s_Filling__init_) (He.fAd K d_Filling__init_.at_) cdv A outer s H E) (ct K) (fns K fd) call n) :
    SSs (cxOf (L2.CX P w) P w K mg base N_Filling__init_ "Filling.__init__" (defScope s_Filling__init_) (He.fAd K d_Filling__init_.at_) cdv A outer s H E) (ct K) (fun c d _ H' => E c d H') (defBody s_Filling__init_) (m_Filling__init_ call) := by
  have tk : Takes (cxOf (L2.CX P w) P w K mg base N_Filling__init_ "Filling.__init__" (defScope s_Filling__init_) (He.fAd K d_Filling__init_.at_) cdv A outer s H E) (fun cls d _ H' => E cls d H') := takes_of rfl rfl rfl rfl
  have nd := sc_Filling__init_.nd
  have po : PassesOwn (model P w) (cxOf (L2.CX P w) P w K mg base N_Filling__init_ "Filling.__init__" (defScope s_Filling__init_) (He.fAd K d_Filling__init_.at_) cdv A outer s H E).A (cxOf (L2.CX P w) P w K mg base N_Filling__init_ "Filling.__init__" (defScope s_Filling__init_) (He.fAd K d_Filling__init_.at_) cdv A outer s H E).env (cxOf (L2.CX P w) P w K mg base N_Filling__init_ "Filling.__init__" (defScope s_Filling__init_) (He.fAd K d_Filling__init_.at_) cdv A outer s H E).xe := passes_of rfl
  exact (sss_cons (ss_if (st_not (st_truth (sc_call ⟨c.co, c.ro⟩ tk fx.i_is_sequence fx.g_is_sequence rfl rfl (sa_cons (se_var 2) sa_nil))))
      (sss_one ss_never)
      sss_nil)
      (sss_cons (ss_fld (ok := ok_grammar) (k := 28) (se_var 0) (se_var 1) rfl (hok_grammar fx))
      (sss_cons (ss_set nd (i := 3) rfl (by first | exact .inl rfl | exact .inr rfl) (se_lst sa_nil))
      (sss_cons (ss_set nd (i := 4) rfl (by first | exact .inl rfl | exact .inr rfl) se_str)
      (sss_cons (ss_for po rfl (si_enum rfl fx.f_enumerate (sa_cons (se_var 2) sa_nil)) (sg_tup rfl (sgs_cons (sg_name nd (i := 5) rfl (by first | exact .inl rfl | exact .inr rfl)) (sgs_cons (sg_name nd (i := 6) rfl (by first | exact .inl rfl | exact .inr rfl)) sgs_nil)))
      (sss_cons (ss_asg (sc_call ⟨c.co, c.ro⟩ tk fx.i_checked_couple fx.g_checked_couple rfl rfl (sa_cons (se_var 6) (sa_cons (se_var 4) (sa_cons (se_var 5) sa_nil)))) (sg_tup rfl (sgs_cons (sg_name nd (i := 4) rfl (by first | exact .inl rfl | exact .inr rfl)) (sgs_cons (sg_name nd (i := 7) rfl (by first | exact .inl rfl | exact .inr rfl)) sgs_nil))))
      (sss_one (ss_thru (sss_one (ss_expr (se_append (se_var 3) (sa_cons (se_tup (sa_cons (se_var 4) (sa_cons (sc_call ⟨c.co, c.ro⟩ takesW fx.i_checked_word fx.g_checked_word rfl rfl (sa_cons (se_var 1) (sa_cons (se_var 7) sa_nil))) sa_nil))) sa_nil))))))))
      (sss_one (ss_fld (ok := ok_words) (k := 29) (se_var 0) (se_callTy tuple_sound rfl fx.f_tuple (by decide +kernel) (sa_cons (se_var 3) sa_nil)) rfl (hok_words fx))))))))
theorem b_Filling__init_ (fx : Fx K mg fd) : BodyOk P w K mg base (ct K) (fns K fd) ⟨He.fAd K d_Filling__init_.at_, fd 45, ["self", "grammar", "words"]⟩ ⟨3, 8, false, m_Filling__init_⟩ :=
  ⟨_, "Filling.__init__", _, _, _, _, _, N_Filling__init_, fx.D_Filling__init_, sc_Filling__init_, rfl, rfl, by decide, fun call n co cdv A outer s H E hr => t_Filling__init_ fx call n cdv A outer s H E ⟨co, hr⟩⟩
abbrev N_Filling__eq_ : List Str := ["self", "other"]
theorem sc_Filling__eq_ : FnScope N_Filling__eq_ ["self", "other"] (defScope s_Filling__eq_) := ⟨by kernel_rfl, by kernel_rfl, by kernel_rfl, by decide +kernel, rfl, by decide +kernel, by decide +kernel⟩
theorem t_Filling__eq_ (fx : Fx K mg fd) (call : CallT) (n : Nat) (cdv : Value) (A : Around) (outer : List Env) (s : Shared) (H : Hp) (E : XK) (c : Cq (cxOf (L2.CX P w) P w K mg base N_Filling__eq_ "Filling.__eq__" (defScope s_Filling__eq_) (He.fAd K d_Filling__eq_.at_) cdv A outer s H E) (ct K) (fns K fd) call n) :
    SSs (cxOf (L2.CX P w) P w K mg base N_Filling__eq_ "Filling.__eq__" (defScope s_Filling__eq_) (He.fAd K d_Filling__eq_.at_) cdv A outer s H E) (ct K) (fun c d _ H' => E c d H') (defBody s_Filling__eq_) (m_Filling__eq_ call) := by
  have tk : Takes (cxOf (L2.CX P w) P w K mg base N_Filling__eq_ "Filling.__eq__" (defScope s_Filling__eq_) (He.fAd K d_Filling__eq_.at_) cdv A outer s H E) (fun cls d _ H' => E cls d H') := takes_of rfl rfl rfl rfl
  have nd := sc_Filling__eq_.nd
  have po : PassesOwn (model P w) (cxOf (L2.CX P w) P w K mg base N_Filling__eq_ "Filling.__eq__" (defScope s_Filling__eq_) (He.fAd K d_Filling__eq_.at_) cdv A outer s H E).A (cxOf (L2.CX P w) P w K mg base N_Filling__eq_ "Filling.__eq__" (defScope s_Filling__eq_) (He.fAd K d_Filling__eq_.at_) cdv A outer s H E).env (cxOf (L2.CX P w) P w K mg base N_Filling__eq_ "Filling.__eq__" (defScope s_Filling__eq_) (He.fAd K d_Filling__eq_.at_) cdv A outer s H E).xe := passes_of rfl
  exact (sss_one (ss_ret' (se_and (se_isiC rfl fx.g_Filling (isiOk fx (C := 21) (by decide)) rfl fx.f_isinstance (se_var 1)) (se_and (se_cmp (eqoE_sound c.co (eqt fx) c.ro) (se_fld (ok := ok_grammar) (k := 28) (se_var 0) rfl (hok_grammar fx)) (se_fld (ok := ok_grammar) (k := 28) (se_var 1) rfl (hok_grammar fx))) (se_one (se_cmp (eqoE_sound c.co (eqt fx) c.ro) (se_fld (ok := ok_words) (k := 29) (se_var 0) rfl (hok_words fx)) (se_fld (ok := ok_words) (k := 29) (se_var 1) rfl (hok_words fx))))))))
theorem b_Filling__eq_ (fx : Fx K mg fd) : BodyOk P w K mg base (ct K) (fns K fd) ⟨He.fAd K d_Filling__eq_.at_, fd 46, ["self", "other"]⟩ ⟨2, 2, false, m_Filling__eq_⟩ :=
  ⟨_, "Filling.__eq__", _, _, _, _, _, N_Filling__eq_, fx.D_Filling__eq_, sc_Filling__eq_, rfl, rfl, by decide, fun call n co cdv A outer s H E hr => t_Filling__eq_ fx call n cdv A outer s H E ⟨co, hr⟩⟩
abbrev N_filling_of : List Str := ["texts", "last", "rules", "words", "at", "entry", "text"]
theorem sc_filling_of : FnScope N_filling_of ["texts"] (defScope s_filling_of) := ⟨by kernel_rfl, by kernel_rfl, by kernel_rfl, by decide +kernel, rfl, by decide +kernel, by decide +kernel⟩
theorem t_filling_of (fx : Fx K mg fd) (call : CallT) (n : Nat) (cdv : Value) (A : Around) (outer : List Env) (s : Shared) (H : Hp) (E : XK) (c : Cq (cxOf (L2.CX P w) P w K mg base N_filling_of "filling_of" (defScope s_filling_of) (He.fAd K d_filling_of.at_) cdv A outer s H E) (ct K) (fns K fd) call n) :
    SSs (cxOf (L2.CX P w) P w K mg base N_filling_of "filling_of" (defScope s_filling_of) (He.fAd K d_filling_of.at_) cdv A outer s H E) (ct K) (fun c d _ H' => E c d H') (defBody s_filling_of) (m_filling_of call) := by
  have tk : Takes (cxOf (L2.CX P w) P w K mg base N_filling_of "filling_of" (defScope s_filling_of) (He.fAd K d_filling_of.at_) cdv A outer s H E) (fun cls d _ H' => E cls d H') := takes_of rfl rfl rfl rfl
  have nd := sc_filling_of.nd
  have po : PassesOwn (model P w) (cxOf (L2.CX P w) P w K mg base N_filling_of "filling_of" (defScope s_filling_of) (He.fAd K d_filling_of.at_) cdv A outer s H E).A (cxOf (L2.CX P w) P w K mg base N_filling_of "filling_of" (defScope s_filling_of) (He.fAd K d_filling_of.at_) cdv A outer s H E).env (cxOf (L2.CX P w) P w K mg base N_filling_of "filling_of" (defScope s_filling_of) (He.fAd K d_filling_of.at_) cdv A outer s H E).xe := passes_of rfl
  exact (sss_cons (ss_if (st_not (st_truth (sc_call ⟨c.co, c.ro⟩ tk fx.i_is_sequence fx.g_is_sequence rfl rfl (sa_cons (se_var 0) sa_nil))))
      (sss_one ss_never)
      sss_nil)
      (sss_cons (ss_set nd (i := 1) rfl (by first | exact .inl rfl | exact .inr rfl) se_str)
      (sss_cons (ss_set nd (i := 2) rfl (by first | exact .inl rfl | exact .inr rfl) (se_lst sa_nil))
      (sss_cons (ss_set nd (i := 3) rfl (by first | exact .inl rfl | exact .inr rfl) (se_lst sa_nil))
      (sss_cons (ss_for po rfl (si_enum rfl fx.f_enumerate (sa_cons (se_var 0) sa_nil)) (sg_tup rfl (sgs_cons (sg_name nd (i := 4) rfl (by first | exact .inl rfl | exact .inr rfl)) (sgs_cons (sg_name nd (i := 5) rfl (by first | exact .inl rfl | exact .inr rfl)) sgs_nil)))
      (sss_cons (ss_asg (sc_call ⟨c.co, c.ro⟩ tk fx.i_checked_couple fx.g_checked_couple rfl rfl (sa_cons (se_var 5) (sa_cons (se_var 1) (sa_cons (se_var 4) sa_nil)))) (sg_tup rfl (sgs_cons (sg_name nd (i := 1) rfl (by first | exact .inl rfl | exact .inr rfl)) (sgs_cons (sg_name nd (i := 6) rfl (by first | exact .inl rfl | exact .inr rfl)) sgs_nil))))
      (sss_cons (ss_if (st_bool (sw_or (st_not (st_truth (sc_call ⟨c.co, c.ro⟩ tk fx.i_is_outer_text fx.g_is_outer_text rfl rfl (sa_cons (se_var 6) sa_nil)))) (sw_or1 (st_cmp gt_sound (se_callB len_sound rfl fx.f_len (by decide +kernel) (sa_cons (se_var 6) sa_nil)) (se_gI rfl fx.k_MOST_SIGNS)))))
      (sss_one ss_never)
      sss_nil)
      (sss_one (ss_if (st_truth (se_var 6))
      (sss_cons (ss_expr (se_append (se_var 3) (sa_cons (se_tup (sa_cons (se_var 1) (sa_cons (se_tup (sa_cons (se_callB len_sound rfl fx.f_len (by decide +kernel) (sa_cons (se_var 2) sa_nil)) sa_nil)) sa_nil))) sa_nil)))
      (sss_one (ss_expr (se_append (se_var 2) (sa_cons (se_tup (sa_cons se_str (sa_cons (se_var 6) sa_nil))) sa_nil)))))
      (sss_one (ss_expr (se_append (se_var 3) (sa_cons (se_tup (sa_cons (se_var 1) (sa_cons (se_tup sa_nil) sa_nil))) sa_nil)))))))))
      (sss_frz (i := 3) (sss_frz (i := 2) (sss_one (ss_ret' (sc_make ⟨c.co, c.ro⟩ tk fx.i_Filling__init_ fx.m_Filling fx.g_Filling rfl rfl (sa_cons (sc_make ⟨c.co, c.ro⟩ tk fx.i_Grammar__init_ fx.m_Grammar fx.g_Grammar rfl rfl (sa_cons (se_var 2) sa_nil)) (sa_cons (se_var 3) sa_nil))))))))))))
theorem b_filling_of (fx : Fx K mg fd) : BodyOk P w K mg base (ct K) (fns K fd) ⟨He.fAd K d_filling_of.at_, fd 47, ["texts"]⟩ ⟨1, 7, false, m_filling_of⟩ :=
  ⟨_, "filling_of", _, _, _, _, _, N_filling_of, fx.D_filling_of, sc_filling_of, rfl, rfl, by decide, fun call n co cdv A outer s H E hr => t_filling_of fx call n cdv A outer s H E ⟨co, hr⟩⟩
abbrev N_Root__init_ : List Str := ["self", "told", "letters", "unknowns", "spares", "empties"]
theorem sc_Root__init_ : FnScope N_Root__init_ ["self", "told", "letters", "unknowns", "spares", "empties"] (defScope s_Root__init_) := ⟨by kernel_rfl, by kernel_rfl, by kernel_rfl, by decide +kernel, rfl, by decide +kernel, by decide +kernel⟩
theorem t_Root__init_ (fx : Fx K mg fd) (call : CallT) (n : Nat) (cdv : Value) (A : Around) (outer : List Env) (s : Shared) (H : Hp) (E : XK) (c : Cq (cxOf (L2.CX P w) P w K mg base N_Root__init_ "Root.__init__" (defScope s_Root__init_) (He.fAd K d_Root__init_.at_) cdv A outer s H E) (ct K) (fns K fd) call n) :
    SSs (cxOf (L2.CX P w) P w K mg base N_Root__init_ "Root.__init__" (defScope s_Root__init_) (He.fAd K d_Root__init_.at_) cdv A outer s H E) (ct K) (fun c d _ H' => E c d H') (defBody s_Root__init_) (m_Root__init_ call) := by
  have tk : Takes (cxOf (L2.CX P w) P w K mg base N_Root__init_ "Root.__init__" (defScope s_Root__init_) (He.fAd K d_Root__init_.at_) cdv A outer s H E) (fun cls d _ H' => E cls d H') := takes_of rfl rfl rfl rfl
  have nd := sc_Root__init_.nd
  have po : PassesOwn (model P w) (cxOf (L2.CX P w) P w K mg base N_Root__init_ "Root.__init__" (defScope s_Root__init_) (He.fAd K d_Root__init_.at_) cdv A outer s H E).A (cxOf (L2.CX P w) P w K mg base N_Root__init_ "Root.__init__" (defScope s_Root__init_) (He.fAd K d_Root__init_.at_) cdv A outer s H E).env (cxOf (L2.CX P w) P w K mg base N_Root__init_ "Root.__init__" (defScope s_Root__init_) (He.fAd K d_Root__init_.at_) cdv A outer s H E).xe := passes_of rfl
  exact (sss_cons (ss_fld (ok := ok_told) (k := 8) (se_var 0) (se_var 1) rfl (hok_told fx))
      (sss_cons (ss_fld (ok := ok_letters) (k := 9) (se_var 0) (se_var 2) rfl (hok_letters fx))
      (sss_cons (ss_fld (ok := ok_unknowns) (k := 10) (se_var 0) (se_var 3) rfl (hok_unknowns fx))
      (sss_cons (ss_fld (ok := ok_spares) (k := 11) (se_var 0) (se_var 4) rfl (hok_spares fx))
      (sss_one (ss_fld (ok := ok_empties) (k := 30) (se_var 0) (se_var 5) rfl (hok_empties fx)))))))
theorem b_Root__init_ (fx : Fx K mg fd) : BodyOk P w K mg base (ct K) (fns K fd) ⟨He.fAd K d_Root__init_.at_, fd 48, ["self", "told", "letters", "unknowns", "spares", "empties"]⟩ ⟨6, 6, false, m_Root__init_⟩ :=
  ⟨_, "Root.__init__", _, _, _, _, _, N_Root__init_, fx.D_Root__init_, sc_Root__init_, rfl, rfl, by decide, fun call n co cdv A outer s H E hr => t_Root__init_ fx call n cdv A outer s H E ⟨co, hr⟩⟩
abbrev N_Root__eq_ : List Str := ["self", "other"]
theorem sc_Root__eq_ : FnScope N_Root__eq_ ["self", "other"] (defScope s_Root__eq_) := ⟨by kernel_rfl, by kernel_rfl, by kernel_rfl, by decide +kernel, rfl, by decide +kernel, by decide +kernel⟩
theorem t_Root__eq_ (fx : Fx K mg fd) (call : CallT) (n : Nat) (cdv : Value) (A : Around) (outer : List Env) (s : Shared) (H : Hp) (E : XK) (c : Cq (cxOf (L2.CX P w) P w K mg base N_Root__eq_ "Root.__eq__" (defScope s_Root__eq_) (He.fAd K d_Root__eq_.at_) cdv A outer s H E) (ct K) (fns K fd) call n) :
    SSs (cxOf (L2.CX P w) P w K mg base N_Root__eq_ "Root.__eq__" (defScope s_Root__eq_) (He.fAd K d_Root__eq_.at_) cdv A outer s H E) (ct K) (fun c d _ H' => E c d H') (defBody s_Root__eq_) (m_Root__eq_ call) := by
  have tk : Takes (cxOf (L2.CX P w) P w K mg base N_Root__eq_ "Root.__eq__" (defScope s_Root__eq_) (He.fAd K d_Root__eq_.at_) cdv A outer s H E) (fun cls d _ H' => E cls d H') := takes_of rfl rfl rfl rfl
  have nd := sc_Root__eq_.nd
  have po : PassesOwn (model P w) (cxOf (L2.CX P w) P w K mg base N_Root__eq_ "Root.__eq__" (defScope s_Root__eq_) (He.fAd K d_Root__eq_.at_) cdv A outer s H E).A (cxOf (L2.CX P w) P w K mg base N_Root__eq_ "Root.__eq__" (defScope s_Root__eq_) (He.fAd K d_Root__eq_.at_) cdv A outer s H E).env (cxOf (L2.CX P w) P w K mg base N_Root__eq_ "Root.__eq__" (defScope s_Root__eq_) (He.fAd K d_Root__eq_.at_) cdv A outer s H E).xe := passes_of rfl
  exact (sss_one (ss_ret' (se_and (se_isiC rfl fx.g_Root (isiOk fx (C := 22) (by decide)) rfl fx.f_isinstance (se_var 1)) (se_and (se_cmp (eqoE_sound c.co (eqt fx) c.ro) (se_fld (ok := ok_told) (k := 8) (se_var 0) rfl (hok_told fx)) (se_fld (ok := ok_told) (k := 8) (se_var 1) rfl (hok_told fx))) (se_and (se_cmp (eqoE_sound c.co (eqt fx) c.ro) (se_fld (ok := ok_letters) (k := 9) (se_var 0) rfl (hok_letters fx)) (se_fld (ok := ok_letters) (k := 9) (se_var 1) rfl (hok_letters fx))) (se_and (se_cmp (eqoE_sound c.co (eqt fx) c.ro) (se_fld (ok := ok_unknowns) (k := 10) (se_var 0) rfl (hok_unknowns fx)) (se_fld (ok := ok_unknowns) (k := 10) (se_var 1) rfl (hok_unknowns fx))) (se_and (se_cmp (eqoE_sound c.co (eqt fx) c.ro) (se_fld (ok := ok_spares) (k := 11) (se_var 0) rfl (hok_spares fx)) (se_fld (ok := ok_spares) (k := 11) (se_var 1) rfl (hok_spares fx))) (se_one (se_cmp (eqoE_sound c.co (eqt fx) c.ro) (se_fld (ok := ok_empties) (k := 30) (se_var 0) rfl (hok_empties fx)) (se_fld (ok := ok_empties) (k := 30) (se_var 1) rfl (hok_empties fx)))))))))))
theorem b_Root__eq_ (fx : Fx K mg fd) : BodyOk P w K mg base (ct K) (fns K fd) ⟨He.fAd K d_Root__eq_.at_, fd 49, ["self", "other"]⟩ ⟨2, 2, false, m_Root__eq_⟩ :=
  ⟨_, "Root.__eq__", _, _, _, _, _, N_Root__eq_, fx.D_Root__eq_, sc_Root__eq_, rfl, rfl, by decide, fun call n co cdv A outer s H E hr => t_Root__eq_ fx call n cdv A outer s H E ⟨co, hr⟩⟩
abbrev N_Trail__init_ : List Str := ["self", "root", "turns"]
theorem sc_Trail__init_ : FnScope N_Trail__init_ ["self", "root", "turns"] (defScope s_Trail__init_) := ⟨by kernel_rfl, by kernel_rfl, by kernel_rfl, by decide +kernel, rfl, by decide +kernel, by decide +kernel⟩
theorem t_Trail__init_ (fx : Fx K mg fd) (call : CallT) (n : Nat) (cdv : Value) (A : Around) (outer : List Env) (s : Shared) (H : Hp) (E : XK) (c : Cq (cxOf (L2.CX P w) P w K mg base N_Trail__init_ "Trail.__init__" (defScope s_Trail__init_) (He.fAd K d_Trail__init_.at_) cdv A outer s H E) (ct K) (fns K fd) call n) :
    SSs (cxOf (L2.CX P w) P w K mg base N_Trail__init_ "Trail.__init__" (defScope s_Trail__init_) (He.fAd K d_Trail__init_.at_) cdv A outer s H E) (ct K) (fun c d _ H' => E c d H') (defBody s_Trail__init_) (m_Trail__init_ call) := by
  have tk : Takes (cxOf (L2.CX P w) P w K mg base N_Trail__init_ "Trail.__init__" (defScope s_Trail__init_) (He.fAd K d_Trail__init_.at_) cdv A outer s H E) (fun cls d _ H' => E cls d H') := takes_of rfl rfl rfl rfl
  have nd := sc_Trail__init_.nd
  have po : PassesOwn (model P w) (cxOf (L2.CX P w) P w K mg base N_Trail__init_ "Trail.__init__" (defScope s_Trail__init_) (He.fAd K d_Trail__init_.at_) cdv A outer s H E).A (cxOf (L2.CX P w) P w K mg base N_Trail__init_ "Trail.__init__" (defScope s_Trail__init_) (He.fAd K d_Trail__init_.at_) cdv A outer s H E).env (cxOf (L2.CX P w) P w K mg base N_Trail__init_ "Trail.__init__" (defScope s_Trail__init_) (He.fAd K d_Trail__init_.at_) cdv A outer s H E).xe := passes_of rfl
  exact (sss_cons (ss_fld (ok := ok_root) (k := 31) (se_var 0) (se_var 1) rfl (hok_root fx))
      (sss_one (ss_fld (ok := ok_turns) (k := 32) (se_var 0) (se_var 2) rfl (hok_turns fx))))
theorem b_Trail__init_ (fx : Fx K mg fd) : BodyOk P w K mg base (ct K) (fns K fd) ⟨He.fAd K d_Trail__init_.at_, fd 50, ["self", "root", "turns"]⟩ ⟨3, 3, false, m_Trail__init_⟩ :=
  ⟨_, "Trail.__init__", _, _, _, _, _, N_Trail__init_, fx.D_Trail__init_, sc_Trail__init_, rfl, rfl, by decide, fun call n co cdv A outer s H E hr => t_Trail__init_ fx call n cdv A outer s H E ⟨co, hr⟩⟩
abbrev N_Trail__eq_ : List Str := ["self", "other"]
theorem sc_Trail__eq_ : FnScope N_Trail__eq_ ["self", "other"] (defScope s_Trail__eq_) := ⟨by kernel_rfl, by kernel_rfl, by kernel_rfl, by decide +kernel, rfl, by decide +kernel, by decide +kernel⟩
theorem t_Trail__eq_ (fx : Fx K mg fd) (call : CallT) (n : Nat) (cdv : Value) (A : Around) (outer : List Env) (s : Shared) (H : Hp) (E : XK) (c : Cq (cxOf (L2.CX P w) P w K mg base N_Trail__eq_ "Trail.__eq__" (defScope s_Trail__eq_) (He.fAd K d_Trail__eq_.at_) cdv A outer s H E) (ct K) (fns K fd) call n) :
    SSs (cxOf (L2.CX P w) P w K mg base N_Trail__eq_ "Trail.__eq__" (defScope s_Trail__eq_) (He.fAd K d_Trail__eq_.at_) cdv A outer s H E) (ct K) (fun c d _ H' => E c d H') (defBody s_Trail__eq_) (m_Trail__eq_ call) := by
  have tk : Takes (cxOf (L2.CX P w) P w K mg base N_Trail__eq_ "Trail.__eq__" (defScope s_Trail__eq_) (He.fAd K d_Trail__eq_.at_) cdv A outer s H E) (fun cls d _ H' => E cls d H') := takes_of rfl rfl rfl rfl
  have nd := sc_Trail__eq_.nd
  have po : PassesOwn (model P w) (cxOf (L2.CX P w) P w K mg base N_Trail__eq_ "Trail.__eq__" (defScope s_Trail__eq_) (He.fAd K d_Trail__eq_.at_) cdv A outer s H E).A (cxOf (L2.CX P w) P w K mg base N_Trail__eq_ "Trail.__eq__" (defScope s_Trail__eq_) (He.fAd K d_Trail__eq_.at_) cdv A outer s H E).env (cxOf (L2.CX P w) P w K mg base N_Trail__eq_ "Trail.__eq__" (defScope s_Trail__eq_) (He.fAd K d_Trail__eq_.at_) cdv A outer s H E).xe := passes_of rfl
  exact (sss_one (ss_ret' (se_and (se_isiC rfl fx.g_Trail (isiOk fx (C := 23) (by decide)) rfl fx.f_isinstance (se_var 1)) (se_and (se_cmp (eqoE_sound c.co (eqt fx) c.ro) (se_fld (ok := ok_root) (k := 31) (se_var 0) rfl (hok_root fx)) (se_fld (ok := ok_root) (k := 31) (se_var 1) rfl (hok_root fx))) (se_one (se_cmp (eqoE_sound c.co (eqt fx) c.ro) (se_fld (ok := ok_turns) (k := 32) (se_var 0) rfl (hok_turns fx)) (se_fld (ok := ok_turns) (k := 32) (se_var 1) rfl (hok_turns fx))))))))
theorem b_Trail__eq_ (fx : Fx K mg fd) : BodyOk P w K mg base (ct K) (fns K fd) ⟨He.fAd K d_Trail__eq_.at_, fd 51, ["self", "other"]⟩ ⟨2, 2, false, m_Trail__eq_⟩ :=
  ⟨_, "Trail.__eq__", _, _, _, _, _, N_Trail__eq_, fx.D_Trail__eq_, sc_Trail__eq_, rfl, rfl, by decide, fun call n co cdv A outer s H E hr => t_Trail__eq_ fx call n cdv A outer s H E ⟨co, hr⟩⟩
abbrev N_Stages__init_ : List Str := ["self", "grammar", "stages"]
theorem sc_Stages__init_ : FnScope N_Stages__init_ ["self", "grammar", "stages"] (defScope s_Stages__init_) := ⟨by kernel_rfl, by kernel_rfl, by kernel_rfl, by decide +kernel, rfl, by decide +kernel, by decide +kernel⟩
theorem t_Stages__init_ (fx : Fx K mg fd) (call : CallT) (n : Nat) (cdv : Value) (A : Around) (outer : List Env) (s : Shared) (H : Hp) (E : XK) (c : Cq (cxOf (L2.CX P w) P w K mg base N_Stages__init_ "Stages.__init__" (defScope s_Stages__init_) (He.fAd K d_Stages__init_.at_) cdv A outer s H E) (ct K) (fns K fd) call n) :
    SSs (cxOf (L2.CX P w) P w K mg base N_Stages__init_ "Stages.__init__" (defScope s_Stages__init_) (He.fAd K d_Stages__init_.at_) cdv A outer s H E) (ct K) (fun c d _ H' => E c d H') (defBody s_Stages__init_) (m_Stages__init_ call) := by
  have tk : Takes (cxOf (L2.CX P w) P w K mg base N_Stages__init_ "Stages.__init__" (defScope s_Stages__init_) (He.fAd K d_Stages__init_.at_) cdv A outer s H E) (fun cls d _ H' => E cls d H') := takes_of rfl rfl rfl rfl
  have nd := sc_Stages__init_.nd
  have po : PassesOwn (model P w) (cxOf (L2.CX P w) P w K mg base N_Stages__init_ "Stages.__init__" (defScope s_Stages__init_) (He.fAd K d_Stages__init_.at_) cdv A outer s H E).A (cxOf (L2.CX P w) P w K mg base N_Stages__init_ "Stages.__init__" (defScope s_Stages__init_) (He.fAd K d_Stages__init_.at_) cdv A outer s H E).env (cxOf (L2.CX P w) P w K mg base N_Stages__init_ "Stages.__init__" (defScope s_Stages__init_) (He.fAd K d_Stages__init_.at_) cdv A outer s H E).xe := passes_of rfl
  exact (sss_cons (ss_fld (ok := ok_grammar) (k := 28) (se_var 0) (se_var 1) rfl (hok_grammar fx))
      (sss_one (ss_fld (ok := ok_stages) (k := 33) (se_var 0) (se_var 2) rfl (hok_stages fx))))
theorem b_Stages__init_ (fx : Fx K mg fd) : BodyOk P w K mg base (ct K) (fns K fd) ⟨He.fAd K d_Stages__init_.at_, fd 52, ["self", "grammar", "stages"]⟩ ⟨3, 3, false, m_Stages__init_⟩ :=
  ⟨_, "Stages.__init__", _, _, _, _, _, N_Stages__init_, fx.D_Stages__init_, sc_Stages__init_, rfl, rfl, by decide, fun call n co cdv A outer s H E hr => t_Stages__init_ fx call n cdv A outer s H E ⟨co, hr⟩⟩
abbrev N_Stages__eq_ : List Str := ["self", "other"]
theorem sc_Stages__eq_ : FnScope N_Stages__eq_ ["self", "other"] (defScope s_Stages__eq_) := ⟨by kernel_rfl, by kernel_rfl, by kernel_rfl, by decide +kernel, rfl, by decide +kernel, by decide +kernel⟩
theorem t_Stages__eq_ (fx : Fx K mg fd) (call : CallT) (n : Nat) (cdv : Value) (A : Around) (outer : List Env) (s : Shared) (H : Hp) (E : XK) (c : Cq (cxOf (L2.CX P w) P w K mg base N_Stages__eq_ "Stages.__eq__" (defScope s_Stages__eq_) (He.fAd K d_Stages__eq_.at_) cdv A outer s H E) (ct K) (fns K fd) call n) :
    SSs (cxOf (L2.CX P w) P w K mg base N_Stages__eq_ "Stages.__eq__" (defScope s_Stages__eq_) (He.fAd K d_Stages__eq_.at_) cdv A outer s H E) (ct K) (fun c d _ H' => E c d H') (defBody s_Stages__eq_) (m_Stages__eq_ call) := by
  have tk : Takes (cxOf (L2.CX P w) P w K mg base N_Stages__eq_ "Stages.__eq__" (defScope s_Stages__eq_) (He.fAd K d_Stages__eq_.at_) cdv A outer s H E) (fun cls d _ H' => E cls d H') := takes_of rfl rfl rfl rfl
  have nd := sc_Stages__eq_.nd
  have po : PassesOwn (model P w) (cxOf (L2.CX P w) P w K mg base N_Stages__eq_ "Stages.__eq__" (defScope s_Stages__eq_) (He.fAd K d_Stages__eq_.at_) cdv A outer s H E).A (cxOf (L2.CX P w) P w K mg base N_Stages__eq_ "Stages.__eq__" (defScope s_Stages__eq_) (He.fAd K d_Stages__eq_.at_) cdv A outer s H E).env (cxOf (L2.CX P w) P w K mg base N_Stages__eq_ "Stages.__eq__" (defScope s_Stages__eq_) (He.fAd K d_Stages__eq_.at_) cdv A outer s H E).xe := passes_of rfl
  exact (sss_one (ss_ret' (se_and (se_isiC rfl fx.g_Stages (isiOk fx (C := 24) (by decide)) rfl fx.f_isinstance (se_var 1)) (se_and (se_cmp (eqoE_sound c.co (eqt fx) c.ro) (se_fld (ok := ok_grammar) (k := 28) (se_var 0) rfl (hok_grammar fx)) (se_fld (ok := ok_grammar) (k := 28) (se_var 1) rfl (hok_grammar fx))) (se_one (se_cmp (eqoE_sound c.co (eqt fx) c.ro) (se_fld (ok := ok_stages) (k := 33) (se_var 0) rfl (hok_stages fx)) (se_fld (ok := ok_stages) (k := 33) (se_var 1) rfl (hok_stages fx))))))))
theorem b_Stages__eq_ (fx : Fx K mg fd) : BodyOk P w K mg base (ct K) (fns K fd) ⟨He.fAd K d_Stages__eq_.at_, fd 53, ["self", "other"]⟩ ⟨2, 2, false, m_Stages__eq_⟩ :=
  ⟨_, "Stages.__eq__", _, _, _, _, _, N_Stages__eq_, fx.D_Stages__eq_, sc_Stages__eq_, rfl, rfl, by decide, fun call n co cdv A outer s H E hr => t_Stages__eq_ fx call n cdv A outer s H E ⟨co, hr⟩⟩
abbrev N_Run__init_ : List Str := ["self", "turns", "used", "ends", "stop"]
theorem sc_Run__init_ : FnScope N_Run__init_ ["self", "turns", "used", "ends", "stop"] (defScope s_Run__init_) := ⟨by kernel_rfl, by kernel_rfl, by kernel_rfl, by decide +kernel, rfl, by decide +kernel, by decide +kernel⟩
theorem t_Run__init_ (fx : Fx K mg fd) (call : CallT) (n : Nat) (cdv : Value) (A : Around) (outer : List Env) (s : Shared) (H : Hp) (E : XK) (c : Cq (cxOf (L2.CX P w) P w K mg base N_Run__init_ "Run.__init__" (defScope s_Run__init_) (He.fAd K d_Run__init_.at_) cdv A outer s H E) (ct K) (fns K fd) call n) :
    SSs (cxOf (L2.CX P w) P w K mg base N_Run__init_ "Run.__init__" (defScope s_Run__init_) (He.fAd K d_Run__init_.at_) cdv A outer s H E) (ct K) (fun c d _ H' => E c d H') (defBody s_Run__init_) (m_Run__init_ call) := by
  have tk : Takes (cxOf (L2.CX P w) P w K mg base N_Run__init_ "Run.__init__" (defScope s_Run__init_) (He.fAd K d_Run__init_.at_) cdv A outer s H E) (fun cls d _ H' => E cls d H') := takes_of rfl rfl rfl rfl
  have nd := sc_Run__init_.nd
  have po : PassesOwn (model P w) (cxOf (L2.CX P w) P w K mg base N_Run__init_ "Run.__init__" (defScope s_Run__init_) (He.fAd K d_Run__init_.at_) cdv A outer s H E).A (cxOf (L2.CX P w) P w K mg base N_Run__init_ "Run.__init__" (defScope s_Run__init_) (He.fAd K d_Run__init_.at_) cdv A outer s H E).env (cxOf (L2.CX P w) P w K mg base N_Run__init_ "Run.__init__" (defScope s_Run__init_) (He.fAd K d_Run__init_.at_) cdv A outer s H E).xe := passes_of rfl
  exact (sss_cons (ss_fld (ok := ok_turns) (k := 32) (se_var 0) (se_var 1) rfl (hok_turns fx))
      (sss_cons (ss_fld (ok := ok_used) (k := 34) (se_var 0) (se_var 2) rfl (hok_used fx))
      (sss_cons (ss_fld (ok := ok_ends) (k := 1) (se_var 0) (se_var 3) rfl (hok_ends fx))
      (sss_one (ss_fld (ok := ok_stop) (k := 35) (se_var 0) (se_var 4) rfl (hok_stop fx))))))
theorem b_Run__init_ (fx : Fx K mg fd) : BodyOk P w K mg base (ct K) (fns K fd) ⟨He.fAd K d_Run__init_.at_, fd 54, ["self", "turns", "used", "ends", "stop"]⟩ ⟨5, 5, false, m_Run__init_⟩ :=
  ⟨_, "Run.__init__", _, _, _, _, _, N_Run__init_, fx.D_Run__init_, sc_Run__init_, rfl, rfl, by decide, fun call n co cdv A outer s H E hr => t_Run__init_ fx call n cdv A outer s H E ⟨co, hr⟩⟩
abbrev N_Run__eq_ : List Str := ["self", "other"]
theorem sc_Run__eq_ : FnScope N_Run__eq_ ["self", "other"] (defScope s_Run__eq_) := ⟨by kernel_rfl, by kernel_rfl, by kernel_rfl, by decide +kernel, rfl, by decide +kernel, by decide +kernel⟩
theorem t_Run__eq_ (fx : Fx K mg fd) (call : CallT) (n : Nat) (cdv : Value) (A : Around) (outer : List Env) (s : Shared) (H : Hp) (E : XK) (c : Cq (cxOf (L2.CX P w) P w K mg base N_Run__eq_ "Run.__eq__" (defScope s_Run__eq_) (He.fAd K d_Run__eq_.at_) cdv A outer s H E) (ct K) (fns K fd) call n) :
    SSs (cxOf (L2.CX P w) P w K mg base N_Run__eq_ "Run.__eq__" (defScope s_Run__eq_) (He.fAd K d_Run__eq_.at_) cdv A outer s H E) (ct K) (fun c d _ H' => E c d H') (defBody s_Run__eq_) (m_Run__eq_ call) := by
  have tk : Takes (cxOf (L2.CX P w) P w K mg base N_Run__eq_ "Run.__eq__" (defScope s_Run__eq_) (He.fAd K d_Run__eq_.at_) cdv A outer s H E) (fun cls d _ H' => E cls d H') := takes_of rfl rfl rfl rfl
  have nd := sc_Run__eq_.nd
  have po : PassesOwn (model P w) (cxOf (L2.CX P w) P w K mg base N_Run__eq_ "Run.__eq__" (defScope s_Run__eq_) (He.fAd K d_Run__eq_.at_) cdv A outer s H E).A (cxOf (L2.CX P w) P w K mg base N_Run__eq_ "Run.__eq__" (defScope s_Run__eq_) (He.fAd K d_Run__eq_.at_) cdv A outer s H E).env (cxOf (L2.CX P w) P w K mg base N_Run__eq_ "Run.__eq__" (defScope s_Run__eq_) (He.fAd K d_Run__eq_.at_) cdv A outer s H E).xe := passes_of rfl
  exact (sss_one (ss_ret' (se_and (se_isiC rfl fx.g_Run (isiOk fx (C := 25) (by decide)) rfl fx.f_isinstance (se_var 1)) (se_and (se_cmp (eqoE_sound c.co (eqt fx) c.ro) (se_fld (ok := ok_turns) (k := 32) (se_var 0) rfl (hok_turns fx)) (se_fld (ok := ok_turns) (k := 32) (se_var 1) rfl (hok_turns fx))) (se_and (se_cmp (eqoE_sound c.co (eqt fx) c.ro) (se_fld (ok := ok_used) (k := 34) (se_var 0) rfl (hok_used fx)) (se_fld (ok := ok_used) (k := 34) (se_var 1) rfl (hok_used fx))) (se_and (se_cmp (eqoE_sound c.co (eqt fx) c.ro) (se_fld (ok := ok_ends) (k := 1) (se_var 0) rfl (hok_ends fx)) (se_fld (ok := ok_ends) (k := 1) (se_var 1) rfl (hok_ends fx))) (se_one (se_cmp (eqoE_sound c.co (eqt fx) c.ro) (se_fld (ok := ok_stop) (k := 35) (se_var 0) rfl (hok_stop fx)) (se_fld (ok := ok_stop) (k := 35) (se_var 1) rfl (hok_stop fx))))))))))
theorem b_Run__eq_ (fx : Fx K mg fd) : BodyOk P w K mg base (ct K) (fns K fd) ⟨He.fAd K d_Run__eq_.at_, fd 55, ["self", "other"]⟩ ⟨2, 2, false, m_Run__eq_⟩ :=
  ⟨_, "Run.__eq__", _, _, _, _, _, N_Run__eq_, fx.D_Run__eq_, sc_Run__eq_, rfl, rfl, by decide, fun call n co cdv A outer s H E hr => t_Run__eq_ fx call n cdv A outer s H E ⟨co, hr⟩⟩
abbrev N_Way__init_ : List Str := ["self", "turns", "reads", "sayings", "ends", "stop"]
theorem sc_Way__init_ : FnScope N_Way__init_ ["self", "turns", "reads", "sayings", "ends", "stop"] (defScope s_Way__init_) := ⟨by kernel_rfl, by kernel_rfl, by kernel_rfl, by decide +kernel, rfl, by decide +kernel, by decide +kernel⟩
theorem t_Way__init_ (fx : Fx K mg fd) (call : CallT) (n : Nat) (cdv : Value) (A : Around) (outer : List Env) (s : Shared) (H : Hp) (E : XK) (c : Cq (cxOf (L2.CX P w) P w K mg base N_Way__init_ "Way.__init__" (defScope s_Way__init_) (He.fAd K d_Way__init_.at_) cdv A outer s H E) (ct K) (fns K fd) call n) :
    SSs (cxOf (L2.CX P w) P w K mg base N_Way__init_ "Way.__init__" (defScope s_Way__init_) (He.fAd K d_Way__init_.at_) cdv A outer s H E) (ct K) (fun c d _ H' => E c d H') (defBody s_Way__init_) (m_Way__init_ call) := by
  have tk : Takes (cxOf (L2.CX P w) P w K mg base N_Way__init_ "Way.__init__" (defScope s_Way__init_) (He.fAd K d_Way__init_.at_) cdv A outer s H E) (fun cls d _ H' => E cls d H') := takes_of rfl rfl rfl rfl
  have nd := sc_Way__init_.nd
  have po : PassesOwn (model P w) (cxOf (L2.CX P w) P w K mg base N_Way__init_ "Way.__init__" (defScope s_Way__init_) (He.fAd K d_Way__init_.at_) cdv A outer s H E).A (cxOf (L2.CX P w) P w K mg base N_Way__init_ "Way.__init__" (defScope s_Way__init_) (He.fAd K d_Way__init_.at_) cdv A outer s H E).env (cxOf (L2.CX P w) P w K mg base N_Way__init_ "Way.__init__" (defScope s_Way__init_) (He.fAd K d_Way__init_.at_) cdv A outer s H E).xe := passes_of rfl
  exact (sss_cons (ss_fld (ok := ok_turns) (k := 32) (se_var 0) (se_var 1) rfl (hok_turns fx))
      (sss_cons (ss_fld (ok := ok_reads) (k := 36) (se_var 0) (se_var 2) rfl (hok_reads fx))
      (sss_cons (ss_fld (ok := ok_sayings) (k := 37) (se_var 0) (se_var 3) rfl (hok_sayings fx))
      (sss_cons (ss_fld (ok := ok_ends) (k := 1) (se_var 0) (se_var 4) rfl (hok_ends fx))
      (sss_one (ss_fld (ok := ok_stop) (k := 35) (se_var 0) (se_var 5) rfl (hok_stop fx)))))))
theorem b_Way__init_ (fx : Fx K mg fd) : BodyOk P w K mg base (ct K) (fns K fd) ⟨He.fAd K d_Way__init_.at_, fd 56, ["self", "turns", "reads", "sayings", "ends", "stop"]⟩ ⟨6, 6, false, m_Way__init_⟩ :=
  ⟨_, "Way.__init__", _, _, _, _, _, N_Way__init_, fx.D_Way__init_, sc_Way__init_, rfl, rfl, by decide, fun call n co cdv A outer s H E hr => t_Way__init_ fx call n cdv A outer s H E ⟨co, hr⟩⟩
abbrev N_Way__eq_ : List Str := ["self", "other"]
theorem sc_Way__eq_ : FnScope N_Way__eq_ ["self", "other"] (defScope s_Way__eq_) := ⟨by kernel_rfl, by kernel_rfl, by kernel_rfl, by decide +kernel, rfl, by decide +kernel, by decide +kernel⟩
theorem t_Way__eq_ (fx : Fx K mg fd) (call : CallT) (n : Nat) (cdv : Value) (A : Around) (outer : List Env) (s : Shared) (H : Hp) (E : XK) (c : Cq (cxOf (L2.CX P w) P w K mg base N_Way__eq_ "Way.__eq__" (defScope s_Way__eq_) (He.fAd K d_Way__eq_.at_) cdv A outer s H E) (ct K) (fns K fd) call n) :
    SSs (cxOf (L2.CX P w) P w K mg base N_Way__eq_ "Way.__eq__" (defScope s_Way__eq_) (He.fAd K d_Way__eq_.at_) cdv A outer s H E) (ct K) (fun c d _ H' => E c d H') (defBody s_Way__eq_) (m_Way__eq_ call) := by
  have tk : Takes (cxOf (L2.CX P w) P w K mg base N_Way__eq_ "Way.__eq__" (defScope s_Way__eq_) (He.fAd K d_Way__eq_.at_) cdv A outer s H E) (fun cls d _ H' => E cls d H') := takes_of rfl rfl rfl rfl
  have nd := sc_Way__eq_.nd
  have po : PassesOwn (model P w) (cxOf (L2.CX P w) P w K mg base N_Way__eq_ "Way.__eq__" (defScope s_Way__eq_) (He.fAd K d_Way__eq_.at_) cdv A outer s H E).A (cxOf (L2.CX P w) P w K mg base N_Way__eq_ "Way.__eq__" (defScope s_Way__eq_) (He.fAd K d_Way__eq_.at_) cdv A outer s H E).env (cxOf (L2.CX P w) P w K mg base N_Way__eq_ "Way.__eq__" (defScope s_Way__eq_) (He.fAd K d_Way__eq_.at_) cdv A outer s H E).xe := passes_of rfl
  exact (sss_one (ss_ret' (se_and (se_isiC rfl fx.g_Way (isiOk fx (C := 26) (by decide)) rfl fx.f_isinstance (se_var 1)) (se_and (se_cmp (eqoE_sound c.co (eqt fx) c.ro) (se_fld (ok := ok_turns) (k := 32) (se_var 0) rfl (hok_turns fx)) (se_fld (ok := ok_turns) (k := 32) (se_var 1) rfl (hok_turns fx))) (se_and (se_cmp (eqoE_sound c.co (eqt fx) c.ro) (se_fld (ok := ok_reads) (k := 36) (se_var 0) rfl (hok_reads fx)) (se_fld (ok := ok_reads) (k := 36) (se_var 1) rfl (hok_reads fx))) (se_and (se_cmp (eqoE_sound c.co (eqt fx) c.ro) (se_fld (ok := ok_sayings) (k := 37) (se_var 0) rfl (hok_sayings fx)) (se_fld (ok := ok_sayings) (k := 37) (se_var 1) rfl (hok_sayings fx))) (se_and (se_cmp (eqoE_sound c.co (eqt fx) c.ro) (se_fld (ok := ok_ends) (k := 1) (se_var 0) rfl (hok_ends fx)) (se_fld (ok := ok_ends) (k := 1) (se_var 1) rfl (hok_ends fx))) (se_one (se_cmp (eqoE_sound c.co (eqt fx) c.ro) (se_fld (ok := ok_stop) (k := 35) (se_var 0) rfl (hok_stop fx)) (se_fld (ok := ok_stop) (k := 35) (se_var 1) rfl (hok_stop fx)))))))))))
theorem b_Way__eq_ (fx : Fx K mg fd) : BodyOk P w K mg base (ct K) (fns K fd) ⟨He.fAd K d_Way__eq_.at_, fd 57, ["self", "other"]⟩ ⟨2, 2, false, m_Way__eq_⟩ :=
  ⟨_, "Way.__eq__", _, _, _, _, _, N_Way__eq_, fx.D_Way__eq_, sc_Way__eq_, rfl, rfl, by decide, fun call n co cdv A outer s H E hr => t_Way__eq_ fx call n cdv A outer s H E ⟨co, hr⟩⟩
abbrev N_Found__init_ : List Str := ["self", "turns", "filling"]
theorem sc_Found__init_ : FnScope N_Found__init_ ["self", "turns", "filling"] (defScope s_Found__init_) := ⟨by kernel_rfl, by kernel_rfl, by kernel_rfl, by decide +kernel, rfl, by decide +kernel, by decide +kernel⟩
theorem t_Found__init_ (fx : Fx K mg fd) (call : CallT) (n : Nat) (cdv : Value) (A : Around) (outer : List Env) (s : Shared) (H : Hp) (E : XK) (c : Cq (cxOf (L2.CX P w) P w K mg base N_Found__init_ "Found.__init__" (defScope s_Found__init_) (He.fAd K d_Found__init_.at_) cdv A outer s H E) (ct K) (fns K fd) call n) :
    SSs (cxOf (L2.CX P w) P w K mg base N_Found__init_ "Found.__init__" (defScope s_Found__init_) (He.fAd K d_Found__init_.at_) cdv A outer s H E) (ct K) (fun c d _ H' => E c d H') (defBody s_Found__init_) (m_Found__init_ call) := by
  have tk : Takes (cxOf (L2.CX P w) P w K mg base N_Found__init_ "Found.__init__" (defScope s_Found__init_) (He.fAd K d_Found__init_.at_) cdv A outer s H E) (fun cls d _ H' => E cls d H') := takes_of rfl rfl rfl rfl
  have nd := sc_Found__init_.nd
  have po : PassesOwn (model P w) (cxOf (L2.CX P w) P w K mg base N_Found__init_ "Found.__init__" (defScope s_Found__init_) (He.fAd K d_Found__init_.at_) cdv A outer s H E).A (cxOf (L2.CX P w) P w K mg base N_Found__init_ "Found.__init__" (defScope s_Found__init_) (He.fAd K d_Found__init_.at_) cdv A outer s H E).env (cxOf (L2.CX P w) P w K mg base N_Found__init_ "Found.__init__" (defScope s_Found__init_) (He.fAd K d_Found__init_.at_) cdv A outer s H E).xe := passes_of rfl
  exact (sss_cons (ss_fld (ok := ok_turns) (k := 32) (se_var 0) (se_var 1) rfl (hok_turns fx))
      (sss_one (ss_fld (ok := ok_filling) (k := 38) (se_var 0) (se_var 2) rfl (hok_filling fx))))
theorem b_Found__init_ (fx : Fx K mg fd) : BodyOk P w K mg base (ct K) (fns K fd) ⟨He.fAd K d_Found__init_.at_, fd 58, ["self", "turns", "filling"]⟩ ⟨3, 3, false, m_Found__init_⟩ :=
  ⟨_, "Found.__init__", _, _, _, _, _, N_Found__init_, fx.D_Found__init_, sc_Found__init_, rfl, rfl, by decide, fun call n co cdv A outer s H E hr => t_Found__init_ fx call n cdv A outer s H E ⟨co, hr⟩⟩
abbrev N_Found__eq_ : List Str := ["self", "other"]
theorem sc_Found__eq_ : FnScope N_Found__eq_ ["self", "other"] (defScope s_Found__eq_) := ⟨by kernel_rfl, by kernel_rfl, by kernel_rfl, by decide +kernel, rfl, by decide +kernel, by decide +kernel⟩
theorem t_Found__eq_ (fx : Fx K mg fd) (call : CallT) (n : Nat) (cdv : Value) (A : Around) (outer : List Env) (s : Shared) (H : Hp) (E : XK) (c : Cq (cxOf (L2.CX P w) P w K mg base N_Found__eq_ "Found.__eq__" (defScope s_Found__eq_) (He.fAd K d_Found__eq_.at_) cdv A outer s H E) (ct K) (fns K fd) call n) :
    SSs (cxOf (L2.CX P w) P w K mg base N_Found__eq_ "Found.__eq__" (defScope s_Found__eq_) (He.fAd K d_Found__eq_.at_) cdv A outer s H E) (ct K) (fun c d _ H' => E c d H') (defBody s_Found__eq_) (m_Found__eq_ call) := by
  have tk : Takes (cxOf (L2.CX P w) P w K mg base N_Found__eq_ "Found.__eq__" (defScope s_Found__eq_) (He.fAd K d_Found__eq_.at_) cdv A outer s H E) (fun cls d _ H' => E cls d H') := takes_of rfl rfl rfl rfl
  have nd := sc_Found__eq_.nd
  have po : PassesOwn (model P w) (cxOf (L2.CX P w) P w K mg base N_Found__eq_ "Found.__eq__" (defScope s_Found__eq_) (He.fAd K d_Found__eq_.at_) cdv A outer s H E).A (cxOf (L2.CX P w) P w K mg base N_Found__eq_ "Found.__eq__" (defScope s_Found__eq_) (He.fAd K d_Found__eq_.at_) cdv A outer s H E).env (cxOf (L2.CX P w) P w K mg base N_Found__eq_ "Found.__eq__" (defScope s_Found__eq_) (He.fAd K d_Found__eq_.at_) cdv A outer s H E).xe := passes_of rfl
  exact (sss_one (ss_ret' (se_and (se_isiC rfl fx.g_Found (isiOk fx (C := 27) (by decide)) rfl fx.f_isinstance (se_var 1)) (se_and (se_cmp (eqoE_sound c.co (eqt fx) c.ro) (se_fld (ok := ok_turns) (k := 32) (se_var 0) rfl (hok_turns fx)) (se_fld (ok := ok_turns) (k := 32) (se_var 1) rfl (hok_turns fx))) (se_one (se_cmp (eqoE_sound c.co (eqt fx) c.ro) (se_fld (ok := ok_filling) (k := 38) (se_var 0) rfl (hok_filling fx)) (se_fld (ok := ok_filling) (k := 38) (se_var 1) rfl (hok_filling fx))))))))
theorem b_Found__eq_ (fx : Fx K mg fd) : BodyOk P w K mg base (ct K) (fns K fd) ⟨He.fAd K d_Found__eq_.at_, fd 59, ["self", "other"]⟩ ⟨2, 2, false, m_Found__eq_⟩ :=
  ⟨_, "Found.__eq__", _, _, _, _, _, N_Found__eq_, fx.D_Found__eq_, sc_Found__eq_, rfl, rfl, by decide, fun call n co cdv A outer s H E hr => t_Found__eq_ fx call n cdv A outer s H E ⟨co, hr⟩⟩
abbrev N_Never__init_ : List Str := ["self", "papers"]
theorem sc_Never__init_ : FnScope N_Never__init_ ["self", "papers"] (defScope s_Never__init_) := ⟨by kernel_rfl, by kernel_rfl, by kernel_rfl, by decide +kernel, rfl, by decide +kernel, by decide +kernel⟩
theorem t_Never__init_ (fx : Fx K mg fd) (call : CallT) (n : Nat) (cdv : Value) (A : Around) (outer : List Env) (s : Shared) (H : Hp) (E : XK) (c : Cq (cxOf (L2.CX P w) P w K mg base N_Never__init_ "Never.__init__" (defScope s_Never__init_) (He.fAd K d_Never__init_.at_) cdv A outer s H E) (ct K) (fns K fd) call n) :
    SSs (cxOf (L2.CX P w) P w K mg base N_Never__init_ "Never.__init__" (defScope s_Never__init_) (He.fAd K d_Never__init_.at_) cdv A outer s H E) (ct K) (fun c d _ H' => E c d H') (defBody s_Never__init_) (m_Never__init_ call) := by
  have tk : Takes (cxOf (L2.CX P w) P w K mg base N_Never__init_ "Never.__init__" (defScope s_Never__init_) (He.fAd K d_Never__init_.at_) cdv A outer s H E) (fun cls d _ H' => E cls d H') := takes_of rfl rfl rfl rfl
  have nd := sc_Never__init_.nd
  have po : PassesOwn (model P w) (cxOf (L2.CX P w) P w K mg base N_Never__init_ "Never.__init__" (defScope s_Never__init_) (He.fAd K d_Never__init_.at_) cdv A outer s H E).A (cxOf (L2.CX P w) P w K mg base N_Never__init_ "Never.__init__" (defScope s_Never__init_) (He.fAd K d_Never__init_.at_) cdv A outer s H E).env (cxOf (L2.CX P w) P w K mg base N_Never__init_ "Never.__init__" (defScope s_Never__init_) (He.fAd K d_Never__init_.at_) cdv A outer s H E).xe := passes_of rfl
  exact (sss_one (ss_fld (ok := ok_papers) (k := 39) (se_var 0) (se_var 1) rfl (hok_papers fx)))
theorem b_Never__init_ (fx : Fx K mg fd) : BodyOk P w K mg base (ct K) (fns K fd) ⟨He.fAd K d_Never__init_.at_, fd 60, ["self", "papers"]⟩ ⟨2, 2, false, m_Never__init_⟩ :=
  ⟨_, "Never.__init__", _, _, _, _, _, N_Never__init_, fx.D_Never__init_, sc_Never__init_, rfl, rfl, by decide, fun call n co cdv A outer s H E hr => t_Never__init_ fx call n cdv A outer s H E ⟨co, hr⟩⟩
abbrev N_Never__eq_ : List Str := ["self", "other"]
theorem sc_Never__eq_ : FnScope N_Never__eq_ ["self", "other"] (defScope s_Never__eq_) := ⟨by kernel_rfl, by kernel_rfl, by kernel_rfl, by decide +kernel, rfl, by decide +kernel, by decide +kernel⟩
theorem t_Never__eq_ (fx : Fx K mg fd) (call : CallT) (n : Nat) (cdv : Value) (A : Around) (outer : List Env) (s : Shared) (H : Hp) (E : XK) (c : Cq (cxOf (L2.CX P w) P w K mg base N_Never__eq_ "Never.__eq__" (defScope s_Never__eq_) (He.fAd K d_Never__eq_.at_) cdv A outer s H E) (ct K) (fns K fd) call n) :
    SSs (cxOf (L2.CX P w) P w K mg base N_Never__eq_ "Never.__eq__" (defScope s_Never__eq_) (He.fAd K d_Never__eq_.at_) cdv A outer s H E) (ct K) (fun c d _ H' => E c d H') (defBody s_Never__eq_) (m_Never__eq_ call) := by
  have tk : Takes (cxOf (L2.CX P w) P w K mg base N_Never__eq_ "Never.__eq__" (defScope s_Never__eq_) (He.fAd K d_Never__eq_.at_) cdv A outer s H E) (fun cls d _ H' => E cls d H') := takes_of rfl rfl rfl rfl
  have nd := sc_Never__eq_.nd
  have po : PassesOwn (model P w) (cxOf (L2.CX P w) P w K mg base N_Never__eq_ "Never.__eq__" (defScope s_Never__eq_) (He.fAd K d_Never__eq_.at_) cdv A outer s H E).A (cxOf (L2.CX P w) P w K mg base N_Never__eq_ "Never.__eq__" (defScope s_Never__eq_) (He.fAd K d_Never__eq_.at_) cdv A outer s H E).env (cxOf (L2.CX P w) P w K mg base N_Never__eq_ "Never.__eq__" (defScope s_Never__eq_) (He.fAd K d_Never__eq_.at_) cdv A outer s H E).xe := passes_of rfl
  exact (sss_one (ss_ret' (se_and (se_isiC rfl fx.g_Never (isiOk fx (C := 28) (by decide)) rfl fx.f_isinstance (se_var 1)) (se_one (se_cmp (eqoE_sound c.co (eqt fx) c.ro) (se_fld (ok := ok_papers) (k := 39) (se_var 0) rfl (hok_papers fx)) (se_fld (ok := ok_papers) (k := 39) (se_var 1) rfl (hok_papers fx)))))))
theorem b_Never__eq_ (fx : Fx K mg fd) : BodyOk P w K mg base (ct K) (fns K fd) ⟨He.fAd K d_Never__eq_.at_, fd 61, ["self", "other"]⟩ ⟨2, 2, false, m_Never__eq_⟩ :=
  ⟨_, "Never.__eq__", _, _, _, _, _, N_Never__eq_, fx.D_Never__eq_, sc_Never__eq_, rfl, rfl, by decide, fun call n co cdv A outer s H E hr => t_Never__eq_ fx call n cdv A outer s H E ⟨co, hr⟩⟩
abbrev N_Trial__init_ : List Str := ["self", "tolds", "refused"]
theorem sc_Trial__init_ : FnScope N_Trial__init_ ["self", "tolds", "refused"] (defScope s_Trial__init_) := ⟨by kernel_rfl, by kernel_rfl, by kernel_rfl, by decide +kernel, rfl, by decide +kernel, by decide +kernel⟩
theorem t_Trial__init_ (fx : Fx K mg fd) (call : CallT) (n : Nat) (cdv : Value) (A : Around) (outer : List Env) (s : Shared) (H : Hp) (E : XK) (c : Cq (cxOf (L2.CX P w) P w K mg base N_Trial__init_ "Trial.__init__" (defScope s_Trial__init_) (He.fAd K d_Trial__init_.at_) cdv A outer s H E) (ct K) (fns K fd) call n) :
    SSs (cxOf (L2.CX P w) P w K mg base N_Trial__init_ "Trial.__init__" (defScope s_Trial__init_) (He.fAd K d_Trial__init_.at_) cdv A outer s H E) (ct K) (fun c d _ H' => E c d H') (defBody s_Trial__init_) (m_Trial__init_ call) := by
  have tk : Takes (cxOf (L2.CX P w) P w K mg base N_Trial__init_ "Trial.__init__" (defScope s_Trial__init_) (He.fAd K d_Trial__init_.at_) cdv A outer s H E) (fun cls d _ H' => E cls d H') := takes_of rfl rfl rfl rfl
  have nd := sc_Trial__init_.nd
  have po : PassesOwn (model P w) (cxOf (L2.CX P w) P w K mg base N_Trial__init_ "Trial.__init__" (defScope s_Trial__init_) (He.fAd K d_Trial__init_.at_) cdv A outer s H E).A (cxOf (L2.CX P w) P w K mg base N_Trial__init_ "Trial.__init__" (defScope s_Trial__init_) (He.fAd K d_Trial__init_.at_) cdv A outer s H E).env (cxOf (L2.CX P w) P w K mg base N_Trial__init_ "Trial.__init__" (defScope s_Trial__init_) (He.fAd K d_Trial__init_.at_) cdv A outer s H E).xe := passes_of rfl
  exact (sss_cons (ss_fld (ok := ok_tolds) (k := 40) (se_var 0) (se_var 1) rfl (hok_tolds fx))
      (sss_one (ss_fld (ok := ok_refused) (k := 41) (se_var 0) (se_var 2) rfl (hok_refused fx))))
theorem b_Trial__init_ (fx : Fx K mg fd) : BodyOk P w K mg base (ct K) (fns K fd) ⟨He.fAd K d_Trial__init_.at_, fd 62, ["self", "tolds", "refused"]⟩ ⟨3, 3, false, m_Trial__init_⟩ :=
  ⟨_, "Trial.__init__", _, _, _, _, _, N_Trial__init_, fx.D_Trial__init_, sc_Trial__init_, rfl, rfl, by decide, fun call n co cdv A outer s H E hr => t_Trial__init_ fx call n cdv A outer s H E ⟨co, hr⟩⟩
abbrev N_Trial__eq_ : List Str := ["self", "other"]
theorem sc_Trial__eq_ : FnScope N_Trial__eq_ ["self", "other"] (defScope s_Trial__eq_) := ⟨by kernel_rfl, by kernel_rfl, by kernel_rfl, by decide +kernel, rfl, by decide +kernel, by decide +kernel⟩
theorem t_Trial__eq_ (fx : Fx K mg fd) (call : CallT) (n : Nat) (cdv : Value) (A : Around) (outer : List Env) (s : Shared) (H : Hp) (E : XK) (c : Cq (cxOf (L2.CX P w) P w K mg base N_Trial__eq_ "Trial.__eq__" (defScope s_Trial__eq_) (He.fAd K d_Trial__eq_.at_) cdv A outer s H E) (ct K) (fns K fd) call n) :
    SSs (cxOf (L2.CX P w) P w K mg base N_Trial__eq_ "Trial.__eq__" (defScope s_Trial__eq_) (He.fAd K d_Trial__eq_.at_) cdv A outer s H E) (ct K) (fun c d _ H' => E c d H') (defBody s_Trial__eq_) (m_Trial__eq_ call) := by
  have tk : Takes (cxOf (L2.CX P w) P w K mg base N_Trial__eq_ "Trial.__eq__" (defScope s_Trial__eq_) (He.fAd K d_Trial__eq_.at_) cdv A outer s H E) (fun cls d _ H' => E cls d H') := takes_of rfl rfl rfl rfl
  have nd := sc_Trial__eq_.nd
  have po : PassesOwn (model P w) (cxOf (L2.CX P w) P w K mg base N_Trial__eq_ "Trial.__eq__" (defScope s_Trial__eq_) (He.fAd K d_Trial__eq_.at_) cdv A outer s H E).A (cxOf (L2.CX P w) P w K mg base N_Trial__eq_ "Trial.__eq__" (defScope s_Trial__eq_) (He.fAd K d_Trial__eq_.at_) cdv A outer s H E).env (cxOf (L2.CX P w) P w K mg base N_Trial__eq_ "Trial.__eq__" (defScope s_Trial__eq_) (He.fAd K d_Trial__eq_.at_) cdv A outer s H E).xe := passes_of rfl
  exact (sss_one (ss_ret' (se_and (se_isiC rfl fx.g_Trial (isiOk fx (C := 29) (by decide)) rfl fx.f_isinstance (se_var 1)) (se_and (se_cmp (eqoE_sound c.co (eqt fx) c.ro) (se_fld (ok := ok_tolds) (k := 40) (se_var 0) rfl (hok_tolds fx)) (se_fld (ok := ok_tolds) (k := 40) (se_var 1) rfl (hok_tolds fx))) (se_one (se_cmp (eqoE_sound c.co (eqt fx) c.ro) (se_fld (ok := ok_refused) (k := 41) (se_var 0) rfl (hok_refused fx)) (se_fld (ok := ok_refused) (k := 41) (se_var 1) rfl (hok_refused fx))))))))
theorem b_Trial__eq_ (fx : Fx K mg fd) : BodyOk P w K mg base (ct K) (fns K fd) ⟨He.fAd K d_Trial__eq_.at_, fd 63, ["self", "other"]⟩ ⟨2, 2, false, m_Trial__eq_⟩ :=
  ⟨_, "Trial.__eq__", _, _, _, _, _, N_Trial__eq_, fx.D_Trial__eq_, sc_Trial__eq_, rfl, rfl, by decide, fun call n co cdv A outer s H E hr => t_Trial__eq_ fx call n cdv A outer s H E ⟨co, hr⟩⟩
abbrev N__law_source : List Str := ["_law_script"]
theorem sc__law_source : FnScope N__law_source ["_law_script"] (defScope s__law_source) := ⟨by kernel_rfl, by kernel_rfl, by kernel_rfl, by decide +kernel, rfl, by decide +kernel, by decide +kernel⟩
theorem t__law_source (fx : Fx K mg fd) (call : CallT) (n : Nat) (cdv : Value) (A : Around) (outer : List Env) (s : Shared) (H : Hp) (E : XK) (c : Cq (cxOf (L2.CX P w) P w K mg base N__law_source "_law_source" (defScope s__law_source) (He.fAd K d__law_source.at_) cdv A outer s H E) (ct K) (fns K fd) call n) :
    SSs (cxOf (L2.CX P w) P w K mg base N__law_source "_law_source" (defScope s__law_source) (He.fAd K d__law_source.at_) cdv A outer s H E) (ct K) (fun c d _ H' => E c d H') (defBody s__law_source) (m__law_source call) := by
  have tk : Takes (cxOf (L2.CX P w) P w K mg base N__law_source "_law_source" (defScope s__law_source) (He.fAd K d__law_source.at_) cdv A outer s H E) (fun cls d _ H' => E cls d H') := takes_of rfl rfl rfl rfl
  have nd := sc__law_source.nd
  have po : PassesOwn (model P w) (cxOf (L2.CX P w) P w K mg base N__law_source "_law_source" (defScope s__law_source) (He.fAd K d__law_source.at_) cdv A outer s H E).A (cxOf (L2.CX P w) P w K mg base N__law_source "_law_source" (defScope s__law_source) (He.fAd K d__law_source.at_) cdv A outer s H E).env (cxOf (L2.CX P w) P w K mg base N__law_source "_law_source" (defScope s__law_source) (He.fAd K d__law_source.at_) cdv A outer s H E).xe := passes_of rfl
  exact (sss_one (ss_ret' (se_lst (sa_cons (se_callTy listV_sound rfl fx.f_list (by decide +kernel) (sa_cons (se_var 0) sa_nil)) (sa_cons se_int (sa_cons se_int (sa_cons se_int sa_nil)))))))
theorem b__law_source (fx : Fx K mg fd) : BodyOk P w K mg base (ct K) (fns K fd) ⟨He.fAd K d__law_source.at_, fd 64, ["_law_script"]⟩ ⟨1, 1, true, m__law_source⟩ :=
  ⟨_, "_law_source", _, _, _, _, _, N__law_source, fx.D__law_source, sc__law_source, rfl, rfl, by decide, fun call n co cdv A outer s H E hr => t__law_source fx call n cdv A outer s H E ⟨co, hr⟩⟩
abbrev N__law_take : List Str := ["_law_source_here", "_law_many", "_law_cell", "_law_mixed", "_law_told_here"]
theorem sc__law_take : FnScope N__law_take ["_law_source_here", "_law_many"] (defScope s__law_take) := ⟨by kernel_rfl, by kernel_rfl, by kernel_rfl, by decide +kernel, rfl, by decide +kernel, by decide +kernel⟩
theorem t__law_take (fx : Fx K mg fd) (call : CallT) (n : Nat) (cdv : Value) (A : Around) (outer : List Env) (s : Shared) (H : Hp) (E : XK) (c : Cq (cxOf (L2.CX P w) P w K mg base N__law_take "_law_take" (defScope s__law_take) (He.fAd K d__law_take.at_) cdv A outer s H E) (ct K) (fns K fd) call n) :
    SSs (cxOf (L2.CX P w) P w K mg base N__law_take "_law_take" (defScope s__law_take) (He.fAd K d__law_take.at_) cdv A outer s H E) (ct K) (fun c d _ H' => E c d H') (defBody s__law_take) (m__law_take call) := by
  have tk : Takes (cxOf (L2.CX P w) P w K mg base N__law_take "_law_take" (defScope s__law_take) (He.fAd K d__law_take.at_) cdv A outer s H E) (fun cls d _ H' => E cls d H') := takes_of rfl rfl rfl rfl
  have nd := sc__law_take.nd
  have po : PassesOwn (model P w) (cxOf (L2.CX P w) P w K mg base N__law_take "_law_take" (defScope s__law_take) (He.fAd K d__law_take.at_) cdv A outer s H E).A (cxOf (L2.CX P w) P w K mg base N__law_take "_law_take" (defScope s__law_take) (He.fAd K d__law_take.at_) cdv A outer s H E).env (cxOf (L2.CX P w) P w K mg base N__law_take "_law_take" (defScope s__law_take) (He.fAd K d__law_take.at_) cdv A outer s H E).xe := passes_of rfl
  exact (sss_cons (ss_if (st_cmp eqF_sound (se_ix ix_sound (se_var 0) se_int) se_int)
      (sss_cons (ss_set nd (i := 2) rfl (by first | exact .inl rfl | exact .inr rfl) se_int)
      (sss_cons (ss_if (st_cmp lt_sound (se_ix ix_sound (se_var 0) se_int) (se_callB len_sound rfl fx.f_len (by decide +kernel) (sa_cons (se_ix ix_sound (se_var 0) se_int) sa_nil)))
      (sss_one (ss_set nd (i := 2) rfl (by first | exact .inl rfl | exact .inr rfl) (se_ix ix_sound (se_ix ix_sound (se_var 0) se_int) (se_ix ix_sound (se_var 0) se_int))))
      sss_nil)
      (sss_cons (ss_asg (se_bin add_sound (se_ix ix_sound (se_var 0) se_int) se_int) (sg_store (se_var 0) se_int))
      (sss_one (ss_if (st_cmp ge_sound (se_var 2) (se_bin pow_sound se_int se_int))
      (sss_one (ss_asg (se_var 2) (sg_store (se_var 0) se_int)))
      (sss_cons (ss_set nd (i := 3) rfl (by first | exact .inl rfl | exact .inr rfl) (se_bin mod_sound (se_callTy int_sound rfl fx.f_int (by decide +kernel) (sa_cons (se_bin add_sound (se_bin add_sound (se_bin add_sound (se_bin mulI_sound (se_ix ix_sound (se_var 0) se_int) se_int) (se_bin mulI_sound (se_bin mod_sound (se_callTy int_sound rfl fx.f_int (by decide +kernel) (sa_cons (se_var 2) sa_nil)) se_int) se_int)) (se_bin mulI_sound (se_ix ix_sound (se_var 0) se_int) se_int)) se_int) sa_nil)) se_int))
      (sss_cons (ss_set nd (i := 3) rfl (by first | exact .inl rfl | exact .inr rfl) (se_bin mod_sound (se_callTy int_sound rfl fx.f_int (by decide +kernel) (sa_cons (se_bin add_sound (se_bin add_sound (se_bin mulI_sound (se_var 3) (se_var 3)) (se_bin mulI_sound (se_ix ix_sound (se_var 0) se_int) se_int)) se_int) sa_nil)) se_int))
      (sss_cons (ss_asg (se_var 3) (sg_store (se_var 0) se_int))
      (sss_one (ss_ret' (se_bin mod_sound (se_bin div_sound (se_var 3) se_int) (se_var 1))))))))))))
      sss_nil)
      (sss_cons (ss_set nd (i := 4) rfl (by first | exact .inl rfl | exact .inr rfl) (se_bin mod_sound (se_callTy int_sound rfl fx.f_int (by decide +kernel) (sa_cons (se_ix ix_sound (se_var 0) se_int) sa_nil)) (se_var 1)))
      (sss_cons (ss_asg (se_bin div_sound (se_ix ix_sound (se_var 0) se_int) (se_var 1)) (sg_store (se_var 0) se_int))
      (sss_one (ss_ret' (se_var 4))))))
theorem b__law_take (fx : Fx K mg fd) : BodyOk P w K mg base (ct K) (fns K fd) ⟨He.fAd K d__law_take.at_, fd 65, ["_law_source_here", "_law_many"]⟩ ⟨2, 5, false, m__law_take⟩ :=
  ⟨_, "_law_take", _, _, _, _, _, N__law_take, fx.D__law_take, sc__law_take, rfl, rfl, by decide, fun call n co cdv A outer s H E hr => t__law_take fx call n cdv A outer s H E ⟨co, hr⟩⟩
abbrev N__law_book : List Str := ["_law_size"]
theorem sc__law_book : FnScope N__law_book ["_law_size"] (defScope s__law_book) := ⟨by kernel_rfl, by kernel_rfl, by kernel_rfl, by decide +kernel, rfl, by decide +kernel, by decide +kernel⟩
theorem t__law_book (fx : Fx K mg fd) (call : CallT) (n : Nat) (cdv : Value) (A : Around) (outer : List Env) (s : Shared) (H : Hp) (E : XK) (c : Cq (cxOf (L2.CX P w) P w K mg base N__law_book "_law_book" (defScope s__law_book) (He.fAd K d__law_book.at_) cdv A outer s H E) (ct K) (fns K fd) call n) :
    SSs (cxOf (L2.CX P w) P w K mg base N__law_book "_law_book" (defScope s__law_book) (He.fAd K d__law_book.at_) cdv A outer s H E) (ct K) (fun c d _ H' => E c d H') (defBody s__law_book) (m__law_book call) := by
  have tk : Takes (cxOf (L2.CX P w) P w K mg base N__law_book "_law_book" (defScope s__law_book) (He.fAd K d__law_book.at_) cdv A outer s H E) (fun cls d _ H' => E cls d H') := takes_of rfl rfl rfl rfl
  have nd := sc__law_book.nd
  have po : PassesOwn (model P w) (cxOf (L2.CX P w) P w K mg base N__law_book "_law_book" (defScope s__law_book) (He.fAd K d__law_book.at_) cdv A outer s H E).A (cxOf (L2.CX P w) P w K mg base N__law_book "_law_book" (defScope s__law_book) (He.fAd K d__law_book.at_) cdv A outer s H E).env (cxOf (L2.CX P w) P w K mg base N__law_book "_law_book" (defScope s__law_book) (He.fAd K d__law_book.at_) cdv A outer s H E).xe := passes_of rfl
  exact (sss_one (ss_ret' (sc_makeD ⟨c.co, c.ro⟩ tk fx.j_Book__init__1 fx.m_Book fx.g_Book rfl rfl (sa_cons (se_lv (sa_cons (se_tup (sa_cons (se_bin mulT_sound (se_tup (sa_cons se_int sa_nil)) (se_var 0)) (sa_cons (se_tup (sa_cons (se_un neg_sound se_int) sa_nil)) sa_nil))) sa_nil)) (sa_cons (se_lv (sa_cons (se_tup (sa_cons se_int sa_nil)) sa_nil)) (sa_cons (se_lv (sa_cons (se_tup (sa_cons se_int (sa_cons (se_tup (sa_cons se_int sa_nil)) sa_nil))) sa_nil)) sa_nil))))))
theorem b__law_book (fx : Fx K mg fd) : BodyOk P w K mg base (ct K) (fns K fd) ⟨He.fAd K d__law_book.at_, fd 66, ["_law_size"]⟩ ⟨1, 1, false, m__law_book⟩ :=
  ⟨_, "_law_book", _, _, _, _, _, N__law_book, fx.D__law_book, sc__law_book, rfl, rfl, by decide, fun call n co cdv A outer s H E hr => t__law_book fx call n cdv A outer s H E ⟨co, hr⟩⟩
abbrev N__law_part : List Str := ["_law_kind", "_law_size", "_law_k"]
theorem sc__law_part : FnScope N__law_part ["_law_kind", "_law_size"] (defScope s__law_part) := ⟨by kernel_rfl, by kernel_rfl, by kernel_rfl, by decide +kernel, rfl, by decide +kernel, by decide +kernel⟩
theorem t__law_part (fx : Fx K mg fd) (call : CallT) (n : Nat) (cdv : Value) (A : Around) (outer : List Env) (s : Shared) (H : Hp) (E : XK) (c : Cq (cxOf (L2.CX P w) P w K mg base N__law_part "_law_part" (defScope s__law_part) (He.fAd K d__law_part.at_) cdv A outer s H E) (ct K) (fns K fd) call n) :
    SSs (cxOf (L2.CX P w) P w K mg base N__law_part "_law_part" (defScope s__law_part) (He.fAd K d__law_part.at_) cdv A outer s H E) (ct K) (fun c d _ H' => E c d H') (defBody s__law_part) (m__law_part call) := by
  have tk : Takes (cxOf (L2.CX P w) P w K mg base N__law_part "_law_part" (defScope s__law_part) (He.fAd K d__law_part.at_) cdv A outer s H E) (fun cls d _ H' => E cls d H') := takes_of rfl rfl rfl rfl
  have nd := sc__law_part.nd
  have po : PassesOwn (model P w) (cxOf (L2.CX P w) P w K mg base N__law_part "_law_part" (defScope s__law_part) (He.fAd K d__law_part.at_) cdv A outer s H E).A (cxOf (L2.CX P w) P w K mg base N__law_part "_law_part" (defScope s__law_part) (He.fAd K d__law_part.at_) cdv A outer s H E).env (cxOf (L2.CX P w) P w K mg base N__law_part "_law_part" (defScope s__law_part) (He.fAd K d__law_part.at_) cdv A outer s H E).xe := passes_of rfl
  exact (sss_cons (ss_if (st_cmp eqF_sound (se_var 0) se_str)
      (sss_one (ss_ret' (se_callTy tuple_sound rfl fx.f_tuple (by decide +kernel) (sa_cons (se_lc false rfl nd (si_rng1 rfl fx.f_range (sa_cons (se_bin add_sound se_int (se_bin mod_sound (se_var 1) se_int)) sa_nil)) (own := [("_law_k", 2)]) (blkOk_by (by first | decide +kernel | kernel_rfl)) rfl (fun _ _ _ _ _ => (sgc_name nd (i := 2) rfl (by first | exact .inl rfl | exact .inr rfl) (by decide))) (fun _ _ _ _ _ => spt_nil) (fun _ _ _ _ _ => (se_bin mulI_sound (se_bin add_sound (se_var 1) (se_var 2)) (se_bin add_sound (se_var 1) se_int)))) sa_nil))))
      sss_nil)
      (sss_cons (ss_if (st_cmp eqF_sound (se_var 0) se_str)
      (sss_one (ss_ret' (se_var 1)))
      sss_nil)
      (sss_cons (ss_if (st_cmp eqF_sound (se_var 0) se_str)
      (sss_one (ss_ret' (se_tup (sa_cons (se_bin mulT_sound (se_tup (sa_cons se_int sa_nil)) (se_var 1)) sa_nil))))
      sss_nil)
      (sss_cons (ss_if (st_cmp eqF_sound (se_var 0) se_str)
      (sss_one (ss_ret' (sc_call ⟨c.co, c.ro⟩ tk fx.i__law_book fx.g__law_book rfl rfl (sa_cons (se_var 1) sa_nil))))
      sss_nil)
      (sss_cons (ss_if (st_cmp eqF_sound (se_var 0) se_str)
      (sss_one (ss_ret' (se_ix ix_sound (se_lv (sa_cons se_str (sa_cons se_str (sa_cons se_str (sa_cons se_str sa_nil))))) (se_bin mod_sound (se_callTy int_sound rfl fx.f_int (by decide +kernel) (sa_cons (se_var 1) sa_nil)) se_int))))
      sss_nil)
      (sss_cons (ss_if (st_cmp eqF_sound (se_var 0) se_str)
      (sss_one (ss_ret' (se_cmp eqF_sound (se_bin mod_sound (se_callTy int_sound rfl fx.f_int (by decide +kernel) (sa_cons (se_var 1) sa_nil)) se_int) se_int)))
      sss_nil)
      (sss_cons (ss_if (st_cmp eqF_sound (se_var 0) se_str)
      (sss_one (ss_ret' (sc_make ⟨c.co, c.ro⟩ tk fx.i_Grammar__init_ fx.m_Grammar fx.g_Grammar rfl rfl (sa_cons (se_lv (sa_cons (se_tup (sa_cons se_str (sa_cons (se_bin mulT_sound se_str (se_var 1)) sa_nil))) sa_nil)) sa_nil))))
      sss_nil)
      (sss_cons (ss_if (st_cmp eqF_sound (se_var 0) se_str)
      (sss_one (ss_ret' (sc_call ⟨c.co, c.ro⟩ tk fx.i_filling_of fx.g_filling_of rfl rfl (sa_cons (se_lv (sa_cons (se_tup (sa_cons se_str (sa_cons (se_bin mulT_sound se_str (se_var 1)) sa_nil))) sa_nil)) sa_nil))))
      sss_nil)
      (sss_cons (ss_if (st_cmp eqF_sound (se_var 0) se_str)
      (sss_one (ss_ret' (se_tup (sa_cons (sc_make ⟨c.co, c.ro⟩ tk fx.i_Entry__init_ fx.m_Entry fx.g_Entry rfl rfl (sa_cons (sc_call ⟨c.co, c.ro⟩ tk fx.i__law_book fx.g__law_book rfl rfl (sa_cons (se_var 1) sa_nil)) (sa_cons (se_tup (sa_cons se_str (sa_cons se_int sa_nil))) (sa_cons (se_tup sa_nil) sa_nil)))) sa_nil))))
      sss_nil)
      (sss_cons (ss_if (st_cmp eqF_sound (se_var 0) se_str)
      (sss_one (ss_ret' (sc_make ⟨c.co, c.ro⟩ tk fx.i_Paper__init_ fx.m_Paper fx.g_Paper rfl rfl (sa_cons (se_tup (sa_cons (se_tup (sa_cons se_int sa_nil)) sa_nil)) (sa_cons (se_tup (sa_cons (sc_make ⟨c.co, c.ro⟩ tk fx.i_Entry__init_ fx.m_Entry fx.g_Entry rfl rfl (sa_cons (sc_call ⟨c.co, c.ro⟩ tk fx.i__law_book fx.g__law_book rfl rfl (sa_cons (se_var 1) sa_nil)) (sa_cons (se_tup (sa_cons se_str (sa_cons se_int sa_nil))) (sa_cons (se_tup sa_nil) sa_nil)))) sa_nil)) sa_nil)))))
      sss_nil)
      (sss_cons (ss_if (st_cmp eqF_sound (se_var 0) se_str)
      (sss_one (ss_ret' (se_tup (sa_cons (se_tup (sa_cons (se_bin mulT_sound (se_tup (sa_cons se_str sa_nil)) (se_var 1)) (sa_cons (se_tup (sa_cons se_str sa_nil)) sa_nil))) sa_nil))))
      sss_nil)
      (sss_cons (ss_if (st_cmp eqF_sound (se_var 0) se_str)
      (sss_one (ss_ret' (se_tup (sa_cons (se_tup (sa_cons se_str (sa_cons (se_tup (sa_cons se_str (sa_cons (se_ix ix_sound se_str (se_bin mod_sound (se_callTy int_sound rfl fx.f_int (by decide +kernel) (sa_cons (se_var 1) sa_nil)) se_int)) sa_nil))) (sa_cons se_bl sa_nil)))) sa_nil))))
      sss_nil)
      (sss_one (ss_ret' (se_tup (sa_cons (se_bin add_sound se_str (se_bin mulT_sound se_str (se_bin add_sound se_int (se_bin mod_sound (se_callTy int_sound rfl fx.f_int (by decide +kernel) (sa_cons (se_var 1) sa_nil)) se_int)))) sa_nil))))))))))))))))
theorem b__law_part (fx : Fx K mg fd) : BodyOk P w K mg base (ct K) (fns K fd) ⟨He.fAd K d__law_part.at_, fd 67, ["_law_kind", "_law_size"]⟩ ⟨2, 3, false, m__law_part⟩ :=
  ⟨_, "_law_part", _, _, _, _, _, N__law_part, fx.D__law_part, sc__law_part, rfl, rfl, by decide, fun call n co cdv A outer s H E hr => t__law_part fx call n cdv A outer s H E ⟨co, hr⟩⟩
abbrev N__law_made : List Str := ["_law_which", "_law_parts"]
theorem sc__law_made : FnScope N__law_made ["_law_which", "_law_parts"] (defScope s__law_made) := ⟨by kernel_rfl, by kernel_rfl, by kernel_rfl, by decide +kernel, rfl, by decide +kernel, by decide +kernel⟩
theorem t__law_made (fx : Fx K mg fd) (call : CallT) (n : Nat) (cdv : Value) (A : Around) (outer : List Env) (s : Shared) (H : Hp) (E : XK) (c : Cq (cxOf (L2.CX P w) P w K mg base N__law_made "_law_made" (defScope s__law_made) (He.fAd K d__law_made.at_) cdv A outer s H E) (ct K) (fns K fd) call n) :
    SSs (cxOf (L2.CX P w) P w K mg base N__law_made "_law_made" (defScope s__law_made) (He.fAd K d__law_made.at_) cdv A outer s H E) (ct K) (fun c d _ H' => E c d H') (defBody s__law_made) (m__law_made call) := by
  have tk : Takes (cxOf (L2.CX P w) P w K mg base N__law_made "_law_made" (defScope s__law_made) (He.fAd K d__law_made.at_) cdv A outer s H E) (fun cls d _ H' => E cls d H') := takes_of rfl rfl rfl rfl
  have nd := sc__law_made.nd
  have po : PassesOwn (model P w) (cxOf (L2.CX P w) P w K mg base N__law_made "_law_made" (defScope s__law_made) (He.fAd K d__law_made.at_) cdv A outer s H E).A (cxOf (L2.CX P w) P w K mg base N__law_made "_law_made" (defScope s__law_made) (He.fAd K d__law_made.at_) cdv A outer s H E).env (cxOf (L2.CX P w) P w K mg base N__law_made "_law_made" (defScope s__law_made) (He.fAd K d__law_made.at_) cdv A outer s H E).xe := passes_of rfl
  exact (sss_cons (ss_if (st_cmp eqF_sound (se_var 0) se_int)
      (sss_one (ss_ret' (sc_make ⟨c.co, c.ro⟩ tk fx.i_Clash__init_ fx.m_Clash fx.g_Clash rfl rfl (sa_cons (se_ix ix_sound (se_var 1) se_int) (sa_cons (se_ix ix_sound (se_var 1) se_int) sa_nil)))))
      sss_nil)
      (sss_cons (ss_if (st_cmp eqF_sound (se_var 0) se_int)
      (sss_one (ss_ret' (sc_make ⟨c.co, c.ro⟩ tk fx.i_Canon__init_ fx.m_Canon fx.g_Canon rfl rfl (sa_cons (se_ix ix_sound (se_var 1) se_int) (sa_cons (se_ix ix_sound (se_var 1) se_int) (sa_cons (se_ix ix_sound (se_var 1) se_int) sa_nil))))))
      sss_nil)
      (sss_cons (ss_if (st_cmp eqF_sound (se_var 0) se_int)
      (sss_one (ss_ret' (sc_make ⟨c.co, c.ro⟩ tk fx.i_Settled__init_ fx.m_Settled fx.g_Settled rfl rfl (sa_cons (se_ix ix_sound (se_var 1) se_int) (sa_cons (se_ix ix_sound (se_var 1) se_int) (sa_cons (se_ix ix_sound (se_var 1) se_int) (sa_cons (se_ix ix_sound (se_var 1) se_int) sa_nil)))))))
      sss_nil)
      (sss_cons (ss_if (st_cmp eqF_sound (se_var 0) se_int)
      (sss_one (ss_ret' (sc_make ⟨c.co, c.ro⟩ tk fx.i_Guess__init_ fx.m_Guess fx.g_Guess rfl rfl (sa_cons (se_ix ix_sound (se_var 1) se_int) (sa_cons (se_ix ix_sound (se_var 1) se_int) (sa_cons (se_ix ix_sound (se_var 1) se_int) (sa_cons (se_ix ix_sound (se_var 1) se_int) (sa_cons (se_ix ix_sound (se_var 1) se_int) (sa_cons (se_ix ix_sound (se_var 1) se_int) (sa_cons (se_ix ix_sound (se_var 1) se_int) sa_nil))))))))))
      sss_nil)
      (sss_cons (ss_if (st_cmp eqF_sound (se_var 0) se_int)
      (sss_one (ss_ret' (sc_make ⟨c.co, c.ro⟩ tk fx.i_Shape__init_ fx.m_Shape fx.g_Shape rfl rfl (sa_cons (se_ix ix_sound (se_var 1) se_int) (sa_cons (se_ix ix_sound (se_var 1) se_int) (sa_cons (se_ix ix_sound (se_var 1) se_int) (sa_cons (se_ix ix_sound (se_var 1) se_int) sa_nil)))))))
      sss_nil)
      (sss_cons (ss_if (st_cmp eqF_sound (se_var 0) se_int)
      (sss_one (ss_ret' (sc_make ⟨c.co, c.ro⟩ tk fx.i_Answer__init_ fx.m_Answer fx.g_Answer rfl rfl (sa_cons (se_ix ix_sound (se_var 1) se_int) sa_nil))))
      sss_nil)
      (sss_cons (ss_if (st_cmp eqF_sound (se_var 0) se_int)
      (sss_one (ss_ret' (sc_make ⟨c.co, c.ro⟩ tk fx.i_Carries__init_ fx.m_Carries fx.g_Carries rfl rfl (sa_cons (se_ix ix_sound (se_var 1) se_int) sa_nil))))
      sss_nil)
      (sss_cons (ss_if (st_cmp eqF_sound (se_var 0) se_int)
      (sss_one (ss_ret' (sc_make ⟨c.co, c.ro⟩ tk fx.i_Look__init_ fx.m_Look fx.g_Look rfl rfl (sa_cons (se_ix ix_sound (se_var 1) se_int) (sa_cons (se_ix ix_sound (se_var 1) se_int) sa_nil)))))
      sss_nil)
      (sss_cons (ss_if (st_cmp eqF_sound (se_var 0) se_int)
      (sss_one (ss_ret' (sc_make ⟨c.co, c.ro⟩ tk fx.i_Trail__init_ fx.m_Trail fx.g_Trail rfl rfl (sa_cons (se_ix ix_sound (se_var 1) se_int) (sa_cons (se_ix ix_sound (se_var 1) se_int) sa_nil)))))
      sss_nil)
      (sss_cons (ss_if (st_cmp eqF_sound (se_var 0) se_int)
      (sss_one (ss_ret' (sc_make ⟨c.co, c.ro⟩ tk fx.i_Pressed__init_ fx.m_Pressed fx.g_Pressed rfl rfl (sa_cons (se_ix ix_sound (se_var 1) se_int) (sa_cons (se_ix ix_sound (se_var 1) se_int) sa_nil)))))
      sss_nil)
      (sss_cons (ss_if (st_cmp eqF_sound (se_var 0) se_int)
      (sss_one (ss_ret' (sc_make ⟨c.co, c.ro⟩ tk fx.i_Stages__init_ fx.m_Stages fx.g_Stages rfl rfl (sa_cons (se_ix ix_sound (se_var 1) se_int) (sa_cons (se_ix ix_sound (se_var 1) se_int) sa_nil)))))
      sss_nil)
      (sss_one (ss_ret' (sc_call ⟨c.co, c.ro⟩ tk fx.i__law_made_later fx.g__law_made_later rfl rfl (sa_cons (se_var 0) (sa_cons (se_var 1) sa_nil))))))))))))))))
theorem b__law_made (fx : Fx K mg fd) : BodyOk P w K mg base (ct K) (fns K fd) ⟨He.fAd K d__law_made.at_, fd 68, ["_law_which", "_law_parts"]⟩ ⟨2, 2, false, m__law_made⟩ :=
  ⟨_, "_law_made", _, _, _, _, _, N__law_made, fx.D__law_made, sc__law_made, rfl, rfl, by decide, fun call n co cdv A outer s H E hr => t__law_made fx call n cdv A outer s H E ⟨co, hr⟩⟩
abbrev N__law_made_later : List Str := ["_law_which", "_law_parts"]
theorem sc__law_made_later : FnScope N__law_made_later ["_law_which", "_law_parts"] (defScope s__law_made_later) := ⟨by kernel_rfl, by kernel_rfl, by kernel_rfl, by decide +kernel, rfl, by decide +kernel, by decide +kernel⟩
theorem t__law_made_later (fx : Fx K mg fd) (call : CallT) (n : Nat) (cdv : Value) (A : Around) (outer : List Env) (s : Shared) (H : Hp) (E : XK) (c : Cq (cxOf (L2.CX P w) P w K mg base N__law_made_later "_law_made_later" (defScope s__law_made_later) (He.fAd K d__law_made_later.at_) cdv A outer s H E) (ct K) (fns K fd) call n) :
    SSs (cxOf (L2.CX P w) P w K mg base N__law_made_later "_law_made_later" (defScope s__law_made_later) (He.fAd K d__law_made_later.at_) cdv A outer s H E) (ct K) (fun c d _ H' => E c d H') (defBody s__law_made_later) (m__law_made_later call) := by
  have tk : Takes (cxOf (L2.CX P w) P w K mg base N__law_made_later "_law_made_later" (defScope s__law_made_later) (He.fAd K d__law_made_later.at_) cdv A outer s H E) (fun cls d _ H' => E cls d H') := takes_of rfl rfl rfl rfl
  have nd := sc__law_made_later.nd
  have po : PassesOwn (model P w) (cxOf (L2.CX P w) P w K mg base N__law_made_later "_law_made_later" (defScope s__law_made_later) (He.fAd K d__law_made_later.at_) cdv A outer s H E).A (cxOf (L2.CX P w) P w K mg base N__law_made_later "_law_made_later" (defScope s__law_made_later) (He.fAd K d__law_made_later.at_) cdv A outer s H E).env (cxOf (L2.CX P w) P w K mg base N__law_made_later "_law_made_later" (defScope s__law_made_later) (He.fAd K d__law_made_later.at_) cdv A outer s H E).xe := passes_of rfl
  exact (sss_cons (ss_if (st_cmp eqF_sound (se_var 0) se_int)
      (sss_one (ss_ret' (sc_make ⟨c.co, c.ro⟩ tk fx.i_Entry__init_ fx.m_Entry fx.g_Entry rfl rfl (sa_cons (se_ix ix_sound (se_var 1) se_int) (sa_cons (se_ix ix_sound (se_var 1) se_int) (sa_cons (se_ix ix_sound (se_var 1) se_int) sa_nil))))))
      sss_nil)
      (sss_cons (ss_if (st_cmp eqF_sound (se_var 0) se_int)
      (sss_one (ss_ret' (sc_make ⟨c.co, c.ro⟩ tk fx.i_Paper__init_ fx.m_Paper fx.g_Paper rfl rfl (sa_cons (se_ix ix_sound (se_var 1) se_int) (sa_cons (se_ix ix_sound (se_var 1) se_int) sa_nil)))))
      sss_nil)
      (sss_cons (ss_if (st_cmp eqF_sound (se_var 0) se_int)
      (sss_one (ss_ret' (sc_make ⟨c.co, c.ro⟩ tk fx.i_Shut__init_ fx.m_Shut fx.g_Shut rfl rfl (sa_cons (se_ix ix_sound (se_var 1) se_int) sa_nil))))
      sss_nil)
      (sss_cons (ss_if (st_cmp eqF_sound (se_var 0) se_int)
      (sss_one (ss_ret' (sc_make ⟨c.co, c.ro⟩ tk fx.i_Case__init_ fx.m_Case fx.g_Case rfl rfl (sa_cons (se_ix ix_sound (se_var 1) se_int) (sa_cons (se_ix ix_sound (se_var 1) se_int) (sa_cons (se_ix ix_sound (se_var 1) se_int) sa_nil))))))
      sss_nil)
      (sss_cons (ss_if (st_cmp eqF_sound (se_var 0) se_int)
      (sss_one (ss_ret' (sc_make ⟨c.co, c.ro⟩ tk fx.i_Root__init_ fx.m_Root fx.g_Root rfl rfl (sa_cons (se_ix ix_sound (se_var 1) se_int) (sa_cons (se_ix ix_sound (se_var 1) se_int) (sa_cons (se_ix ix_sound (se_var 1) se_int) (sa_cons (se_ix ix_sound (se_var 1) se_int) (sa_cons (se_ix ix_sound (se_var 1) se_int) sa_nil))))))))
      sss_nil)
      (sss_cons (ss_if (st_cmp eqF_sound (se_var 0) se_int)
      (sss_one (ss_ret' (sc_make ⟨c.co, c.ro⟩ tk fx.i_Run__init_ fx.m_Run fx.g_Run rfl rfl (sa_cons (se_ix ix_sound (se_var 1) se_int) (sa_cons (se_ix ix_sound (se_var 1) se_int) (sa_cons (se_ix ix_sound (se_var 1) se_int) (sa_cons (se_ix ix_sound (se_var 1) se_int) sa_nil)))))))
      sss_nil)
      (sss_cons (ss_if (st_cmp eqF_sound (se_var 0) se_int)
      (sss_one (ss_ret' (sc_make ⟨c.co, c.ro⟩ tk fx.i_Way__init_ fx.m_Way fx.g_Way rfl rfl (sa_cons (se_ix ix_sound (se_var 1) se_int) (sa_cons (se_ix ix_sound (se_var 1) se_int) (sa_cons (se_ix ix_sound (se_var 1) se_int) (sa_cons (se_ix ix_sound (se_var 1) se_int) (sa_cons (se_ix ix_sound (se_var 1) se_int) sa_nil))))))))
      sss_nil)
      (sss_cons (ss_if (st_cmp eqF_sound (se_var 0) se_int)
      (sss_one (ss_ret' (sc_make ⟨c.co, c.ro⟩ tk fx.i_Found__init_ fx.m_Found fx.g_Found rfl rfl (sa_cons (se_ix ix_sound (se_var 1) se_int) (sa_cons (se_ix ix_sound (se_var 1) se_int) sa_nil)))))
      sss_nil)
      (sss_cons (ss_if (st_cmp eqF_sound (se_var 0) se_int)
      (sss_one (ss_ret' (sc_make ⟨c.co, c.ro⟩ tk fx.i_Never__init_ fx.m_Never fx.g_Never rfl rfl (sa_cons (se_ix ix_sound (se_var 1) se_int) sa_nil))))
      sss_nil)
      (sss_one (ss_ret' (sc_make ⟨c.co, c.ro⟩ tk fx.i_Trial__init_ fx.m_Trial fx.g_Trial rfl rfl (sa_cons (se_ix ix_sound (se_var 1) se_int) (sa_cons (se_ix ix_sound (se_var 1) se_int) sa_nil))))))))))))))
theorem b__law_made_later (fx : Fx K mg fd) : BodyOk P w K mg base (ct K) (fns K fd) ⟨He.fAd K d__law_made_later.at_, fd 69, ["_law_which", "_law_parts"]⟩ ⟨2, 2, false, m__law_made_later⟩ :=
  ⟨_, "_law_made_later", _, _, _, _, _, N__law_made_later, fx.D__law_made_later, sc__law_made_later, rfl, rfl, by decide, fun call n co cdv A outer s H E hr => t__law_made_later fx call n cdv A outer s H E ⟨co, hr⟩⟩
abbrev N__law_told : List Str := ["_law_which", "_law_one"]
theorem sc__law_told : FnScope N__law_told ["_law_which", "_law_one"] (defScope s__law_told) := ⟨by kernel_rfl, by kernel_rfl, by kernel_rfl, by decide +kernel, rfl, by decide +kernel, by decide +kernel⟩
theorem t__law_told (fx : Fx K mg fd) (call : CallT) (n : Nat) (cdv : Value) (A : Around) (outer : List Env) (s : Shared) (H : Hp) (E : XK) (c : Cq (cxOf (L2.CX P w) P w K mg base N__law_told "_law_told" (defScope s__law_told) (He.fAd K d__law_told.at_) cdv A outer s H E) (ct K) (fns K fd) call n) :
    SSs (cxOf (L2.CX P w) P w K mg base N__law_told "_law_told" (defScope s__law_told) (He.fAd K d__law_told.at_) cdv A outer s H E) (ct K) (fun c d _ H' => E c d H') (defBody s__law_told) (m__law_told call) := by
  have tk : Takes (cxOf (L2.CX P w) P w K mg base N__law_told "_law_told" (defScope s__law_told) (He.fAd K d__law_told.at_) cdv A outer s H E) (fun cls d _ H' => E cls d H') := takes_of rfl rfl rfl rfl
  have nd := sc__law_told.nd
  have po : PassesOwn (model P w) (cxOf (L2.CX P w) P w K mg base N__law_told "_law_told" (defScope s__law_told) (He.fAd K d__law_told.at_) cdv A outer s H E).A (cxOf (L2.CX P w) P w K mg base N__law_told "_law_told" (defScope s__law_told) (He.fAd K d__law_told.at_) cdv A outer s H E).env (cxOf (L2.CX P w) P w K mg base N__law_told "_law_told" (defScope s__law_told) (He.fAd K d__law_told.at_) cdv A outer s H E).xe := passes_of rfl
  exact (sss_cons (ss_if (st_cmp eqF_sound (se_var 0) se_int)
      (sss_one (ss_ret' (se_lv (sa_cons (se_fld (ok := ok_why) (k := 4) (se_var 1) rfl (hok_why fx)) (sa_cons (se_fld (ok := ok_at) (k := 5) (se_var 1) rfl (hok_at fx)) sa_nil)))))
      sss_nil)
      (sss_cons (ss_if (st_cmp eqF_sound (se_var 0) se_int)
      (sss_one (ss_ret' (se_lv (sa_cons (se_fld (ok := ok_book) (k := 13) (se_var 1) rfl (hok_book fx)) (sa_cons (se_fld (ok := ok_letters) (k := 9) (se_var 1) rfl (hok_letters fx)) (sa_cons (se_fld (ok := ok_unknowns) (k := 10) (se_var 1) rfl (hok_unknowns fx)) sa_nil))))))
      sss_nil)
      (sss_cons (ss_if (st_cmp eqF_sound (se_var 0) se_int)
      (sss_one (ss_ret' (se_lv (sa_cons (se_fld (ok := ok_told) (k := 8) (se_var 1) rfl (hok_told fx)) (sa_cons (se_fld (ok := ok_letters) (k := 9) (se_var 1) rfl (hok_letters fx)) (sa_cons (se_fld (ok := ok_unknowns) (k := 10) (se_var 1) rfl (hok_unknowns fx)) (sa_cons (se_fld (ok := ok_spares) (k := 11) (se_var 1) rfl (hok_spares fx)) sa_nil)))))))
      sss_nil)
      (sss_cons (ss_if (st_cmp eqF_sound (se_var 0) se_int)
      (sss_one (ss_ret' (se_lv (sa_cons (se_fld (ok := ok_parts) (k := 6) (se_var 1) rfl (hok_parts fx)) (sa_cons (se_fld (ok := ok_news) (k := 7) (se_var 1) rfl (hok_news fx)) (sa_cons (se_fld (ok := ok_told) (k := 8) (se_var 1) rfl (hok_told fx)) (sa_cons (se_fld (ok := ok_letters) (k := 9) (se_var 1) rfl (hok_letters fx)) (sa_cons (se_fld (ok := ok_unknowns) (k := 10) (se_var 1) rfl (hok_unknowns fx)) (sa_cons (se_fld (ok := ok_spares) (k := 11) (se_var 1) rfl (hok_spares fx)) (sa_cons (se_fld (ok := ok_equations) (k := 12) (se_var 1) rfl (hok_equations fx)) sa_nil))))))))))
      sss_nil)
      (sss_cons (ss_if (st_cmp eqF_sound (se_var 0) se_int)
      (sss_one (ss_ret' (se_lv (sa_cons (se_fld (ok := ok_front) (k := 14) (se_var 1) rfl (hok_front fx)) (sa_cons (se_fld (ok := ok_stays) (k := 15) (se_var 1) rfl (hok_stays fx)) (sa_cons (se_fld (ok := ok_back) (k := 16) (se_var 1) rfl (hok_back fx)) (sa_cons (se_fld (ok := ok_ends) (k := 1) (se_var 1) rfl (hok_ends fx)) sa_nil)))))))
      sss_nil)
      (sss_cons (ss_if (st_cmp eqF_sound (se_var 0) se_int)
      (sss_one (ss_ret' (se_lv (sa_cons (se_fld (ok := ok_numbers) (k := 17) (se_var 1) rfl (hok_numbers fx)) sa_nil))))
      sss_nil)
      (sss_cons (ss_if (st_cmp eqF_sound (se_var 0) se_int)
      (sss_one (ss_ret' (se_lv (sa_cons (se_fld (ok := ok_rows) (k := 2) (se_var 1) rfl (hok_rows fx)) sa_nil))))
      sss_nil)
      (sss_cons (ss_if (st_cmp eqF_sound (se_var 0) se_int)
      (sss_one (ss_ret' (se_lv (sa_cons (se_fld (ok := ok_step) (k := 20) (se_var 1) rfl (hok_step fx)) (sa_cons (se_fld (ok := ok_outcomes) (k := 21) (se_var 1) rfl (hok_outcomes fx)) sa_nil)))))
      sss_nil)
      (sss_cons (ss_if (st_cmp eqF_sound (se_var 0) se_int)
      (sss_one (ss_ret' (se_lv (sa_cons (se_fld (ok := ok_root) (k := 31) (se_var 1) rfl (hok_root fx)) (sa_cons (se_fld (ok := ok_turns) (k := 32) (se_var 1) rfl (hok_turns fx)) sa_nil)))))
      sss_nil)
      (sss_cons (ss_if (st_cmp eqF_sound (se_var 0) se_int)
      (sss_one (ss_ret' (se_lv (sa_cons (se_fld (ok := ok_table) (k := 27) (se_var 1) rfl (hok_table fx)) (sa_cons (se_fld (ok := ok_ends) (k := 1) (se_var 1) rfl (hok_ends fx)) sa_nil)))))
      sss_nil)
      (sss_cons (ss_if (st_cmp eqF_sound (se_var 0) se_int)
      (sss_one (ss_ret' (se_lv (sa_cons (se_fld (ok := ok_grammar) (k := 28) (se_var 1) rfl (hok_grammar fx)) (sa_cons (se_fld (ok := ok_stages) (k := 33) (se_var 1) rfl (hok_stages fx)) sa_nil)))))
      sss_nil)
      (sss_one (ss_ret' (sc_call ⟨c.co, c.ro⟩ tk fx.i__law_told_later fx.g__law_told_later rfl rfl (sa_cons (se_var 0) (sa_cons (se_var 1) sa_nil))))))))))))))))
theorem b__law_told (fx : Fx K mg fd) : BodyOk P w K mg base (ct K) (fns K fd) ⟨He.fAd K d__law_told.at_, fd 70, ["_law_which", "_law_one"]⟩ ⟨2, 2, false, m__law_told⟩ :=
  ⟨_, "_law_told", _, _, _, _, _, N__law_told, fx.D__law_told, sc__law_told, rfl, rfl, by decide, fun call n co cdv A outer s H E hr => t__law_told fx call n cdv A outer s H E ⟨co, hr⟩⟩
abbrev N__law_told_later : List Str := ["_law_which", "_law_one"]
theorem sc__law_told_later : FnScope N__law_told_later ["_law_which", "_law_one"] (defScope s__law_told_later) := ⟨by kernel_rfl, by kernel_rfl, by kernel_rfl, by decide +kernel, rfl, by decide +kernel, by decide +kernel⟩
theorem t__law_told_later (fx : Fx K mg fd) (call : CallT) (n : Nat) (cdv : Value) (A : Around) (outer : List Env) (s : Shared) (H : Hp) (E : XK) (c : Cq (cxOf (L2.CX P w) P w K mg base N__law_told_later "_law_told_later" (defScope s__law_told_later) (He.fAd K d__law_told_later.at_) cdv A outer s H E) (ct K) (fns K fd) call n) :
    SSs (cxOf (L2.CX P w) P w K mg base N__law_told_later "_law_told_later" (defScope s__law_told_later) (He.fAd K d__law_told_later.at_) cdv A outer s H E) (ct K) (fun c d _ H' => E c d H') (defBody s__law_told_later) (m__law_told_later call) := by
  have tk : Takes (cxOf (L2.CX P w) P w K mg base N__law_told_later "_law_told_later" (defScope s__law_told_later) (He.fAd K d__law_told_later.at_) cdv A outer s H E) (fun cls d _ H' => E cls d H') := takes_of rfl rfl rfl rfl
  have nd := sc__law_told_later.nd
  have po : PassesOwn (model P w) (cxOf (L2.CX P w) P w K mg base N__law_told_later "_law_told_later" (defScope s__law_told_later) (He.fAd K d__law_told_later.at_) cdv A outer s H E).A (cxOf (L2.CX P w) P w K mg base N__law_told_later "_law_told_later" (defScope s__law_told_later) (He.fAd K d__law_told_later.at_) cdv A outer s H E).env (cxOf (L2.CX P w) P w K mg base N__law_told_later "_law_told_later" (defScope s__law_told_later) (He.fAd K d__law_told_later.at_) cdv A outer s H E).xe := passes_of rfl
  exact (sss_cons (ss_if (st_cmp eqF_sound (se_var 0) se_int)
      (sss_one (ss_ret' (se_lv (sa_cons (se_fld (ok := ok_book) (k := 13) (se_var 1) rfl (hok_book fx)) (sa_cons (se_fld (ok := ok_step) (k := 20) (se_var 1) rfl (hok_step fx)) (sa_cons (se_fld (ok := ok_lots) (k := 22) (se_var 1) rfl (hok_lots fx)) sa_nil))))))
      sss_nil)
      (sss_cons (ss_if (st_cmp eqF_sound (se_var 0) se_int)
      (sss_one (ss_ret' (se_lv (sa_cons (se_fld (ok := ok_deeds) (k := 0) (se_var 1) rfl (hok_deeds fx)) (sa_cons (se_fld (ok := ok_entries) (k := 23) (se_var 1) rfl (hok_entries fx)) sa_nil)))))
      sss_nil)
      (sss_cons (ss_if (st_cmp eqF_sound (se_var 0) se_int)
      (sss_one (ss_ret' (se_lv (sa_cons (se_fld (ok := ok_paper) (k := 24) (se_var 1) rfl (hok_paper fx)) sa_nil))))
      sss_nil)
      (sss_cons (ss_if (st_cmp eqF_sound (se_var 0) se_int)
      (sss_one (ss_ret' (se_lv (sa_cons (se_fld (ok := ok_rows) (k := 2) (se_var 1) rfl (hok_rows fx)) (sa_cons (se_fld (ok := ok_sets) (k := 18) (se_var 1) rfl (hok_sets fx)) (sa_cons (se_fld (ok := ok_full) (k := 19) (se_var 1) rfl (hok_full fx)) sa_nil))))))
      sss_nil)
      (sss_cons (ss_if (st_cmp eqF_sound (se_var 0) se_int)
      (sss_one (ss_ret' (se_lv (sa_cons (se_fld (ok := ok_told) (k := 8) (se_var 1) rfl (hok_told fx)) (sa_cons (se_fld (ok := ok_letters) (k := 9) (se_var 1) rfl (hok_letters fx)) (sa_cons (se_fld (ok := ok_unknowns) (k := 10) (se_var 1) rfl (hok_unknowns fx)) (sa_cons (se_fld (ok := ok_spares) (k := 11) (se_var 1) rfl (hok_spares fx)) (sa_cons (se_fld (ok := ok_empties) (k := 30) (se_var 1) rfl (hok_empties fx)) sa_nil))))))))
      sss_nil)
      (sss_cons (ss_if (st_cmp eqF_sound (se_var 0) se_int)
      (sss_one (ss_ret' (se_lv (sa_cons (se_fld (ok := ok_turns) (k := 32) (se_var 1) rfl (hok_turns fx)) (sa_cons (se_fld (ok := ok_used) (k := 34) (se_var 1) rfl (hok_used fx)) (sa_cons (se_fld (ok := ok_ends) (k := 1) (se_var 1) rfl (hok_ends fx)) (sa_cons (se_fld (ok := ok_stop) (k := 35) (se_var 1) rfl (hok_stop fx)) sa_nil)))))))
      sss_nil)
      (sss_cons (ss_if (st_cmp eqF_sound (se_var 0) se_int)
      (sss_one (ss_ret' (se_lv (sa_cons (se_fld (ok := ok_turns) (k := 32) (se_var 1) rfl (hok_turns fx)) (sa_cons (se_fld (ok := ok_reads) (k := 36) (se_var 1) rfl (hok_reads fx)) (sa_cons (se_fld (ok := ok_sayings) (k := 37) (se_var 1) rfl (hok_sayings fx)) (sa_cons (se_fld (ok := ok_ends) (k := 1) (se_var 1) rfl (hok_ends fx)) (sa_cons (se_fld (ok := ok_stop) (k := 35) (se_var 1) rfl (hok_stop fx)) sa_nil))))))))
      sss_nil)
      (sss_cons (ss_if (st_cmp eqF_sound (se_var 0) se_int)
      (sss_one (ss_ret' (se_lv (sa_cons (se_fld (ok := ok_turns) (k := 32) (se_var 1) rfl (hok_turns fx)) (sa_cons (se_fld (ok := ok_filling) (k := 38) (se_var 1) rfl (hok_filling fx)) sa_nil)))))
      sss_nil)
      (sss_cons (ss_if (st_cmp eqF_sound (se_var 0) se_int)
      (sss_one (ss_ret' (se_lv (sa_cons (se_fld (ok := ok_papers) (k := 39) (se_var 1) rfl (hok_papers fx)) sa_nil))))
      sss_nil)
      (sss_one (ss_ret' (se_lv (sa_cons (se_fld (ok := ok_tolds) (k := 40) (se_var 1) rfl (hok_tolds fx)) (sa_cons (se_fld (ok := ok_refused) (k := 41) (se_var 1) rfl (hok_refused fx)) sa_nil))))))))))))))
theorem b__law_told_later (fx : Fx K mg fd) : BodyOk P w K mg base (ct K) (fns K fd) ⟨He.fAd K d__law_told_later.at_, fd 71, ["_law_which", "_law_one"]⟩ ⟨2, 2, false, m__law_told_later⟩ :=
  ⟨_, "_law_told_later", _, _, _, _, _, N__law_told_later, fx.D__law_told_later, sc__law_told_later, rfl, rfl, by decide, fun call n co cdv A outer s H E hr => t__law_told_later fx call n cdv A outer s H E ⟨co, hr⟩⟩
abbrev N__law_result_right : List Str := ["_law_which", "_law_kinds", "_law_sizes", "_law_others", "_law_parts", "_law_made_here", "_law_twin", "_law_k", "_law_less", "_law_changed"]
theorem sc__law_result_right : FnScope N__law_result_right ["_law_which", "_law_kinds", "_law_sizes", "_law_others"] (defScope s__law_result_right) := ⟨by kernel_rfl, by kernel_rfl, by kernel_rfl, by decide +kernel, rfl, by decide +kernel, by decide +kernel⟩
theorem t__law_result_right (fx : Fx K mg fd) (call : CallT) (n : Nat) (cdv : Value) (A : Around) (outer : List Env) (s : Shared) (H : Hp) (E : XK) (c : Cq (cxOf (L2.CX P w) P w K mg base N__law_result_right "_law_result_right" (defScope s__law_result_right) (He.fAd K d__law_result_right.at_) cdv A outer s H E) (ct K) (fns K fd) call n) :
    SSs (cxOf (L2.CX P w) P w K mg base N__law_result_right "_law_result_right" (defScope s__law_result_right) (He.fAd K d__law_result_right.at_) cdv A outer s H E) (ct K) (fun c d _ H' => E c d H') (defBody s__law_result_right) (m__law_result_right call) := by
  have tk : Takes (cxOf (L2.CX P w) P w K mg base N__law_result_right "_law_result_right" (defScope s__law_result_right) (He.fAd K d__law_result_right.at_) cdv A outer s H E) (fun cls d _ H' => E cls d H') := takes_of rfl rfl rfl rfl
  have nd := sc__law_result_right.nd
  have po : PassesOwn (model P w) (cxOf (L2.CX P w) P w K mg base N__law_result_right "_law_result_right" (defScope s__law_result_right) (He.fAd K d__law_result_right.at_) cdv A outer s H E).A (cxOf (L2.CX P w) P w K mg base N__law_result_right "_law_result_right" (defScope s__law_result_right) (He.fAd K d__law_result_right.at_) cdv A outer s H E).env (cxOf (L2.CX P w) P w K mg base N__law_result_right "_law_result_right" (defScope s__law_result_right) (He.fAd K d__law_result_right.at_) cdv A outer s H E).xe := passes_of rfl
  exact (sss_cons (ss_setLc false rfl nd (i := 4) rfl rfl (sw_true rfl rfl rfl (by decide +kernel)) (si_rng1 rfl fx.f_range (sa_cons (se_callB len_sound rfl fx.f_len (by decide +kernel) (sa_cons (se_var 1) sa_nil)) sa_nil)) (own := [("_law_k", 7)]) (blkOk_by (by first | decide +kernel | kernel_rfl)) rfl (fun _ _ _ _ _ => (sgc_name nd (i := 7) rfl (by first | exact .inl rfl | exact .inr rfl) (by decide))) (fun _ _ _ _ _ => spt_nil) (fun _ _ _ _ _ => (sc_call ⟨c.co, c.ro⟩ takesW fx.i__law_part fx.g__law_part rfl rfl (sa_cons (se_ix ix_sound (se_var 1) (se_var 7)) (sa_cons (se_ix ix_sound (se_var 2) (se_var 7)) sa_nil)))))
      (sss_cons (ss_set nd (i := 5) rfl (by first | exact .inl rfl | exact .inr rfl) (sc_call ⟨c.co, c.ro⟩ tk fx.i__law_made fx.g__law_made rfl rfl (sa_cons (se_var 0) (sa_cons (se_var 4) sa_nil))))
      (sss_cons (ss_if (st_cmp (eqoN_sound c.co (eqt fx) c.ro) (sc_call ⟨c.co, c.ro⟩ tk fx.i__law_told fx.g__law_told rfl rfl (sa_cons (se_var 0) (sa_cons (se_var 5) sa_nil))) (se_var 4))
      (sss_one (ss_ret' se_bl))
      sss_nil)
      (sss_cons (ss_set nd (i := 6) rfl (by first | exact .inl rfl | exact .inr rfl) (sc_call ⟨c.co, c.ro⟩ tk fx.i__law_made fx.g__law_made rfl rfl (sa_cons (se_var 0) (sa_cons (se_callTy listV_sound rfl fx.f_list (by decide +kernel) (sa_cons (se_var 4) sa_nil)) sa_nil))))
      (sss_cons (ss_if (st_bool (sw_or (st_not (st_cmp (eqoE_sound c.co (eqt fx) c.ro) (se_var 5) (se_var 6))) (sw_or1 (st_not (st_cmp (eqoE_sound c.co (eqt fx) c.ro) (se_var 6) (se_var 5))))))
      (sss_one (ss_ret' se_bl))
      sss_nil)
      (sss_cons (ss_for po rfl (si_rng1 rfl fx.f_range (sa_cons (se_callB len_sound rfl fx.f_len (by decide +kernel) (sa_cons (se_var 1) sa_nil)) sa_nil)) (sg_name nd (i := 7) rfl (by first | exact .inl rfl | exact .inr rfl))
      (sss_cons (ss_set nd (i := 8) rfl (by first | exact .inl rfl | exact .inr rfl) (se_callTy listM_sound rfl fx.f_list (by decide +kernel) (sa_cons (se_var 4) sa_nil)))
      (sss_cons (ss_asg (sc_call ⟨c.co, c.ro⟩ tk fx.i__law_part fx.g__law_part rfl rfl (sa_cons (se_ix ix_sound (se_var 1) (se_var 7)) (sa_cons (se_ix ix_sound (se_var 3) (se_var 7)) sa_nil))) (sg_store (se_var 8) (se_var 7)))
      (sss_cons (ss_if (st_cmp (eqoE_sound c.co (eqt fx) c.ro) (se_ix ix_sound (se_var 8) (se_var 7)) (se_ix ix_sound (se_var 4) (se_var 7)))
      (sss_one ss_continue)
      sss_nil)
      (sss_cons (ss_set nd (i := 9) rfl (by first | exact .inl rfl | exact .inr rfl) (sc_call ⟨c.co, c.ro⟩ tk fx.i__law_made fx.g__law_made rfl rfl (sa_cons (se_var 0) (sa_cons (se_var 8) sa_nil))))
      (sss_one (ss_if (st_bool (sw_or (st_cmp (eqoE_sound c.co (eqt fx) c.ro) (se_var 5) (se_var 9)) (sw_or (st_cmp (eqoE_sound c.co (eqt fx) c.ro) (se_var 9) (se_var 5)) (sw_or1 (st_cmp (eqoN_sound c.co (eqt fx) c.ro) (sc_call ⟨c.co, c.ro⟩ tk fx.i__law_told fx.g__law_told rfl rfl (sa_cons (se_var 0) (sa_cons (se_var 9) sa_nil))) (se_var 8))))))
      (sss_one (ss_ret' se_bl))
      sss_nil)))))))
      (sss_one (ss_ret' se_bl))))))))
theorem b__law_result_right (fx : Fx K mg fd) : BodyOk P w K mg base (ct K) (fns K fd) ⟨He.fAd K d__law_result_right.at_, fd 72, ["_law_which", "_law_kinds", "_law_sizes", "_law_others"]⟩ ⟨4, 10, false, m__law_result_right⟩ :=
  ⟨_, "_law_result_right", _, _, _, _, _, N__law_result_right, fx.D__law_result_right, sc__law_result_right, rfl, rfl, by decide, fun call n co cdv A outer s H E hr => t__law_result_right fx call n cdv A outer s H E ⟨co, hr⟩⟩
abbrev N_law : List Str := ["_law_script", "_law_source_here", "_law_kinds", "_law_before", "_law_which", "_law_sizes", "_law_others", "_law_made_here", "_law_first", "_law_second", "_law_turn", "_law_size", "_law_one", "_law_other", "_law_k", "_law_kind"]
theorem sc_law : FnScope N_law ["_law_script"] (defScope s_law) := ⟨by kernel_rfl, by kernel_rfl, by kernel_rfl, by decide +kernel, rfl, by decide +kernel, by decide +kernel⟩
theorem t_law (fx : Fx K mg fd) (call : CallT) (n : Nat) (cdv : Value) (A : Around) (outer : List Env) (s : Shared) (H : Hp) (E : XK) (c : Cq (cxOf (L2.CX P w) P w K mg base N_law "law" (defScope s_law) (He.fAd K d_law.at_) cdv A outer s H E) (ct K) (fns K fd) call n) :
    SSs (cxOf (L2.CX P w) P w K mg base N_law "law" (defScope s_law) (He.fAd K d_law.at_) cdv A outer s H E) (ct K) (fun c d _ H' => E c d H') (defBody s_law) (m_law call) := by
  have tk : Takes (cxOf (L2.CX P w) P w K mg base N_law "law" (defScope s_law) (He.fAd K d_law.at_) cdv A outer s H E) (fun cls d _ H' => E cls d H') := takes_of rfl rfl rfl rfl
  have nd := sc_law.nd
  have po : PassesOwn (model P w) (cxOf (L2.CX P w) P w K mg base N_law "law" (defScope s_law) (He.fAd K d_law.at_) cdv A outer s H E).A (cxOf (L2.CX P w) P w K mg base N_law "law" (defScope s_law) (He.fAd K d_law.at_) cdv A outer s H E).env (cxOf (L2.CX P w) P w K mg base N_law "law" (defScope s_law) (He.fAd K d_law.at_) cdv A outer s H E).xe := passes_of rfl
  exact (sss_cons (ss_set nd (i := 1) rfl (by first | exact .inl rfl | exact .inr rfl) (sc_call ⟨c.co, c.ro⟩ tk fx.i__law_source fx.g__law_source rfl rfl (sa_cons (se_var 0) sa_nil)))
      (sss_cons (ss_set nd (i := 2) rfl (by first | exact .inl rfl | exact .inr rfl) (se_lv (sa_cons se_str (sa_cons se_str (sa_cons se_str (sa_cons se_str (sa_cons se_str (sa_cons se_str (sa_cons se_str (sa_cons se_str (sa_cons se_str (sa_cons se_str (sa_cons se_str (sa_cons se_str (sa_cons se_str (sa_cons se_str (sa_cons se_str (sa_cons se_str (sa_cons se_str (sa_cons se_str (sa_cons se_str (sa_cons se_str (sa_cons se_str sa_nil)))))))))))))))))))))))
      (sss_cons (ss_set nd (i := 3) rfl (by first | exact .inl rfl | exact .inr rfl) se_non)
      (sss_cons (ss_for po rfl (si_rng1 rfl fx.f_range (sa_cons (se_callB len_sound rfl fx.f_len (by decide +kernel) (sa_cons (se_var 2) sa_nil)) sa_nil)) (sg_name nd (i := 4) rfl (by first | exact .inl rfl | exact .inr rfl))
      (sss_cons (ss_set nd (i := 5) rfl (by first | exact .inl rfl | exact .inr rfl) (se_lc false rfl nd (si_rng1 rfl fx.f_range (sa_cons se_int sa_nil)) (own := [("_law_k", 14)]) (blkOk_by (by first | decide +kernel | kernel_rfl)) rfl (fun _ _ _ _ _ => (sgc_name nd (i := 14) rfl (by first | exact .inl rfl | exact .inr rfl) (by decide))) (fun _ _ _ _ _ => spt_nil) (fun _ _ _ _ _ => (se_bin add_sound se_int (sc_call ⟨c.co, c.ro⟩ takesW fx.i__law_take fx.g__law_take rfl rfl (sa_cons (se_var 1) (sa_cons se_int sa_nil)))))))
      (sss_cons (ss_setLc false rfl nd (i := 6) rfl rfl (sw_true rfl rfl rfl (by decide +kernel)) (si_rng1 rfl fx.f_range (sa_cons se_int sa_nil)) (own := [("_law_k", 14)]) (blkOk_by (by first | decide +kernel | kernel_rfl)) rfl (fun _ _ _ _ _ => (sgc_name nd (i := 14) rfl (by first | exact .inl rfl | exact .inr rfl) (by decide))) (fun _ _ _ _ _ => spt_nil) (fun _ _ _ _ _ => (se_bin add_sound se_int (se_bin mod_sound (se_callTy int_sound rfl fx.f_int (by decide +kernel) (sa_cons (se_bin add_sound (se_ix ix_sound (se_var 5) (se_var 14)) (sc_call ⟨c.co, c.ro⟩ takesW fx.i__law_take fx.g__law_take rfl rfl (sa_cons (se_var 1) (sa_cons se_int sa_nil)))) sa_nil)) se_int))))
      (sss_cons (ss_if (st_not (st_truth (sc_call ⟨c.co, c.ro⟩ tk fx.i__law_result_right fx.g__law_result_right rfl rfl (sa_cons (se_var 4) (sa_cons (se_ix ix_sound (se_var 2) (se_var 4)) (sa_cons (se_var 5) (sa_cons (se_var 6) sa_nil)))))))
      (sss_one (ss_ret' se_bl))
      sss_nil)
      (sss_cons (ss_set nd (i := 7) rfl (by first | exact .inl rfl | exact .inr rfl) (sc_call ⟨c.co, c.ro⟩ tk fx.i__law_made fx.g__law_made rfl rfl (sa_cons (se_var 4) (sa_cons (se_lc false rfl nd (si_rng1 rfl fx.f_range (sa_cons (se_callB len_sound rfl fx.f_len (by decide +kernel) (sa_cons (se_ix ix_sound (se_var 2) (se_var 4)) sa_nil)) sa_nil)) (own := [("_law_k", 14)]) (blkOk_by (by first | decide +kernel | kernel_rfl)) rfl (fun _ _ _ _ _ => (sgc_name nd (i := 14) rfl (by first | exact .inl rfl | exact .inr rfl) (by decide))) (fun _ _ _ _ _ => spt_nil) (fun _ _ _ _ _ => (sc_call ⟨c.co, c.ro⟩ takesW fx.i__law_part fx.g__law_part rfl rfl (sa_cons (se_ix ix_sound (se_ix ix_sound (se_var 2) (se_var 4)) (se_var 14)) (sa_cons (se_ix ix_sound (se_var 5) (se_var 14)) sa_nil))))) sa_nil))))
      (sss_cons (ss_if (st_bool (sw_and (st_cmp notN_sound (se_var 3) se_non) (sw_and1 (st_bool (sw_or (st_cmp (eqoE_sound c.co (eqt fx) c.ro) (se_var 7) (se_var 3)) (sw_or1 (st_cmp (eqoE_sound c.co (eqt fx) c.ro) (se_var 3) (se_var 7))))))))
      (sss_one (ss_ret' se_bl))
      sss_nil)
      (sss_one (ss_set nd (i := 3) rfl (by first | exact .inl rfl | exact .inr rfl) (se_var 7)))))))))
      (sss_cons (ss_asg (se_tup (sa_cons se_int (sa_cons se_int sa_nil))) (sg_tup rfl (sgs_cons (sg_name nd (i := 8) rfl (by first | exact .inl rfl | exact .inr rfl)) (sgs_cons (sg_name nd (i := 9) rfl (by first | exact .inl rfl | exact .inr rfl)) sgs_nil))))
      (sss_cons (ss_for po rfl (si_rng1 rfl fx.f_range (sa_cons se_int sa_nil)) (sg_name nd (i := 10) rfl (by first | exact .inl rfl | exact .inr rfl))
      (sss_cons (ss_set nd (i := 8) rfl (by first | exact .inl rfl | exact .inr rfl) (sc_call ⟨c.co, c.ro⟩ tk fx.i__law_take fx.g__law_take rfl rfl (sa_cons (se_var 1) (sa_cons (se_callB len_sound rfl fx.f_len (by decide +kernel) (sa_cons (se_var 2) sa_nil)) sa_nil))))
      (sss_cons (ss_set nd (i := 9) rfl (by first | exact .inl rfl | exact .inr rfl) (se_bin mod_sound (se_callTy int_sound rfl fx.f_int (by decide +kernel) (sa_cons (se_bin add_sound (se_bin add_sound (se_var 8) se_int) (sc_call ⟨c.co, c.ro⟩ tk fx.i__law_take fx.g__law_take rfl rfl (sa_cons (se_var 1) (sa_cons (se_bin sub_sound (se_callB len_sound rfl fx.f_len (by decide +kernel) (sa_cons (se_var 2) sa_nil)) se_int) sa_nil)))) sa_nil)) (se_callB len_sound rfl fx.f_len (by decide +kernel) (sa_cons (se_var 2) sa_nil))))
      (sss_cons (ss_set nd (i := 11) rfl (by first | exact .inl rfl | exact .inr rfl) (se_bin add_sound se_int (sc_call ⟨c.co, c.ro⟩ tk fx.i__law_take fx.g__law_take rfl rfl (sa_cons (se_var 1) (sa_cons se_int sa_nil)))))
      (sss_cons (ss_set nd (i := 12) rfl (by first | exact .inl rfl | exact .inr rfl) (sc_call ⟨c.co, c.ro⟩ tk fx.i__law_made fx.g__law_made rfl rfl (sa_cons (se_var 8) (sa_cons (se_lc false rfl nd (si_str (se_ix ix_sound (se_var 2) (se_var 8))) (own := [("_law_kind", 15)]) (blkOk_by (by first | decide +kernel | kernel_rfl)) rfl (fun _ _ _ _ _ => (sgc_name nd (i := 15) rfl (by first | exact .inl rfl | exact .inr rfl) (by decide))) (fun _ _ _ _ _ => spt_nil) (fun _ _ _ _ _ => (sc_call ⟨c.co, c.ro⟩ takesW fx.i__law_part fx.g__law_part rfl rfl (sa_cons (se_var 15) (sa_cons (se_var 11) sa_nil))))) sa_nil))))
      (sss_cons (ss_set nd (i := 13) rfl (by first | exact .inl rfl | exact .inr rfl) (sc_call ⟨c.co, c.ro⟩ tk fx.i__law_made fx.g__law_made rfl rfl (sa_cons (se_var 9) (sa_cons (se_lc false rfl nd (si_str (se_ix ix_sound (se_var 2) (se_var 9))) (own := [("_law_kind", 15)]) (blkOk_by (by first | decide +kernel | kernel_rfl)) rfl (fun _ _ _ _ _ => (sgc_name nd (i := 15) rfl (by first | exact .inl rfl | exact .inr rfl) (by decide))) (fun _ _ _ _ _ => spt_nil) (fun _ _ _ _ _ => (sc_call ⟨c.co, c.ro⟩ takesW fx.i__law_part fx.g__law_part rfl rfl (sa_cons (se_var 15) (sa_cons (se_var 11) sa_nil))))) sa_nil))))
      (sss_one (ss_if (st_bool (sw_or (st_cmp (eqoE_sound c.co (eqt fx) c.ro) (se_var 12) (se_var 13)) (sw_or1 (st_cmp (eqoE_sound c.co (eqt fx) c.ro) (se_var 13) (se_var 12)))))
      (sss_one (ss_ret' se_bl))
      sss_nil))))))))
      (sss_one (ss_ret' se_bl))))))))
theorem b_law (fx : Fx K mg fd) : BodyOk P w K mg base (ct K) (fns K fd) ⟨He.fAd K d_law.at_, fd 73, ["_law_script"]⟩ ⟨1, 16, false, m_law⟩ :=
  ⟨_, "law", _, _, _, _, _, N_law, fx.D_law, sc_law, rfl, rfl, by decide, fun call n co cdv A outer s H E hr => t_law fx call n cdv A outer s H E ⟨co, hr⟩⟩
theorem bodies (fx : Fx K mg fd) (i : Nat) (F : Fn) (md : MDef) (hF : (fns K fd)[i]? = some F) (hd : defs[i]? = some md) : BodyOk P w K mg base (ct K) (fns K fd) F md := by
  match i, hF, hd with
  | 0, hF, hd => cases hF; cases hd; exact b_is_whole fx
  | 1, hF, hd => cases hF; cases hd; exact b_is_sequence fx
  | 2, hF, hd => cases hF; cases hd; exact b_is_state fx
  | 3, hF, hd => cases hF; cases hd; exact b_checked_deeds fx
  | 4, hF, hd => cases hF; cases hd; exact b_are_goals fx
  | 5, hF, hd => cases hF; cases hd; exact b_checked_ends fx
  | 6, hF, hd => cases hF; cases hd; exact b_checked_rows fx
  | 7, hF, hd => cases hF; cases hd; exact b_check_signs fx
  | 8, hF, hd => cases hF; cases hd; exact b_Book__init_ fx
  | 9, hF, hd => cases hF; cases hd; exact b_Book__eq_ fx
  | 10, hF, hd => cases hF; cases hd; exact b_Clash__init_ fx
  | 11, hF, hd => cases hF; cases hd; exact b_Clash__eq_ fx
  | 12, hF, hd => cases hF; cases hd; exact b_Guess__init_ fx
  | 13, hF, hd => cases hF; cases hd; exact b_Guess__eq_ fx
  | 14, hF, hd => cases hF; cases hd; exact b_Canon__init_ fx
  | 15, hF, hd => cases hF; cases hd; exact b_Canon__eq_ fx
  | 16, hF, hd => cases hF; cases hd; exact b_Settled__init_ fx
  | 17, hF, hd => cases hF; cases hd; exact b_Settled__eq_ fx
  | 18, hF, hd => cases hF; cases hd; exact b_Shape__init_ fx
  | 19, hF, hd => cases hF; cases hd; exact b_Shape__eq_ fx
  | 20, hF, hd => cases hF; cases hd; exact b_Answer__init_ fx
  | 21, hF, hd => cases hF; cases hd; exact b_Answer__eq_ fx
  | 22, hF, hd => cases hF; cases hd; exact b_Carries__init_ fx
  | 23, hF, hd => cases hF; cases hd; exact b_Carries__eq_ fx
  | 24, hF, hd => cases hF; cases hd; exact b_Case__init_ fx
  | 25, hF, hd => cases hF; cases hd; exact b_Case__eq_ fx
  | 26, hF, hd => cases hF; cases hd; exact b_Look__init_ fx
  | 27, hF, hd => cases hF; cases hd; exact b_Look__eq_ fx
  | 28, hF, hd => cases hF; cases hd; exact b_Entry__init_ fx
  | 29, hF, hd => cases hF; cases hd; exact b_Entry__eq_ fx
  | 30, hF, hd => cases hF; cases hd; exact b_Paper__init_ fx
  | 31, hF, hd => cases hF; cases hd; exact b_Paper__eq_ fx
  | 32, hF, hd => cases hF; cases hd; exact b_Shut__init_ fx
  | 33, hF, hd => cases hF; cases hd; exact b_Shut__eq_ fx
  | 34, hF, hd => cases hF; cases hd; exact b_is_outer_text fx
  | 35, hF, hd => cases hF; cases hd; exact b_is_earlier fx
  | 36, hF, hd => cases hF; cases hd; exact b_checked_rule fx
  | 37, hF, hd => cases hF; cases hd; exact b_checked_word fx
  | 38, hF, hd => cases hF; cases hd; exact b_rule_lengths fx
  | 39, hF, hd => cases hF; cases hd; exact b_Grammar__init_ fx
  | 40, hF, hd => cases hF; cases hd; exact b_Grammar__eq_ fx
  | 41, hF, hd => cases hF; cases hd; exact b_Pressed__init_ fx
  | 42, hF, hd => cases hF; cases hd; exact b_Pressed__eq_ fx
  | 43, hF, hd => cases hF; cases hd; exact b_is_filled_name fx
  | 44, hF, hd => cases hF; cases hd; exact b_checked_couple fx
  | 45, hF, hd => cases hF; cases hd; exact b_Filling__init_ fx
  | 46, hF, hd => cases hF; cases hd; exact b_Filling__eq_ fx
  | 47, hF, hd => cases hF; cases hd; exact b_filling_of fx
  | 48, hF, hd => cases hF; cases hd; exact b_Root__init_ fx
  | 49, hF, hd => cases hF; cases hd; exact b_Root__eq_ fx
  | 50, hF, hd => cases hF; cases hd; exact b_Trail__init_ fx
  | 51, hF, hd => cases hF; cases hd; exact b_Trail__eq_ fx
  | 52, hF, hd => cases hF; cases hd; exact b_Stages__init_ fx
  | 53, hF, hd => cases hF; cases hd; exact b_Stages__eq_ fx
  | 54, hF, hd => cases hF; cases hd; exact b_Run__init_ fx
  | 55, hF, hd => cases hF; cases hd; exact b_Run__eq_ fx
  | 56, hF, hd => cases hF; cases hd; exact b_Way__init_ fx
  | 57, hF, hd => cases hF; cases hd; exact b_Way__eq_ fx
  | 58, hF, hd => cases hF; cases hd; exact b_Found__init_ fx
  | 59, hF, hd => cases hF; cases hd; exact b_Found__eq_ fx
  | 60, hF, hd => cases hF; cases hd; exact b_Never__init_ fx
  | 61, hF, hd => cases hF; cases hd; exact b_Never__eq_ fx
  | 62, hF, hd => cases hF; cases hd; exact b_Trial__init_ fx
  | 63, hF, hd => cases hF; cases hd; exact b_Trial__eq_ fx
  | 64, hF, hd => cases hF; cases hd; exact b__law_source fx
  | 65, hF, hd => cases hF; cases hd; exact b__law_take fx
  | 66, hF, hd => cases hF; cases hd; exact b__law_book fx
  | 67, hF, hd => cases hF; cases hd; exact b__law_part fx
  | 68, hF, hd => cases hF; cases hd; exact b__law_made fx
  | 69, hF, hd => cases hF; cases hd; exact b__law_made_later fx
  | 70, hF, hd => cases hF; cases hd; exact b__law_told fx
  | 71, hF, hd => cases hF; cases hd; exact b__law_told_later fx
  | 72, hF, hd => cases hF; cases hd; exact b__law_result_right fx
  | 73, hF, hd => cases hF; cases hd; exact b_law fx
  | _ + 74, hF, _ => simp at hF
theorem all (fx : Fx K mg fd) (n : Nat) : CallOk P w K mg base (ct K) (fns K fd) (callF defs n) n := all_ok rfl (bodies fx) n
end
end K99

namespace K99
open PySem PySem.Spec L2 Mi
/-! printed by head.py: the head -/
def fuel : Nat := 20
theorem close (hlaw : ∀ ns : List Int, ns.length ≤ 63 → ∃ h, callF defs fuel 73 [.d (.scr (ns.map D.int))] [] = .ok (.d (.bl true)) h) : PySem.Challenge.rw_pressedwords_k99_results_equal_by_all_at.Holds := by
  open PySem.W PySem.Calls PyProof.Rows in
  w_on; o_law
  refine HandSHeadRun.head_any (r := R) (q := PySem.W.view R.prog [83]) (H := hk) (ob := ob) (M := 15000) (loose := ((["_wall", "PressError", "BadBook", "BadGrammar", "NoSymbol", "TooLong", "BadFilling", "is_whole", "is_sequence", "is_state", "checked_deeds", "are_goals", "checked_ends", "checked_rows", "check_signs", "Book", "Clash", "Guess", "Canon", "Settled"] : List Str) ++ (["Shape", "Answer", "Carries", "Case", "Look", "Entry", "Paper", "Shut", "OUTER", "MOST_SIGNS", "MOST_TIMES", "is_outer_text", "is_earlier", "checked_rule", "checked_word", "rule_lengths", "needed_rules", "parts_of", "Grammar", "Pressed"] : List Str) ++ (["SMALL", "FIGURES", "is_filled_name", "checked_couple", "Filling", "filling_of", "Root", "Trail", "Stages", "Run", "Way", "Found", "Never", "Trial", "_law_source", "_law_take", "_law_book", "_law_part", "_law_made", "_law_made_later"] : List Str) ++ (["_law_told", "_law_told_later", "_law_result_right"] : List Str))) (d := HandSHeadRun.topDef R.prog 83) (kwd := []) ob_eq
    (by kernel_rfl) (fun s => by kernel_rfl) run (by kernel_rfl) (by kernel_rfl) (by kernel_rfl) (by rfl) (by first | assumption | decide +kernel) (by decide +kernel) ⟨rfl, rfl, rfl, rfl, rfl, by decide +kernel⟩ ?hw ?hc
  case hw => w_witness2
  case hc =>
    refine L2.walk_ofE (l := PySem.Challenge.rw_pressedwords_k99_results_equal_by_all_at) (n := 63) (k := 2 * fuel) (x := "_law_script") (CX := L2.CX0) rfl (by decide) (by kernel_rfl) ⟨rfl, by decide, by decide⟩ ?F (fun _ _ _ _ z => z)
    intro w mg fa h Y G hmg0
    obtain ⟨K, KX, c⟩ := Y
    have hmg : mg ("law" : PySem.Str) = some (.ref fa) := by
      have e : (HandSHeadRun.topDef R.prog 83).name = ("law" : PySem.Str) := by kernel_rfl
      rw [← e]
      exact hmg0
    have ex : ∀ i : Nat, ∃ f : FuncData, ∀ d : He.DefD, fn[i]? = some d → FunD K d.name d.qual d.params d.body d.scope (d.dvs K) (d.kws K) (He.fAd K d.at_) f := fun i => by
      cases q : fn[i]? with
      | none => exact ⟨⟨"", "", ⟨[], [], none, [], [], none, []⟩, .stmts [], ⟨.function, [], false, false, []⟩, 0, [], .none, .none, .none, .none, none, .none, .none, 0⟩, fun d z => nomatch z⟩
      | some d =>
        obtain ⟨f, z⟩ := c.d.def_ i q
        exact ⟨f, fun d' z' => by cases z'; exact z⟩
    have fx := fx_of (fd := fun i => (ex i).choose) KX G c fun i => (ex i).choose_spec
    have e := hmg.symm.trans fx.g_law
    cases e
    refine ⟨K, _, fun vs H Q _ => spC K (ct K) (callF defs fuel) 73 vs H Q fun _ _ _ => False, KX, fun s u => fx.D_law.bindsA (ps := ["_law_script"]) (fun _ _ _ _ _ _ us hl => match us, hl with | [_], _ => rfl) s [u] rfl, fun H a ns hl hO hS => law_sp (ct := ct K) hlaw H a ns hl hO hS, fun base hK hG => ?_⟩
    exact FnOk.still ((Mi.CallOk.ok (all (P := (PySem.Challenge.rw_pressedwords_k99_results_equal_by_all_at).prog) (w := w) (base := base) fx fuel)) 73 _ rfl)
end K99

namespace K99
open PySem PySem.Spec Mi
def kds : List Str := ["T", "N", "D", "B", "W", "L", "G", "F", "E", "P", "R", "S", "M"]
def kd (k : Nat) : Str := kds.getD k "T"
def sg (c n : Nat) : Str := ⟨(List.replicate n c).toArray⟩
def bookV (s : Nat) : D := .ins 6 [(0, .tup [.tup [.int 0]]), (1, .tup [.tup [.int 0, .tup [.int 0]]]), (2, .tup [.tup [.tup (List.replicate s (.int 0)), .tup [.int (-1)]]]), (3, .int 1)]
def gramV (s : Nat) : D := .ins 19 [(25, .tup [.tup [.str "text", .str (sg 97 s)]]), (26, .tup [.int s])]
def entV (s : Nat) : D := .ins 16 [(13, bookV s), (20, .tup [.str "first", .int 0]), (22, .tup [])]
def partV (k s : Nat) : D := match k with
  | 0 => .tup ((List.range (1 + s % 3)).map fun j : Nat => D.int (((s : Int) + (j : Int)) * ((s : Int) + 1)))
  | 1 => .int s
  | 2 => .tup [.tup (List.replicate s (.int 0))]
  | 3 => bookV s
  | 4 => .str ((["front", "back", "empty", "state"] : List Str).getD (s % 4) "front")
  | 5 => .bl (s % 2 == 0)
  | 6 => gramV s
  | 7 => .ins 21 [(28, gramV s), (29, .tup [.tup [.str "?x", .tup [.int 0]]])]
  | 8 => .tup [entV s]
  | 9 => .ins 17 [(0, .tup [.tup [.int 0]]), (23, .tup [entV s])]
  | 10 => .tup [.tup [.tup (List.replicate s (.str "a")), .tup [.str "?x"]]]
  | 11 => .tup [.tup [.str "?x", .tup [.str "letter", .str (sg (97 + s % 3) 1)], .bl true]]
  | _ => .tup [.str ⟨(63 :: List.replicate (1 + s % 8) 120).toArray⟩]
def all2 : List (Nat × Nat) := (List.range 13).flatMap fun k => (List.range 12).map fun s => (k, s + 1)
theorem parts18 (o p : O) : all2.map (fun q => callF defs 18 67 [.d (.str (kd q.1)), .d (.int q.2)] [o, p]) = all2.map fun q => .ok (.d (partV q.1 q.2)) [o, p] := by kernel_rfl
theorem parts19 (o p : O) : all2.map (fun q => callF defs 19 67 [.d (.str (kd q.1)), .d (.int q.2)] [o, p]) = all2.map fun q => .ok (.d (partV q.1 q.2)) [o, p] := by kernel_rfl
end K99

namespace K99
open PySem PySem.Spec Mi
def eqK (k s t : Nat) : Bool := match k with
  | 4 => s % 4 == t % 4
  | 5 => s % 2 == t % 2
  | 11 => s % 3 == t % 3
  | 12 => s % 8 == t % 8
  | _ => s == t
def pr12 : List (Nat × Nat) := (List.range 12).flatMap fun s => (List.range 12).map fun t => (s + 1, t + 1)
def all3 : List (Nat × Nat × Nat) := (List.range 13).flatMap fun k => pr12.map fun q => (k, q.1, q.2)
def e17 (q : Nat × Nat × Nat) : Option Bool := eqD2 eqTab (callF defs 17) (partV q.1 q.2.1) (partV q.1 q.2.2)
def e18 (q : Nat × Nat × Nat) : Option Bool := eqD2 eqTab (callF defs 18) (partV q.1 q.2.1) (partV q.1 q.2.2)
def eS (q : Nat × Nat × Nat) : Bool := same (partV q.1 q.2.1) (partV q.1 q.2.2)
def eR (q : Nat × Nat) : Option Bool := eqO eqTab (callF defs 18) 6 (partV q.1 q.2) (partV q.1 q.2)
def eK (q : Nat × Nat × Nat) : Bool := eqK q.1 q.2.1 q.2.2
theorem refl18 : all2.map eR = all2.map fun _ => some true := by kernel_rfl
theorem eqs17 : all3.map e17 = all3.map fun q => some (eK q) := by kernel_rfl
theorem eqs18 : all3.map e18 = all3.map fun q => some (eK q) := by kernel_rfl
theorem same3 : all3.map eS = all3.map eK := by kernel_rfl
end K99

namespace K99
open PySem PySem.Spec Mi
def clsW : List Nat := [7, 9, 10, 8, 11, 12, 13, 15, 23, 20, 24, 16, 17, 18, 14, 22, 25, 26, 27, 28, 29]
def fldW : List (List Nat) := [[4, 5], [13, 9, 10], [8, 9, 10, 11], [6, 7, 8, 9, 10, 11, 12], [14, 15, 16, 1], [17], [2], [20, 21], [31, 32], [27, 1], [28, 33], [13, 20, 22], [0, 23], [24], [2, 18, 19], [8, 9, 10, 11, 30], [32, 34, 1, 35], [32, 36, 37, 1, 35], [32, 38], [39], [40, 41]]
def eqiW : List Nat := [11, 15, 17, 13, 19, 21, 23, 27, 51, 42, 53, 29, 31, 33, 25, 49, 55, 57, 59, 61, 63]
def kxW : List (List Nat) := [[4, 1], [3, 0, 0], [3, 0, 0, 0], [0, 0, 3, 0, 0, 0, 0], [0, 5, 0, 0], [0], [0], [0, 0], [1, 0], [6, 0], [6, 0], [3, 0, 0], [2, 8], [9], [10, 11, 12], [3, 0, 0, 0, 0], [0, 1, 0, 1], [0, 1, 0, 0, 1], [0, 7], [0], [0, 1]]
def ksW : List Str := (["WN", "BTT", "BTTT", "TTBTTTT", "TLTT", "T", "T", "TT", "NT", "GT", "GT"] : List Str) ++ (["BTT", "DE", "P", "RSM", "BTTTT", "TNTN", "TNTTN", "TF", "T", "TN"] : List Str)
def cl (w : Nat) : Nat := clsW.getD w 0
def fd' (w : Nat) : List Nat := fldW.getD w []
def eqi (w : Nat) : Nat := eqiW.getD w 0
def kx (w : Nat) : List Nat := kxW.getD w []
def ks (w : Nat) : Str := ksW.getD w ""
def mk (w : Nat) (ps : List D) : D := .ins (cl w) ((fd' w).zip ps)
/-- the pairs of two rows of parts, and whether they are equal -/
inductive Eqs (call : CallT) : List D → List D → List Bool → Prop
  | nil : Eqs call [] [] []
  | cons {x y : D} {b : Bool} {xs ys bs} : eqD2 eqTab call x y = some b → (b = false → same x y = false) → Eqs call xs ys bs → Eqs call (x :: xs) (y :: ys) (b :: bs)
theorem o_ixS {v : Vl} {h : Hs} {xs : List D} (e : seqOf v h = some xs) (i : Int) : oIx v (.d (.int i)) h = (L2.atI xs i).map fun d => (.d d, h) := by
  have k : ∀ z, v ≠ .d (.str z) := fun z q => by subst q; cases e
  cases v with
  | r j =>
    show (match seqOf (.r j) h with
      | some xs => (L2.atI xs i).map fun d => (Vl.d d, h)
      | none => none) = _
    rw [e]
  | d x =>
    cases x with
    | str z => exact absurd rfl (k z)
    | tup l => cases e; rfl
    | lv l => cases e; rfl
    | _ => cases e
theorem an_step {f g : SemE} {σ : Lo} {h : Hs} {b c : Bool} (hf : f σ h = .ok (.d (.bl b)) h) (hg : g σ h = .ok (.d (.bl c)) h) : eAn f g σ h = .ok (.d (.bl (b && c))) h := by
  rw [ap_an, hf]
  cases b <;> simp [hg]
theorem eq_leaf {ok : Nat → Bool} {k C : Nat} {call : CallT} {fs gs : List (Nat × D)} {x y : D} {b : Bool} {h : Hs} (hC : ok C = true) (hx : fs.lookup k = some x) (hy : gs.lookup k = some y) (e : eqD2 eqTab call x y = some b) :
    eBin (oEqO false eqTab call) (eFd ok k (eVar 0)) (eFd ok k (eVar 1)) [some (.d (.ins C fs)), some (.d (.ins C gs))] h = .ok (.d (.bl b)) h := by
  simp [hC, hx, hy, o_eqO h e]
theorem isi_eq {w w' : Nat} {h : Hs} {fs gs : List (Nat × D)} (hw : w < 21) (hw' : w' < 21) : eIsi (isiT isOk isBt (cl w)) (eVar 1) [some (.d (.ins (cl w) fs)), some (.d (.ins (cl w') gs))] h = .ok (.d (.bl (cl w' == cl w))) h := by
  have key : ∀ w < 21, ∀ w' < 21, lookT (.c (cl w')) (isiT isOk isBt (cl w)) = some (cl w' == cl w) := by decide +kernel
  simp [key w hw w' hw']
theorem eq_0 (n : Nat) (h : Hs) {ps qs : List D} {bs : List Bool} (e : Eqs (callF defs n) ps qs bs) (hl : ps.length = 2) : callF defs (n + 1) 11 [.d (mk 0 ps), .d (mk 0 qs)] h = .ok (.d (.bl (bs.all id))) h := by
  cases e with
  | nil => simp at hl
  | @cons x0 y0 b0 _ _ _ e0 s0 e =>
  cases e with
  | nil => simp at hl
  | @cons x1 y1 b1 _ _ _ e1 s1 e =>
  cases e with
  | cons _ _ _ => simp at hl
  | nil =>
  rw [callF_at (md := ⟨2, 2, false, m_Clash__eq_⟩) rfl rfl]
  have q : (eAn (eIsi (isiT isOk isBt 7) (eVar 1)) (eAn (eBin (oEqO false eqTab (callF defs n)) (eFd (ok_why) 4 (eVar 0)) (eFd (ok_why) 4 (eVar 1))) (eBin (oEqO false eqTab (callF defs n)) (eFd (ok_at) 5 (eVar 0)) (eFd (ok_at) 5 (eVar 1))))) [some (.d (mk 0 [x0, x1])), some (.d (mk 0 [y0, y1]))] h = .ok (.d (.bl (true && (b0 && (b1))))) h := an_step (isi_eq (w := 0) (w' := 0) (by omega) (by omega)) (an_step (eq_leaf rfl rfl rfl e0) (eq_leaf rfl rfl rfl e1))
  show fin false h.length (sb ((eAn (eIsi (isiT isOk isBt 7) (eVar 1)) (eAn (eBin (oEqO false eqTab (callF defs n)) (eFd (ok_why) 4 (eVar 0)) (eFd (ok_why) 4 (eVar 1))) (eBin (oEqO false eqTab (callF defs n)) (eFd (ok_at) 5 (eVar 0)) (eFd (ok_at) 5 (eVar 1))))) [some (.d (mk 0 [x0, x1])), some (.d (mk 0 [y0, y1]))] h) _ fun x h1 => .ok (.ret x) _ h1) = _
  rw [q]
  simp
theorem eq_1 (n : Nat) (h : Hs) {ps qs : List D} {bs : List Bool} (e : Eqs (callF defs n) ps qs bs) (hl : ps.length = 3) : callF defs (n + 1) 15 [.d (mk 1 ps), .d (mk 1 qs)] h = .ok (.d (.bl (bs.all id))) h := by
  cases e with
  | nil => simp at hl
  | @cons x0 y0 b0 _ _ _ e0 s0 e =>
  cases e with
  | nil => simp at hl
  | @cons x1 y1 b1 _ _ _ e1 s1 e =>
  cases e with
  | nil => simp at hl
  | @cons x2 y2 b2 _ _ _ e2 s2 e =>
  cases e with
  | cons _ _ _ => simp at hl
  | nil =>
  rw [callF_at (md := ⟨2, 2, false, m_Canon__eq_⟩) rfl rfl]
  have q : (eAn (eIsi (isiT isOk isBt 9) (eVar 1)) (eAn (eBin (oEqO false eqTab (callF defs n)) (eFd (ok_book) 13 (eVar 0)) (eFd (ok_book) 13 (eVar 1))) (eAn (eBin (oEqO false eqTab (callF defs n)) (eFd (ok_letters) 9 (eVar 0)) (eFd (ok_letters) 9 (eVar 1))) (eBin (oEqO false eqTab (callF defs n)) (eFd (ok_unknowns) 10 (eVar 0)) (eFd (ok_unknowns) 10 (eVar 1)))))) [some (.d (mk 1 [x0, x1, x2])), some (.d (mk 1 [y0, y1, y2]))] h = .ok (.d (.bl (true && (b0 && (b1 && (b2)))))) h := an_step (isi_eq (w := 1) (w' := 1) (by omega) (by omega)) (an_step (eq_leaf rfl rfl rfl e0) (an_step (eq_leaf rfl rfl rfl e1) (eq_leaf rfl rfl rfl e2)))
  show fin false h.length (sb ((eAn (eIsi (isiT isOk isBt 9) (eVar 1)) (eAn (eBin (oEqO false eqTab (callF defs n)) (eFd (ok_book) 13 (eVar 0)) (eFd (ok_book) 13 (eVar 1))) (eAn (eBin (oEqO false eqTab (callF defs n)) (eFd (ok_letters) 9 (eVar 0)) (eFd (ok_letters) 9 (eVar 1))) (eBin (oEqO false eqTab (callF defs n)) (eFd (ok_unknowns) 10 (eVar 0)) (eFd (ok_unknowns) 10 (eVar 1)))))) [some (.d (mk 1 [x0, x1, x2])), some (.d (mk 1 [y0, y1, y2]))] h) _ fun x h1 => .ok (.ret x) _ h1) = _
  rw [q]
  simp
theorem eq_2 (n : Nat) (h : Hs) {ps qs : List D} {bs : List Bool} (e : Eqs (callF defs n) ps qs bs) (hl : ps.length = 4) : callF defs (n + 1) 17 [.d (mk 2 ps), .d (mk 2 qs)] h = .ok (.d (.bl (bs.all id))) h := by
  cases e with
  | nil => simp at hl
  | @cons x0 y0 b0 _ _ _ e0 s0 e =>
  cases e with
  | nil => simp at hl
  | @cons x1 y1 b1 _ _ _ e1 s1 e =>
  cases e with
  | nil => simp at hl
  | @cons x2 y2 b2 _ _ _ e2 s2 e =>
  cases e with
  | nil => simp at hl
  | @cons x3 y3 b3 _ _ _ e3 s3 e =>
  cases e with
  | cons _ _ _ => simp at hl
  | nil =>
  rw [callF_at (md := ⟨2, 2, false, m_Settled__eq_⟩) rfl rfl]
  have q : (eAn (eIsi (isiT isOk isBt 10) (eVar 1)) (eAn (eBin (oEqO false eqTab (callF defs n)) (eFd (ok_told) 8 (eVar 0)) (eFd (ok_told) 8 (eVar 1))) (eAn (eBin (oEqO false eqTab (callF defs n)) (eFd (ok_letters) 9 (eVar 0)) (eFd (ok_letters) 9 (eVar 1))) (eAn (eBin (oEqO false eqTab (callF defs n)) (eFd (ok_unknowns) 10 (eVar 0)) (eFd (ok_unknowns) 10 (eVar 1))) (eBin (oEqO false eqTab (callF defs n)) (eFd (ok_spares) 11 (eVar 0)) (eFd (ok_spares) 11 (eVar 1))))))) [some (.d (mk 2 [x0, x1, x2, x3])), some (.d (mk 2 [y0, y1, y2, y3]))] h = .ok (.d (.bl (true && (b0 && (b1 && (b2 && (b3))))))) h := an_step (isi_eq (w := 2) (w' := 2) (by omega) (by omega)) (an_step (eq_leaf rfl rfl rfl e0) (an_step (eq_leaf rfl rfl rfl e1) (an_step (eq_leaf rfl rfl rfl e2) (eq_leaf rfl rfl rfl e3))))
  show fin false h.length (sb ((eAn (eIsi (isiT isOk isBt 10) (eVar 1)) (eAn (eBin (oEqO false eqTab (callF defs n)) (eFd (ok_told) 8 (eVar 0)) (eFd (ok_told) 8 (eVar 1))) (eAn (eBin (oEqO false eqTab (callF defs n)) (eFd (ok_letters) 9 (eVar 0)) (eFd (ok_letters) 9 (eVar 1))) (eAn (eBin (oEqO false eqTab (callF defs n)) (eFd (ok_unknowns) 10 (eVar 0)) (eFd (ok_unknowns) 10 (eVar 1))) (eBin (oEqO false eqTab (callF defs n)) (eFd (ok_spares) 11 (eVar 0)) (eFd (ok_spares) 11 (eVar 1))))))) [some (.d (mk 2 [x0, x1, x2, x3])), some (.d (mk 2 [y0, y1, y2, y3]))] h) _ fun x h1 => .ok (.ret x) _ h1) = _
  rw [q]
  simp
theorem eq_3 (n : Nat) (h : Hs) {ps qs : List D} {bs : List Bool} (e : Eqs (callF defs n) ps qs bs) (hl : ps.length = 7) : callF defs (n + 1) 13 [.d (mk 3 ps), .d (mk 3 qs)] h = .ok (.d (.bl (bs.all id))) h := by
  cases e with
  | nil => simp at hl
  | @cons x0 y0 b0 _ _ _ e0 s0 e =>
  cases e with
  | nil => simp at hl
  | @cons x1 y1 b1 _ _ _ e1 s1 e =>
  cases e with
  | nil => simp at hl
  | @cons x2 y2 b2 _ _ _ e2 s2 e =>
  cases e with
  | nil => simp at hl
  | @cons x3 y3 b3 _ _ _ e3 s3 e =>
  cases e with
  | nil => simp at hl
  | @cons x4 y4 b4 _ _ _ e4 s4 e =>
  cases e with
  | nil => simp at hl
  | @cons x5 y5 b5 _ _ _ e5 s5 e =>
  cases e with
  | nil => simp at hl
  | @cons x6 y6 b6 _ _ _ e6 s6 e =>
  cases e with
  | cons _ _ _ => simp at hl
  | nil =>
  rw [callF_at (md := ⟨2, 2, false, m_Guess__eq_⟩) rfl rfl]
  have q : (eAn (eIsi (isiT isOk isBt 8) (eVar 1)) (eAn (eBin (oEqO false eqTab (callF defs n)) (eFd (ok_parts) 6 (eVar 0)) (eFd (ok_parts) 6 (eVar 1))) (eAn (eBin (oEqO false eqTab (callF defs n)) (eFd (ok_news) 7 (eVar 0)) (eFd (ok_news) 7 (eVar 1))) (eAn (eBin (oEqO false eqTab (callF defs n)) (eFd (ok_told) 8 (eVar 0)) (eFd (ok_told) 8 (eVar 1))) (eAn (eBin (oEqO false eqTab (callF defs n)) (eFd (ok_letters) 9 (eVar 0)) (eFd (ok_letters) 9 (eVar 1))) (eAn (eBin (oEqO false eqTab (callF defs n)) (eFd (ok_unknowns) 10 (eVar 0)) (eFd (ok_unknowns) 10 (eVar 1))) (eAn (eBin (oEqO false eqTab (callF defs n)) (eFd (ok_spares) 11 (eVar 0)) (eFd (ok_spares) 11 (eVar 1))) (eBin (oEqO false eqTab (callF defs n)) (eFd (ok_equations) 12 (eVar 0)) (eFd (ok_equations) 12 (eVar 1)))))))))) [some (.d (mk 3 [x0, x1, x2, x3, x4, x5, x6])), some (.d (mk 3 [y0, y1, y2, y3, y4, y5, y6]))] h = .ok (.d (.bl (true && (b0 && (b1 && (b2 && (b3 && (b4 && (b5 && (b6)))))))))) h := an_step (isi_eq (w := 3) (w' := 3) (by omega) (by omega)) (an_step (eq_leaf rfl rfl rfl e0) (an_step (eq_leaf rfl rfl rfl e1) (an_step (eq_leaf rfl rfl rfl e2) (an_step (eq_leaf rfl rfl rfl e3) (an_step (eq_leaf rfl rfl rfl e4) (an_step (eq_leaf rfl rfl rfl e5) (eq_leaf rfl rfl rfl e6)))))))
  show fin false h.length (sb ((eAn (eIsi (isiT isOk isBt 8) (eVar 1)) (eAn (eBin (oEqO false eqTab (callF defs n)) (eFd (ok_parts) 6 (eVar 0)) (eFd (ok_parts) 6 (eVar 1))) (eAn (eBin (oEqO false eqTab (callF defs n)) (eFd (ok_news) 7 (eVar 0)) (eFd (ok_news) 7 (eVar 1))) (eAn (eBin (oEqO false eqTab (callF defs n)) (eFd (ok_told) 8 (eVar 0)) (eFd (ok_told) 8 (eVar 1))) (eAn (eBin (oEqO false eqTab (callF defs n)) (eFd (ok_letters) 9 (eVar 0)) (eFd (ok_letters) 9 (eVar 1))) (eAn (eBin (oEqO false eqTab (callF defs n)) (eFd (ok_unknowns) 10 (eVar 0)) (eFd (ok_unknowns) 10 (eVar 1))) (eAn (eBin (oEqO false eqTab (callF defs n)) (eFd (ok_spares) 11 (eVar 0)) (eFd (ok_spares) 11 (eVar 1))) (eBin (oEqO false eqTab (callF defs n)) (eFd (ok_equations) 12 (eVar 0)) (eFd (ok_equations) 12 (eVar 1)))))))))) [some (.d (mk 3 [x0, x1, x2, x3, x4, x5, x6])), some (.d (mk 3 [y0, y1, y2, y3, y4, y5, y6]))] h) _ fun x h1 => .ok (.ret x) _ h1) = _
  rw [q]
  simp
theorem eq_4 (n : Nat) (h : Hs) {ps qs : List D} {bs : List Bool} (e : Eqs (callF defs n) ps qs bs) (hl : ps.length = 4) : callF defs (n + 1) 19 [.d (mk 4 ps), .d (mk 4 qs)] h = .ok (.d (.bl (bs.all id))) h := by
  cases e with
  | nil => simp at hl
  | @cons x0 y0 b0 _ _ _ e0 s0 e =>
  cases e with
  | nil => simp at hl
  | @cons x1 y1 b1 _ _ _ e1 s1 e =>
  cases e with
  | nil => simp at hl
  | @cons x2 y2 b2 _ _ _ e2 s2 e =>
  cases e with
  | nil => simp at hl
  | @cons x3 y3 b3 _ _ _ e3 s3 e =>
  cases e with
  | cons _ _ _ => simp at hl
  | nil =>
  rw [callF_at (md := ⟨2, 2, false, m_Shape__eq_⟩) rfl rfl]
  have q : (eAn (eIsi (isiT isOk isBt 11) (eVar 1)) (eAn (eBin (oEqO false eqTab (callF defs n)) (eFd (ok_front) 14 (eVar 0)) (eFd (ok_front) 14 (eVar 1))) (eAn (eBin (oEqO false eqTab (callF defs n)) (eFd (ok_stays) 15 (eVar 0)) (eFd (ok_stays) 15 (eVar 1))) (eAn (eBin (oEqO false eqTab (callF defs n)) (eFd (ok_back) 16 (eVar 0)) (eFd (ok_back) 16 (eVar 1))) (eBin (oEqO false eqTab (callF defs n)) (eFd (ok_ends) 1 (eVar 0)) (eFd (ok_ends) 1 (eVar 1))))))) [some (.d (mk 4 [x0, x1, x2, x3])), some (.d (mk 4 [y0, y1, y2, y3]))] h = .ok (.d (.bl (true && (b0 && (b1 && (b2 && (b3))))))) h := an_step (isi_eq (w := 4) (w' := 4) (by omega) (by omega)) (an_step (eq_leaf rfl rfl rfl e0) (an_step (eq_leaf rfl rfl rfl e1) (an_step (eq_leaf rfl rfl rfl e2) (eq_leaf rfl rfl rfl e3))))
  show fin false h.length (sb ((eAn (eIsi (isiT isOk isBt 11) (eVar 1)) (eAn (eBin (oEqO false eqTab (callF defs n)) (eFd (ok_front) 14 (eVar 0)) (eFd (ok_front) 14 (eVar 1))) (eAn (eBin (oEqO false eqTab (callF defs n)) (eFd (ok_stays) 15 (eVar 0)) (eFd (ok_stays) 15 (eVar 1))) (eAn (eBin (oEqO false eqTab (callF defs n)) (eFd (ok_back) 16 (eVar 0)) (eFd (ok_back) 16 (eVar 1))) (eBin (oEqO false eqTab (callF defs n)) (eFd (ok_ends) 1 (eVar 0)) (eFd (ok_ends) 1 (eVar 1))))))) [some (.d (mk 4 [x0, x1, x2, x3])), some (.d (mk 4 [y0, y1, y2, y3]))] h) _ fun x h1 => .ok (.ret x) _ h1) = _
  rw [q]
  simp
theorem eq_5 (n : Nat) (h : Hs) {ps qs : List D} {bs : List Bool} (e : Eqs (callF defs n) ps qs bs) (hl : ps.length = 1) : callF defs (n + 1) 21 [.d (mk 5 ps), .d (mk 5 qs)] h = .ok (.d (.bl (bs.all id))) h := by
  cases e with
  | nil => simp at hl
  | @cons x0 y0 b0 _ _ _ e0 s0 e =>
  cases e with
  | cons _ _ _ => simp at hl
  | nil =>
  rw [callF_at (md := ⟨2, 2, false, m_Answer__eq_⟩) rfl rfl]
  have q : (eAn (eIsi (isiT isOk isBt 12) (eVar 1)) (eBin (oEqO false eqTab (callF defs n)) (eFd (ok_numbers) 17 (eVar 0)) (eFd (ok_numbers) 17 (eVar 1)))) [some (.d (mk 5 [x0])), some (.d (mk 5 [y0]))] h = .ok (.d (.bl (true && (b0)))) h := an_step (isi_eq (w := 5) (w' := 5) (by omega) (by omega)) (eq_leaf rfl rfl rfl e0)
  show fin false h.length (sb ((eAn (eIsi (isiT isOk isBt 12) (eVar 1)) (eBin (oEqO false eqTab (callF defs n)) (eFd (ok_numbers) 17 (eVar 0)) (eFd (ok_numbers) 17 (eVar 1)))) [some (.d (mk 5 [x0])), some (.d (mk 5 [y0]))] h) _ fun x h1 => .ok (.ret x) _ h1) = _
  rw [q]
  simp
theorem eq_6 (n : Nat) (h : Hs) {ps qs : List D} {bs : List Bool} (e : Eqs (callF defs n) ps qs bs) (hl : ps.length = 1) : callF defs (n + 1) 23 [.d (mk 6 ps), .d (mk 6 qs)] h = .ok (.d (.bl (bs.all id))) h := by
  cases e with
  | nil => simp at hl
  | @cons x0 y0 b0 _ _ _ e0 s0 e =>
  cases e with
  | cons _ _ _ => simp at hl
  | nil =>
  rw [callF_at (md := ⟨2, 2, false, m_Carries__eq_⟩) rfl rfl]
  have q : (eAn (eIsi (isiT isOk isBt 13) (eVar 1)) (eBin (oEqO false eqTab (callF defs n)) (eFd (ok_rows) 2 (eVar 0)) (eFd (ok_rows) 2 (eVar 1)))) [some (.d (mk 6 [x0])), some (.d (mk 6 [y0]))] h = .ok (.d (.bl (true && (b0)))) h := an_step (isi_eq (w := 6) (w' := 6) (by omega) (by omega)) (eq_leaf rfl rfl rfl e0)
  show fin false h.length (sb ((eAn (eIsi (isiT isOk isBt 13) (eVar 1)) (eBin (oEqO false eqTab (callF defs n)) (eFd (ok_rows) 2 (eVar 0)) (eFd (ok_rows) 2 (eVar 1)))) [some (.d (mk 6 [x0])), some (.d (mk 6 [y0]))] h) _ fun x h1 => .ok (.ret x) _ h1) = _
  rw [q]
  simp
theorem eq_7 (n : Nat) (h : Hs) {ps qs : List D} {bs : List Bool} (e : Eqs (callF defs n) ps qs bs) (hl : ps.length = 2) : callF defs (n + 1) 27 [.d (mk 7 ps), .d (mk 7 qs)] h = .ok (.d (.bl (bs.all id))) h := by
  cases e with
  | nil => simp at hl
  | @cons x0 y0 b0 _ _ _ e0 s0 e =>
  cases e with
  | nil => simp at hl
  | @cons x1 y1 b1 _ _ _ e1 s1 e =>
  cases e with
  | cons _ _ _ => simp at hl
  | nil =>
  rw [callF_at (md := ⟨2, 2, false, m_Look__eq_⟩) rfl rfl]
  have q : (eAn (eIsi (isiT isOk isBt 15) (eVar 1)) (eAn (eBin (oEqO false eqTab (callF defs n)) (eFd (ok_step) 20 (eVar 0)) (eFd (ok_step) 20 (eVar 1))) (eBin (oEqO false eqTab (callF defs n)) (eFd (ok_outcomes) 21 (eVar 0)) (eFd (ok_outcomes) 21 (eVar 1))))) [some (.d (mk 7 [x0, x1])), some (.d (mk 7 [y0, y1]))] h = .ok (.d (.bl (true && (b0 && (b1))))) h := an_step (isi_eq (w := 7) (w' := 7) (by omega) (by omega)) (an_step (eq_leaf rfl rfl rfl e0) (eq_leaf rfl rfl rfl e1))
  show fin false h.length (sb ((eAn (eIsi (isiT isOk isBt 15) (eVar 1)) (eAn (eBin (oEqO false eqTab (callF defs n)) (eFd (ok_step) 20 (eVar 0)) (eFd (ok_step) 20 (eVar 1))) (eBin (oEqO false eqTab (callF defs n)) (eFd (ok_outcomes) 21 (eVar 0)) (eFd (ok_outcomes) 21 (eVar 1))))) [some (.d (mk 7 [x0, x1])), some (.d (mk 7 [y0, y1]))] h) _ fun x h1 => .ok (.ret x) _ h1) = _
  rw [q]
  simp
theorem eq_8 (n : Nat) (h : Hs) {ps qs : List D} {bs : List Bool} (e : Eqs (callF defs n) ps qs bs) (hl : ps.length = 2) : callF defs (n + 1) 51 [.d (mk 8 ps), .d (mk 8 qs)] h = .ok (.d (.bl (bs.all id))) h := by
  cases e with
  | nil => simp at hl
  | @cons x0 y0 b0 _ _ _ e0 s0 e =>
  cases e with
  | nil => simp at hl
  | @cons x1 y1 b1 _ _ _ e1 s1 e =>
  cases e with
  | cons _ _ _ => simp at hl
  | nil =>
  rw [callF_at (md := ⟨2, 2, false, m_Trail__eq_⟩) rfl rfl]
  have q : (eAn (eIsi (isiT isOk isBt 23) (eVar 1)) (eAn (eBin (oEqO false eqTab (callF defs n)) (eFd (ok_root) 31 (eVar 0)) (eFd (ok_root) 31 (eVar 1))) (eBin (oEqO false eqTab (callF defs n)) (eFd (ok_turns) 32 (eVar 0)) (eFd (ok_turns) 32 (eVar 1))))) [some (.d (mk 8 [x0, x1])), some (.d (mk 8 [y0, y1]))] h = .ok (.d (.bl (true && (b0 && (b1))))) h := an_step (isi_eq (w := 8) (w' := 8) (by omega) (by omega)) (an_step (eq_leaf rfl rfl rfl e0) (eq_leaf rfl rfl rfl e1))
  show fin false h.length (sb ((eAn (eIsi (isiT isOk isBt 23) (eVar 1)) (eAn (eBin (oEqO false eqTab (callF defs n)) (eFd (ok_root) 31 (eVar 0)) (eFd (ok_root) 31 (eVar 1))) (eBin (oEqO false eqTab (callF defs n)) (eFd (ok_turns) 32 (eVar 0)) (eFd (ok_turns) 32 (eVar 1))))) [some (.d (mk 8 [x0, x1])), some (.d (mk 8 [y0, y1]))] h) _ fun x h1 => .ok (.ret x) _ h1) = _
  rw [q]
  simp
theorem eq_9 (n : Nat) (h : Hs) {ps qs : List D} {bs : List Bool} (e : Eqs (callF defs n) ps qs bs) (hl : ps.length = 2) : callF defs (n + 1) 42 [.d (mk 9 ps), .d (mk 9 qs)] h = .ok (.d (.bl (bs.all id))) h := by
  cases e with
  | nil => simp at hl
  | @cons x0 y0 b0 _ _ _ e0 s0 e =>
  cases e with
  | nil => simp at hl
  | @cons x1 y1 b1 _ _ _ e1 s1 e =>
  cases e with
  | cons _ _ _ => simp at hl
  | nil =>
  rw [callF_at (md := ⟨2, 2, false, m_Pressed__eq_⟩) rfl rfl]
  have q : (eAn (eIsi (isiT isOk isBt 20) (eVar 1)) (eAn (eBin (oEqO false eqTab (callF defs n)) (eFd (ok_table) 27 (eVar 0)) (eFd (ok_table) 27 (eVar 1))) (eBin (oEqO false eqTab (callF defs n)) (eFd (ok_ends) 1 (eVar 0)) (eFd (ok_ends) 1 (eVar 1))))) [some (.d (mk 9 [x0, x1])), some (.d (mk 9 [y0, y1]))] h = .ok (.d (.bl (true && (b0 && (b1))))) h := an_step (isi_eq (w := 9) (w' := 9) (by omega) (by omega)) (an_step (eq_leaf rfl rfl rfl e0) (eq_leaf rfl rfl rfl e1))
  show fin false h.length (sb ((eAn (eIsi (isiT isOk isBt 20) (eVar 1)) (eAn (eBin (oEqO false eqTab (callF defs n)) (eFd (ok_table) 27 (eVar 0)) (eFd (ok_table) 27 (eVar 1))) (eBin (oEqO false eqTab (callF defs n)) (eFd (ok_ends) 1 (eVar 0)) (eFd (ok_ends) 1 (eVar 1))))) [some (.d (mk 9 [x0, x1])), some (.d (mk 9 [y0, y1]))] h) _ fun x h1 => .ok (.ret x) _ h1) = _
  rw [q]
  simp
theorem eq_10 (n : Nat) (h : Hs) {ps qs : List D} {bs : List Bool} (e : Eqs (callF defs n) ps qs bs) (hl : ps.length = 2) : callF defs (n + 1) 53 [.d (mk 10 ps), .d (mk 10 qs)] h = .ok (.d (.bl (bs.all id))) h := by
  cases e with
  | nil => simp at hl
  | @cons x0 y0 b0 _ _ _ e0 s0 e =>
  cases e with
  | nil => simp at hl
  | @cons x1 y1 b1 _ _ _ e1 s1 e =>
  cases e with
  | cons _ _ _ => simp at hl
  | nil =>
  rw [callF_at (md := ⟨2, 2, false, m_Stages__eq_⟩) rfl rfl]
  have q : (eAn (eIsi (isiT isOk isBt 24) (eVar 1)) (eAn (eBin (oEqO false eqTab (callF defs n)) (eFd (ok_grammar) 28 (eVar 0)) (eFd (ok_grammar) 28 (eVar 1))) (eBin (oEqO false eqTab (callF defs n)) (eFd (ok_stages) 33 (eVar 0)) (eFd (ok_stages) 33 (eVar 1))))) [some (.d (mk 10 [x0, x1])), some (.d (mk 10 [y0, y1]))] h = .ok (.d (.bl (true && (b0 && (b1))))) h := an_step (isi_eq (w := 10) (w' := 10) (by omega) (by omega)) (an_step (eq_leaf rfl rfl rfl e0) (eq_leaf rfl rfl rfl e1))
  show fin false h.length (sb ((eAn (eIsi (isiT isOk isBt 24) (eVar 1)) (eAn (eBin (oEqO false eqTab (callF defs n)) (eFd (ok_grammar) 28 (eVar 0)) (eFd (ok_grammar) 28 (eVar 1))) (eBin (oEqO false eqTab (callF defs n)) (eFd (ok_stages) 33 (eVar 0)) (eFd (ok_stages) 33 (eVar 1))))) [some (.d (mk 10 [x0, x1])), some (.d (mk 10 [y0, y1]))] h) _ fun x h1 => .ok (.ret x) _ h1) = _
  rw [q]
  simp
theorem eq_11 (n : Nat) (h : Hs) {ps qs : List D} {bs : List Bool} (e : Eqs (callF defs n) ps qs bs) (hl : ps.length = 3) : callF defs (n + 1) 29 [.d (mk 11 ps), .d (mk 11 qs)] h = .ok (.d (.bl (bs.all id))) h := by
  cases e with
  | nil => simp at hl
  | @cons x0 y0 b0 _ _ _ e0 s0 e =>
  cases e with
  | nil => simp at hl
  | @cons x1 y1 b1 _ _ _ e1 s1 e =>
  cases e with
  | nil => simp at hl
  | @cons x2 y2 b2 _ _ _ e2 s2 e =>
  cases e with
  | cons _ _ _ => simp at hl
  | nil =>
  rw [callF_at (md := ⟨2, 2, false, m_Entry__eq_⟩) rfl rfl]
  have q : (eAn (eIsi (isiT isOk isBt 16) (eVar 1)) (eAn (eBin (oEqO false eqTab (callF defs n)) (eFd (ok_book) 13 (eVar 0)) (eFd (ok_book) 13 (eVar 1))) (eAn (eBin (oEqO false eqTab (callF defs n)) (eFd (ok_step) 20 (eVar 0)) (eFd (ok_step) 20 (eVar 1))) (eBin (oEqO false eqTab (callF defs n)) (eFd (ok_lots) 22 (eVar 0)) (eFd (ok_lots) 22 (eVar 1)))))) [some (.d (mk 11 [x0, x1, x2])), some (.d (mk 11 [y0, y1, y2]))] h = .ok (.d (.bl (true && (b0 && (b1 && (b2)))))) h := an_step (isi_eq (w := 11) (w' := 11) (by omega) (by omega)) (an_step (eq_leaf rfl rfl rfl e0) (an_step (eq_leaf rfl rfl rfl e1) (eq_leaf rfl rfl rfl e2)))
  show fin false h.length (sb ((eAn (eIsi (isiT isOk isBt 16) (eVar 1)) (eAn (eBin (oEqO false eqTab (callF defs n)) (eFd (ok_book) 13 (eVar 0)) (eFd (ok_book) 13 (eVar 1))) (eAn (eBin (oEqO false eqTab (callF defs n)) (eFd (ok_step) 20 (eVar 0)) (eFd (ok_step) 20 (eVar 1))) (eBin (oEqO false eqTab (callF defs n)) (eFd (ok_lots) 22 (eVar 0)) (eFd (ok_lots) 22 (eVar 1)))))) [some (.d (mk 11 [x0, x1, x2])), some (.d (mk 11 [y0, y1, y2]))] h) _ fun x h1 => .ok (.ret x) _ h1) = _
  rw [q]
  simp
theorem eq_12 (n : Nat) (h : Hs) {ps qs : List D} {bs : List Bool} (e : Eqs (callF defs n) ps qs bs) (hl : ps.length = 2) : callF defs (n + 1) 31 [.d (mk 12 ps), .d (mk 12 qs)] h = .ok (.d (.bl (bs.all id))) h := by
  cases e with
  | nil => simp at hl
  | @cons x0 y0 b0 _ _ _ e0 s0 e =>
  cases e with
  | nil => simp at hl
  | @cons x1 y1 b1 _ _ _ e1 s1 e =>
  cases e with
  | cons _ _ _ => simp at hl
  | nil =>
  rw [callF_at (md := ⟨2, 2, false, m_Paper__eq_⟩) rfl rfl]
  have q : (eAn (eIsi (isiT isOk isBt 17) (eVar 1)) (eAn (eBin (oEqO false eqTab (callF defs n)) (eFd (ok_deeds) 0 (eVar 0)) (eFd (ok_deeds) 0 (eVar 1))) (eBin (oEqO false eqTab (callF defs n)) (eFd (ok_entries) 23 (eVar 0)) (eFd (ok_entries) 23 (eVar 1))))) [some (.d (mk 12 [x0, x1])), some (.d (mk 12 [y0, y1]))] h = .ok (.d (.bl (true && (b0 && (b1))))) h := an_step (isi_eq (w := 12) (w' := 12) (by omega) (by omega)) (an_step (eq_leaf rfl rfl rfl e0) (eq_leaf rfl rfl rfl e1))
  show fin false h.length (sb ((eAn (eIsi (isiT isOk isBt 17) (eVar 1)) (eAn (eBin (oEqO false eqTab (callF defs n)) (eFd (ok_deeds) 0 (eVar 0)) (eFd (ok_deeds) 0 (eVar 1))) (eBin (oEqO false eqTab (callF defs n)) (eFd (ok_entries) 23 (eVar 0)) (eFd (ok_entries) 23 (eVar 1))))) [some (.d (mk 12 [x0, x1])), some (.d (mk 12 [y0, y1]))] h) _ fun x h1 => .ok (.ret x) _ h1) = _
  rw [q]
  simp
theorem eq_13 (n : Nat) (h : Hs) {ps qs : List D} {bs : List Bool} (e : Eqs (callF defs n) ps qs bs) (hl : ps.length = 1) : callF defs (n + 1) 33 [.d (mk 13 ps), .d (mk 13 qs)] h = .ok (.d (.bl (bs.all id))) h := by
  cases e with
  | nil => simp at hl
  | @cons x0 y0 b0 _ _ _ e0 s0 e =>
  cases e with
  | cons _ _ _ => simp at hl
  | nil =>
  rw [callF_at (md := ⟨2, 2, false, m_Shut__eq_⟩) rfl rfl]
  have q : (eAn (eIsi (isiT isOk isBt 18) (eVar 1)) (eBin (oEqO false eqTab (callF defs n)) (eFd (ok_paper) 24 (eVar 0)) (eFd (ok_paper) 24 (eVar 1)))) [some (.d (mk 13 [x0])), some (.d (mk 13 [y0]))] h = .ok (.d (.bl (true && (b0)))) h := an_step (isi_eq (w := 13) (w' := 13) (by omega) (by omega)) (eq_leaf rfl rfl rfl e0)
  show fin false h.length (sb ((eAn (eIsi (isiT isOk isBt 18) (eVar 1)) (eBin (oEqO false eqTab (callF defs n)) (eFd (ok_paper) 24 (eVar 0)) (eFd (ok_paper) 24 (eVar 1)))) [some (.d (mk 13 [x0])), some (.d (mk 13 [y0]))] h) _ fun x h1 => .ok (.ret x) _ h1) = _
  rw [q]
  simp
theorem eq_14 (n : Nat) (h : Hs) {ps qs : List D} {bs : List Bool} (e : Eqs (callF defs n) ps qs bs) (hl : ps.length = 3) : callF defs (n + 1) 25 [.d (mk 14 ps), .d (mk 14 qs)] h = .ok (.d (.bl (bs.all id))) h := by
  cases e with
  | nil => simp at hl
  | @cons x0 y0 b0 _ _ _ e0 s0 e =>
  cases e with
  | nil => simp at hl
  | @cons x1 y1 b1 _ _ _ e1 s1 e =>
  cases e with
  | nil => simp at hl
  | @cons x2 y2 b2 _ _ _ e2 s2 e =>
  cases e with
  | cons _ _ _ => simp at hl
  | nil =>
  rw [callF_at (md := ⟨2, 2, false, m_Case__eq_⟩) rfl rfl]
  have q : (eAn (eIsi (isiT isOk isBt 14) (eVar 1)) (eAn (eBin (oEqO false eqTab (callF defs n)) (eFd (ok_rows) 2 (eVar 0)) (eFd (ok_rows) 2 (eVar 1))) (eAn (eBin (oEqO false eqTab (callF defs n)) (eFd (ok_sets) 18 (eVar 0)) (eFd (ok_sets) 18 (eVar 1))) (eBin (oEqO false eqTab (callF defs n)) (eFd (ok_full) 19 (eVar 0)) (eFd (ok_full) 19 (eVar 1)))))) [some (.d (mk 14 [x0, x1, x2])), some (.d (mk 14 [y0, y1, y2]))] h = .ok (.d (.bl (true && (b0 && (b1 && (b2)))))) h := an_step (isi_eq (w := 14) (w' := 14) (by omega) (by omega)) (an_step (eq_leaf rfl rfl rfl e0) (an_step (eq_leaf rfl rfl rfl e1) (eq_leaf rfl rfl rfl e2)))
  show fin false h.length (sb ((eAn (eIsi (isiT isOk isBt 14) (eVar 1)) (eAn (eBin (oEqO false eqTab (callF defs n)) (eFd (ok_rows) 2 (eVar 0)) (eFd (ok_rows) 2 (eVar 1))) (eAn (eBin (oEqO false eqTab (callF defs n)) (eFd (ok_sets) 18 (eVar 0)) (eFd (ok_sets) 18 (eVar 1))) (eBin (oEqO false eqTab (callF defs n)) (eFd (ok_full) 19 (eVar 0)) (eFd (ok_full) 19 (eVar 1)))))) [some (.d (mk 14 [x0, x1, x2])), some (.d (mk 14 [y0, y1, y2]))] h) _ fun x h1 => .ok (.ret x) _ h1) = _
  rw [q]
  simp
theorem eq_15 (n : Nat) (h : Hs) {ps qs : List D} {bs : List Bool} (e : Eqs (callF defs n) ps qs bs) (hl : ps.length = 5) : callF defs (n + 1) 49 [.d (mk 15 ps), .d (mk 15 qs)] h = .ok (.d (.bl (bs.all id))) h := by
  cases e with
  | nil => simp at hl
  | @cons x0 y0 b0 _ _ _ e0 s0 e =>
  cases e with
  | nil => simp at hl
  | @cons x1 y1 b1 _ _ _ e1 s1 e =>
  cases e with
  | nil => simp at hl
  | @cons x2 y2 b2 _ _ _ e2 s2 e =>
  cases e with
  | nil => simp at hl
  | @cons x3 y3 b3 _ _ _ e3 s3 e =>
  cases e with
  | nil => simp at hl
  | @cons x4 y4 b4 _ _ _ e4 s4 e =>
  cases e with
  | cons _ _ _ => simp at hl
  | nil =>
  rw [callF_at (md := ⟨2, 2, false, m_Root__eq_⟩) rfl rfl]
  have q : (eAn (eIsi (isiT isOk isBt 22) (eVar 1)) (eAn (eBin (oEqO false eqTab (callF defs n)) (eFd (ok_told) 8 (eVar 0)) (eFd (ok_told) 8 (eVar 1))) (eAn (eBin (oEqO false eqTab (callF defs n)) (eFd (ok_letters) 9 (eVar 0)) (eFd (ok_letters) 9 (eVar 1))) (eAn (eBin (oEqO false eqTab (callF defs n)) (eFd (ok_unknowns) 10 (eVar 0)) (eFd (ok_unknowns) 10 (eVar 1))) (eAn (eBin (oEqO false eqTab (callF defs n)) (eFd (ok_spares) 11 (eVar 0)) (eFd (ok_spares) 11 (eVar 1))) (eBin (oEqO false eqTab (callF defs n)) (eFd (ok_empties) 30 (eVar 0)) (eFd (ok_empties) 30 (eVar 1)))))))) [some (.d (mk 15 [x0, x1, x2, x3, x4])), some (.d (mk 15 [y0, y1, y2, y3, y4]))] h = .ok (.d (.bl (true && (b0 && (b1 && (b2 && (b3 && (b4)))))))) h := an_step (isi_eq (w := 15) (w' := 15) (by omega) (by omega)) (an_step (eq_leaf rfl rfl rfl e0) (an_step (eq_leaf rfl rfl rfl e1) (an_step (eq_leaf rfl rfl rfl e2) (an_step (eq_leaf rfl rfl rfl e3) (eq_leaf rfl rfl rfl e4)))))
  show fin false h.length (sb ((eAn (eIsi (isiT isOk isBt 22) (eVar 1)) (eAn (eBin (oEqO false eqTab (callF defs n)) (eFd (ok_told) 8 (eVar 0)) (eFd (ok_told) 8 (eVar 1))) (eAn (eBin (oEqO false eqTab (callF defs n)) (eFd (ok_letters) 9 (eVar 0)) (eFd (ok_letters) 9 (eVar 1))) (eAn (eBin (oEqO false eqTab (callF defs n)) (eFd (ok_unknowns) 10 (eVar 0)) (eFd (ok_unknowns) 10 (eVar 1))) (eAn (eBin (oEqO false eqTab (callF defs n)) (eFd (ok_spares) 11 (eVar 0)) (eFd (ok_spares) 11 (eVar 1))) (eBin (oEqO false eqTab (callF defs n)) (eFd (ok_empties) 30 (eVar 0)) (eFd (ok_empties) 30 (eVar 1)))))))) [some (.d (mk 15 [x0, x1, x2, x3, x4])), some (.d (mk 15 [y0, y1, y2, y3, y4]))] h) _ fun x h1 => .ok (.ret x) _ h1) = _
  rw [q]
  simp
theorem eq_16 (n : Nat) (h : Hs) {ps qs : List D} {bs : List Bool} (e : Eqs (callF defs n) ps qs bs) (hl : ps.length = 4) : callF defs (n + 1) 55 [.d (mk 16 ps), .d (mk 16 qs)] h = .ok (.d (.bl (bs.all id))) h := by
  cases e with
  | nil => simp at hl
  | @cons x0 y0 b0 _ _ _ e0 s0 e =>
  cases e with
  | nil => simp at hl
  | @cons x1 y1 b1 _ _ _ e1 s1 e =>
  cases e with
  | nil => simp at hl
  | @cons x2 y2 b2 _ _ _ e2 s2 e =>
  cases e with
  | nil => simp at hl
  | @cons x3 y3 b3 _ _ _ e3 s3 e =>
  cases e with
  | cons _ _ _ => simp at hl
  | nil =>
  rw [callF_at (md := ⟨2, 2, false, m_Run__eq_⟩) rfl rfl]
  have q : (eAn (eIsi (isiT isOk isBt 25) (eVar 1)) (eAn (eBin (oEqO false eqTab (callF defs n)) (eFd (ok_turns) 32 (eVar 0)) (eFd (ok_turns) 32 (eVar 1))) (eAn (eBin (oEqO false eqTab (callF defs n)) (eFd (ok_used) 34 (eVar 0)) (eFd (ok_used) 34 (eVar 1))) (eAn (eBin (oEqO false eqTab (callF defs n)) (eFd (ok_ends) 1 (eVar 0)) (eFd (ok_ends) 1 (eVar 1))) (eBin (oEqO false eqTab (callF defs n)) (eFd (ok_stop) 35 (eVar 0)) (eFd (ok_stop) 35 (eVar 1))))))) [some (.d (mk 16 [x0, x1, x2, x3])), some (.d (mk 16 [y0, y1, y2, y3]))] h = .ok (.d (.bl (true && (b0 && (b1 && (b2 && (b3))))))) h := an_step (isi_eq (w := 16) (w' := 16) (by omega) (by omega)) (an_step (eq_leaf rfl rfl rfl e0) (an_step (eq_leaf rfl rfl rfl e1) (an_step (eq_leaf rfl rfl rfl e2) (eq_leaf rfl rfl rfl e3))))
  show fin false h.length (sb ((eAn (eIsi (isiT isOk isBt 25) (eVar 1)) (eAn (eBin (oEqO false eqTab (callF defs n)) (eFd (ok_turns) 32 (eVar 0)) (eFd (ok_turns) 32 (eVar 1))) (eAn (eBin (oEqO false eqTab (callF defs n)) (eFd (ok_used) 34 (eVar 0)) (eFd (ok_used) 34 (eVar 1))) (eAn (eBin (oEqO false eqTab (callF defs n)) (eFd (ok_ends) 1 (eVar 0)) (eFd (ok_ends) 1 (eVar 1))) (eBin (oEqO false eqTab (callF defs n)) (eFd (ok_stop) 35 (eVar 0)) (eFd (ok_stop) 35 (eVar 1))))))) [some (.d (mk 16 [x0, x1, x2, x3])), some (.d (mk 16 [y0, y1, y2, y3]))] h) _ fun x h1 => .ok (.ret x) _ h1) = _
  rw [q]
  simp
theorem eq_17 (n : Nat) (h : Hs) {ps qs : List D} {bs : List Bool} (e : Eqs (callF defs n) ps qs bs) (hl : ps.length = 5) : callF defs (n + 1) 57 [.d (mk 17 ps), .d (mk 17 qs)] h = .ok (.d (.bl (bs.all id))) h := by
  cases e with
  | nil => simp at hl
  | @cons x0 y0 b0 _ _ _ e0 s0 e =>
  cases e with
  | nil => simp at hl
  | @cons x1 y1 b1 _ _ _ e1 s1 e =>
  cases e with
  | nil => simp at hl
  | @cons x2 y2 b2 _ _ _ e2 s2 e =>
  cases e with
  | nil => simp at hl
  | @cons x3 y3 b3 _ _ _ e3 s3 e =>
  cases e with
  | nil => simp at hl
  | @cons x4 y4 b4 _ _ _ e4 s4 e =>
  cases e with
  | cons _ _ _ => simp at hl
  | nil =>
  rw [callF_at (md := ⟨2, 2, false, m_Way__eq_⟩) rfl rfl]
  have q : (eAn (eIsi (isiT isOk isBt 26) (eVar 1)) (eAn (eBin (oEqO false eqTab (callF defs n)) (eFd (ok_turns) 32 (eVar 0)) (eFd (ok_turns) 32 (eVar 1))) (eAn (eBin (oEqO false eqTab (callF defs n)) (eFd (ok_reads) 36 (eVar 0)) (eFd (ok_reads) 36 (eVar 1))) (eAn (eBin (oEqO false eqTab (callF defs n)) (eFd (ok_sayings) 37 (eVar 0)) (eFd (ok_sayings) 37 (eVar 1))) (eAn (eBin (oEqO false eqTab (callF defs n)) (eFd (ok_ends) 1 (eVar 0)) (eFd (ok_ends) 1 (eVar 1))) (eBin (oEqO false eqTab (callF defs n)) (eFd (ok_stop) 35 (eVar 0)) (eFd (ok_stop) 35 (eVar 1)))))))) [some (.d (mk 17 [x0, x1, x2, x3, x4])), some (.d (mk 17 [y0, y1, y2, y3, y4]))] h = .ok (.d (.bl (true && (b0 && (b1 && (b2 && (b3 && (b4)))))))) h := an_step (isi_eq (w := 17) (w' := 17) (by omega) (by omega)) (an_step (eq_leaf rfl rfl rfl e0) (an_step (eq_leaf rfl rfl rfl e1) (an_step (eq_leaf rfl rfl rfl e2) (an_step (eq_leaf rfl rfl rfl e3) (eq_leaf rfl rfl rfl e4)))))
  show fin false h.length (sb ((eAn (eIsi (isiT isOk isBt 26) (eVar 1)) (eAn (eBin (oEqO false eqTab (callF defs n)) (eFd (ok_turns) 32 (eVar 0)) (eFd (ok_turns) 32 (eVar 1))) (eAn (eBin (oEqO false eqTab (callF defs n)) (eFd (ok_reads) 36 (eVar 0)) (eFd (ok_reads) 36 (eVar 1))) (eAn (eBin (oEqO false eqTab (callF defs n)) (eFd (ok_sayings) 37 (eVar 0)) (eFd (ok_sayings) 37 (eVar 1))) (eAn (eBin (oEqO false eqTab (callF defs n)) (eFd (ok_ends) 1 (eVar 0)) (eFd (ok_ends) 1 (eVar 1))) (eBin (oEqO false eqTab (callF defs n)) (eFd (ok_stop) 35 (eVar 0)) (eFd (ok_stop) 35 (eVar 1)))))))) [some (.d (mk 17 [x0, x1, x2, x3, x4])), some (.d (mk 17 [y0, y1, y2, y3, y4]))] h) _ fun x h1 => .ok (.ret x) _ h1) = _
  rw [q]
  simp
theorem eq_18 (n : Nat) (h : Hs) {ps qs : List D} {bs : List Bool} (e : Eqs (callF defs n) ps qs bs) (hl : ps.length = 2) : callF defs (n + 1) 59 [.d (mk 18 ps), .d (mk 18 qs)] h = .ok (.d (.bl (bs.all id))) h := by
  cases e with
  | nil => simp at hl
  | @cons x0 y0 b0 _ _ _ e0 s0 e =>
  cases e with
  | nil => simp at hl
  | @cons x1 y1 b1 _ _ _ e1 s1 e =>
  cases e with
  | cons _ _ _ => simp at hl
  | nil =>
  rw [callF_at (md := ⟨2, 2, false, m_Found__eq_⟩) rfl rfl]
  have q : (eAn (eIsi (isiT isOk isBt 27) (eVar 1)) (eAn (eBin (oEqO false eqTab (callF defs n)) (eFd (ok_turns) 32 (eVar 0)) (eFd (ok_turns) 32 (eVar 1))) (eBin (oEqO false eqTab (callF defs n)) (eFd (ok_filling) 38 (eVar 0)) (eFd (ok_filling) 38 (eVar 1))))) [some (.d (mk 18 [x0, x1])), some (.d (mk 18 [y0, y1]))] h = .ok (.d (.bl (true && (b0 && (b1))))) h := an_step (isi_eq (w := 18) (w' := 18) (by omega) (by omega)) (an_step (eq_leaf rfl rfl rfl e0) (eq_leaf rfl rfl rfl e1))
  show fin false h.length (sb ((eAn (eIsi (isiT isOk isBt 27) (eVar 1)) (eAn (eBin (oEqO false eqTab (callF defs n)) (eFd (ok_turns) 32 (eVar 0)) (eFd (ok_turns) 32 (eVar 1))) (eBin (oEqO false eqTab (callF defs n)) (eFd (ok_filling) 38 (eVar 0)) (eFd (ok_filling) 38 (eVar 1))))) [some (.d (mk 18 [x0, x1])), some (.d (mk 18 [y0, y1]))] h) _ fun x h1 => .ok (.ret x) _ h1) = _
  rw [q]
  simp
theorem eq_19 (n : Nat) (h : Hs) {ps qs : List D} {bs : List Bool} (e : Eqs (callF defs n) ps qs bs) (hl : ps.length = 1) : callF defs (n + 1) 61 [.d (mk 19 ps), .d (mk 19 qs)] h = .ok (.d (.bl (bs.all id))) h := by
  cases e with
  | nil => simp at hl
  | @cons x0 y0 b0 _ _ _ e0 s0 e =>
  cases e with
  | cons _ _ _ => simp at hl
  | nil =>
  rw [callF_at (md := ⟨2, 2, false, m_Never__eq_⟩) rfl rfl]
  have q : (eAn (eIsi (isiT isOk isBt 28) (eVar 1)) (eBin (oEqO false eqTab (callF defs n)) (eFd (ok_papers) 39 (eVar 0)) (eFd (ok_papers) 39 (eVar 1)))) [some (.d (mk 19 [x0])), some (.d (mk 19 [y0]))] h = .ok (.d (.bl (true && (b0)))) h := an_step (isi_eq (w := 19) (w' := 19) (by omega) (by omega)) (eq_leaf rfl rfl rfl e0)
  show fin false h.length (sb ((eAn (eIsi (isiT isOk isBt 28) (eVar 1)) (eBin (oEqO false eqTab (callF defs n)) (eFd (ok_papers) 39 (eVar 0)) (eFd (ok_papers) 39 (eVar 1)))) [some (.d (mk 19 [x0])), some (.d (mk 19 [y0]))] h) _ fun x h1 => .ok (.ret x) _ h1) = _
  rw [q]
  simp
theorem eq_20 (n : Nat) (h : Hs) {ps qs : List D} {bs : List Bool} (e : Eqs (callF defs n) ps qs bs) (hl : ps.length = 2) : callF defs (n + 1) 63 [.d (mk 20 ps), .d (mk 20 qs)] h = .ok (.d (.bl (bs.all id))) h := by
  cases e with
  | nil => simp at hl
  | @cons x0 y0 b0 _ _ _ e0 s0 e =>
  cases e with
  | nil => simp at hl
  | @cons x1 y1 b1 _ _ _ e1 s1 e =>
  cases e with
  | cons _ _ _ => simp at hl
  | nil =>
  rw [callF_at (md := ⟨2, 2, false, m_Trial__eq_⟩) rfl rfl]
  have q : (eAn (eIsi (isiT isOk isBt 29) (eVar 1)) (eAn (eBin (oEqO false eqTab (callF defs n)) (eFd (ok_tolds) 40 (eVar 0)) (eFd (ok_tolds) 40 (eVar 1))) (eBin (oEqO false eqTab (callF defs n)) (eFd (ok_refused) 41 (eVar 0)) (eFd (ok_refused) 41 (eVar 1))))) [some (.d (mk 20 [x0, x1])), some (.d (mk 20 [y0, y1]))] h = .ok (.d (.bl (true && (b0 && (b1))))) h := an_step (isi_eq (w := 20) (w' := 20) (by omega) (by omega)) (an_step (eq_leaf rfl rfl rfl e0) (eq_leaf rfl rfl rfl e1))
  show fin false h.length (sb ((eAn (eIsi (isiT isOk isBt 29) (eVar 1)) (eAn (eBin (oEqO false eqTab (callF defs n)) (eFd (ok_tolds) 40 (eVar 0)) (eFd (ok_tolds) 40 (eVar 1))) (eBin (oEqO false eqTab (callF defs n)) (eFd (ok_refused) 41 (eVar 0)) (eFd (ok_refused) 41 (eVar 1))))) [some (.d (mk 20 [x0, x1])), some (.d (mk 20 [y0, y1]))] h) _ fun x h1 => .ok (.ret x) _ h1) = _
  rw [q]
  simp
end K99

namespace K99
open PySem PySem.Spec Mi
theorem at_0 {x0 : D} {l : List D} : L2.atI (x0 :: l) 0 = some x0 := by rw [show (0 : Int) = ((0 : Nat) : Int) from rfl, atI_nat]; rfl
theorem at_1 {x0 x1 : D} {l : List D} : L2.atI (x0 :: x1 :: l) 1 = some x1 := by rw [show (1 : Int) = ((1 : Nat) : Int) from rfl, atI_nat]; rfl
theorem at_2 {x0 x1 x2 : D} {l : List D} : L2.atI (x0 :: x1 :: x2 :: l) 2 = some x2 := by rw [show (2 : Int) = ((2 : Nat) : Int) from rfl, atI_nat]; rfl
theorem at_3 {x0 x1 x2 x3 : D} {l : List D} : L2.atI (x0 :: x1 :: x2 :: x3 :: l) 3 = some x3 := by rw [show (3 : Int) = ((3 : Nat) : Int) from rfl, atI_nat]; rfl
theorem at_4 {x0 x1 x2 x3 x4 : D} {l : List D} : L2.atI (x0 :: x1 :: x2 :: x3 :: x4 :: l) 4 = some x4 := by rw [show (4 : Int) = ((4 : Nat) : Int) from rfl, atI_nat]; rfl
theorem at_5 {x0 x1 x2 x3 x4 x5 : D} {l : List D} : L2.atI (x0 :: x1 :: x2 :: x3 :: x4 :: x5 :: l) 5 = some x5 := by rw [show (5 : Int) = ((5 : Nat) : Int) from rfl, atI_nat]; rfl
theorem at_6 {x0 x1 x2 x3 x4 x5 x6 : D} {l : List D} : L2.atI (x0 :: x1 :: x2 :: x3 :: x4 :: x5 :: x6 :: l) 6 = some x6 := by rw [show (6 : Int) = ((6 : Nat) : Int) from rfl, atI_nat]; rfl
theorem init_0 (n : Nat) (h : Hs) (x0 x1 : D) : mkI (callF defs (n + 1)) 10 7 [.d x0, .d x1] h = .ok (.d (mk 0 [x0, x1])) h := by
  unfold mkI
  rw [callF_at (md := ⟨3, 3, false, m_Clash__init_⟩) rfl rfl]
  simp [startL, ok_why, ok_at, putN, List.lookup, mk, cl, fd', clsW, fldW]
theorem init_1 (n : Nat) (h : Hs) (x0 x1 x2 : D) : mkI (callF defs (n + 1)) 14 9 [.d x0, .d x1, .d x2] h = .ok (.d (mk 1 [x0, x1, x2])) h := by
  unfold mkI
  rw [callF_at (md := ⟨4, 4, false, m_Canon__init_⟩) rfl rfl]
  simp [startL, ok_book, ok_letters, ok_unknowns, putN, List.lookup, mk, cl, fd', clsW, fldW]
theorem init_2 (n : Nat) (h : Hs) (x0 x1 x2 x3 : D) : mkI (callF defs (n + 1)) 16 10 [.d x0, .d x1, .d x2, .d x3] h = .ok (.d (mk 2 [x0, x1, x2, x3])) h := by
  unfold mkI
  rw [callF_at (md := ⟨5, 5, false, m_Settled__init_⟩) rfl rfl]
  simp [startL, ok_told, ok_letters, ok_unknowns, ok_spares, putN, List.lookup, mk, cl, fd', clsW, fldW]
theorem init_3 (n : Nat) (h : Hs) (x0 x1 x2 x3 x4 x5 x6 : D) : mkI (callF defs (n + 1)) 12 8 [.d x0, .d x1, .d x2, .d x3, .d x4, .d x5, .d x6] h = .ok (.d (mk 3 [x0, x1, x2, x3, x4, x5, x6])) h := by
  unfold mkI
  rw [callF_at (md := ⟨8, 8, false, m_Guess__init_⟩) rfl rfl]
  simp [startL, ok_parts, ok_news, ok_told, ok_letters, ok_unknowns, ok_spares, ok_equations, putN, List.lookup, mk, cl, fd', clsW, fldW]
theorem init_4 (n : Nat) (h : Hs) (x0 x1 x2 x3 : D) : mkI (callF defs (n + 1)) 18 11 [.d x0, .d x1, .d x2, .d x3] h = .ok (.d (mk 4 [x0, x1, x2, x3])) h := by
  unfold mkI
  rw [callF_at (md := ⟨5, 5, false, m_Shape__init_⟩) rfl rfl]
  simp [startL, ok_front, ok_stays, ok_back, ok_ends, putN, List.lookup, mk, cl, fd', clsW, fldW]
theorem init_5 (n : Nat) (h : Hs) (x0 : D) : mkI (callF defs (n + 1)) 20 12 [.d x0] h = .ok (.d (mk 5 [x0])) h := by
  unfold mkI
  rw [callF_at (md := ⟨2, 2, false, m_Answer__init_⟩) rfl rfl]
  simp [startL, ok_numbers, putN, List.lookup, mk, cl, fd', clsW, fldW]
theorem init_6 (n : Nat) (h : Hs) (x0 : D) : mkI (callF defs (n + 1)) 22 13 [.d x0] h = .ok (.d (mk 6 [x0])) h := by
  unfold mkI
  rw [callF_at (md := ⟨2, 2, false, m_Carries__init_⟩) rfl rfl]
  simp [startL, ok_rows, putN, List.lookup, mk, cl, fd', clsW, fldW]
theorem init_7 (n : Nat) (h : Hs) (x0 x1 : D) : mkI (callF defs (n + 1)) 26 15 [.d x0, .d x1] h = .ok (.d (mk 7 [x0, x1])) h := by
  unfold mkI
  rw [callF_at (md := ⟨3, 3, false, m_Look__init_⟩) rfl rfl]
  simp [startL, ok_step, ok_outcomes, putN, List.lookup, mk, cl, fd', clsW, fldW]
theorem init_8 (n : Nat) (h : Hs) (x0 x1 : D) : mkI (callF defs (n + 1)) 50 23 [.d x0, .d x1] h = .ok (.d (mk 8 [x0, x1])) h := by
  unfold mkI
  rw [callF_at (md := ⟨3, 3, false, m_Trail__init_⟩) rfl rfl]
  simp [startL, ok_root, ok_turns, putN, List.lookup, mk, cl, fd', clsW, fldW]
theorem init_9 (n : Nat) (h : Hs) (x0 x1 : D) : mkI (callF defs (n + 1)) 41 20 [.d x0, .d x1] h = .ok (.d (mk 9 [x0, x1])) h := by
  unfold mkI
  rw [callF_at (md := ⟨3, 3, false, m_Pressed__init_⟩) rfl rfl]
  simp [startL, ok_table, ok_ends, putN, List.lookup, mk, cl, fd', clsW, fldW]
theorem init_10 (n : Nat) (h : Hs) (x0 x1 : D) : mkI (callF defs (n + 1)) 52 24 [.d x0, .d x1] h = .ok (.d (mk 10 [x0, x1])) h := by
  unfold mkI
  rw [callF_at (md := ⟨3, 3, false, m_Stages__init_⟩) rfl rfl]
  simp [startL, ok_grammar, ok_stages, putN, List.lookup, mk, cl, fd', clsW, fldW]
theorem init_11 (n : Nat) (h : Hs) (x0 x1 x2 : D) : mkI (callF defs (n + 1)) 28 16 [.d x0, .d x1, .d x2] h = .ok (.d (mk 11 [x0, x1, x2])) h := by
  unfold mkI
  rw [callF_at (md := ⟨4, 4, false, m_Entry__init_⟩) rfl rfl]
  simp [startL, ok_book, ok_step, ok_lots, putN, List.lookup, mk, cl, fd', clsW, fldW]
theorem init_12 (n : Nat) (h : Hs) (x0 x1 : List D) : mkI (callF defs (n + 1)) 30 17 [.d (.tup x0), .d (.tup x1)] h = .ok (.d (mk 12 [.tup x0, .tup x1])) h := by
  unfold mkI
  rw [callF_at (md := ⟨3, 3, false, m_Paper__init_⟩) rfl rfl]
  simp [startL, ok_deeds, ok_entries, putN, List.lookup, mk, cl, fd', clsW, fldW]
theorem init_13 (n : Nat) (h : Hs) (x0 : D) : mkI (callF defs (n + 1)) 32 18 [.d x0] h = .ok (.d (mk 13 [x0])) h := by
  unfold mkI
  rw [callF_at (md := ⟨2, 2, false, m_Shut__init_⟩) rfl rfl]
  simp [startL, ok_paper, putN, List.lookup, mk, cl, fd', clsW, fldW]
theorem init_14 (n : Nat) (h : Hs) (x0 x1 x2 : D) : mkI (callF defs (n + 1)) 24 14 [.d x0, .d x1, .d x2] h = .ok (.d (mk 14 [x0, x1, x2])) h := by
  unfold mkI
  rw [callF_at (md := ⟨4, 4, false, m_Case__init_⟩) rfl rfl]
  simp [startL, ok_rows, ok_sets, ok_full, putN, List.lookup, mk, cl, fd', clsW, fldW]
theorem init_15 (n : Nat) (h : Hs) (x0 x1 x2 x3 x4 : D) : mkI (callF defs (n + 1)) 48 22 [.d x0, .d x1, .d x2, .d x3, .d x4] h = .ok (.d (mk 15 [x0, x1, x2, x3, x4])) h := by
  unfold mkI
  rw [callF_at (md := ⟨6, 6, false, m_Root__init_⟩) rfl rfl]
  simp [startL, ok_told, ok_letters, ok_unknowns, ok_spares, ok_empties, putN, List.lookup, mk, cl, fd', clsW, fldW]
theorem init_16 (n : Nat) (h : Hs) (x0 x1 x2 x3 : D) : mkI (callF defs (n + 1)) 54 25 [.d x0, .d x1, .d x2, .d x3] h = .ok (.d (mk 16 [x0, x1, x2, x3])) h := by
  unfold mkI
  rw [callF_at (md := ⟨5, 5, false, m_Run__init_⟩) rfl rfl]
  simp [startL, ok_turns, ok_used, ok_ends, ok_stop, putN, List.lookup, mk, cl, fd', clsW, fldW]
theorem init_17 (n : Nat) (h : Hs) (x0 x1 x2 x3 x4 : D) : mkI (callF defs (n + 1)) 56 26 [.d x0, .d x1, .d x2, .d x3, .d x4] h = .ok (.d (mk 17 [x0, x1, x2, x3, x4])) h := by
  unfold mkI
  rw [callF_at (md := ⟨6, 6, false, m_Way__init_⟩) rfl rfl]
  simp [startL, ok_turns, ok_reads, ok_sayings, ok_ends, ok_stop, putN, List.lookup, mk, cl, fd', clsW, fldW]
theorem init_18 (n : Nat) (h : Hs) (x0 x1 : D) : mkI (callF defs (n + 1)) 58 27 [.d x0, .d x1] h = .ok (.d (mk 18 [x0, x1])) h := by
  unfold mkI
  rw [callF_at (md := ⟨3, 3, false, m_Found__init_⟩) rfl rfl]
  simp [startL, ok_turns, ok_filling, putN, List.lookup, mk, cl, fd', clsW, fldW]
theorem init_19 (n : Nat) (h : Hs) (x0 : D) : mkI (callF defs (n + 1)) 60 28 [.d x0] h = .ok (.d (mk 19 [x0])) h := by
  unfold mkI
  rw [callF_at (md := ⟨2, 2, false, m_Never__init_⟩) rfl rfl]
  simp [startL, ok_papers, putN, List.lookup, mk, cl, fd', clsW, fldW]
theorem init_20 (n : Nat) (h : Hs) (x0 x1 : D) : mkI (callF defs (n + 1)) 62 29 [.d x0, .d x1] h = .ok (.d (mk 20 [x0, x1])) h := by
  unfold mkI
  rw [callF_at (md := ⟨3, 3, false, m_Trial__init_⟩) rfl rfl]
  simp [startL, ok_tolds, ok_refused, putN, List.lookup, mk, cl, fd', clsW, fldW]
theorem made_0 (n : Nat) (h : Hs) (x0 x1 : D) (v : Vl) (e : seqOf v h = some [x0, x1]) : callF defs (n + 3) 68 [.d (.int 0), v] h = .ok (.d (mk 0 [x0, x1])) h := by
  rw [callF_at (md := ⟨2, 2, false, m__law_made⟩) rfl rfl]
  simp [startL, o_ixS e, at_0, at_1, init_0]
theorem made_1 (n : Nat) (h : Hs) (x0 x1 x2 : D) (v : Vl) (e : seqOf v h = some [x0, x1, x2]) : callF defs (n + 3) 68 [.d (.int 1), v] h = .ok (.d (mk 1 [x0, x1, x2])) h := by
  rw [callF_at (md := ⟨2, 2, false, m__law_made⟩) rfl rfl]
  simp [startL, o_ixS e, at_0, at_1, at_2, init_1]
theorem made_2 (n : Nat) (h : Hs) (x0 x1 x2 x3 : D) (v : Vl) (e : seqOf v h = some [x0, x1, x2, x3]) : callF defs (n + 3) 68 [.d (.int 2), v] h = .ok (.d (mk 2 [x0, x1, x2, x3])) h := by
  rw [callF_at (md := ⟨2, 2, false, m__law_made⟩) rfl rfl]
  simp [startL, o_ixS e, at_0, at_1, at_2, at_3, init_2]
theorem made_3 (n : Nat) (h : Hs) (x0 x1 x2 x3 x4 x5 x6 : D) (v : Vl) (e : seqOf v h = some [x0, x1, x2, x3, x4, x5, x6]) : callF defs (n + 3) 68 [.d (.int 3), v] h = .ok (.d (mk 3 [x0, x1, x2, x3, x4, x5, x6])) h := by
  rw [callF_at (md := ⟨2, 2, false, m__law_made⟩) rfl rfl]
  simp [startL, o_ixS e, at_0, at_1, at_2, at_3, at_4, at_5, at_6, init_3]
theorem made_4 (n : Nat) (h : Hs) (x0 x1 x2 x3 : D) (v : Vl) (e : seqOf v h = some [x0, x1, x2, x3]) : callF defs (n + 3) 68 [.d (.int 4), v] h = .ok (.d (mk 4 [x0, x1, x2, x3])) h := by
  rw [callF_at (md := ⟨2, 2, false, m__law_made⟩) rfl rfl]
  simp [startL, o_ixS e, at_0, at_1, at_2, at_3, init_4]
theorem made_5 (n : Nat) (h : Hs) (x0 : D) (v : Vl) (e : seqOf v h = some [x0]) : callF defs (n + 3) 68 [.d (.int 5), v] h = .ok (.d (mk 5 [x0])) h := by
  rw [callF_at (md := ⟨2, 2, false, m__law_made⟩) rfl rfl]
  simp [startL, o_ixS e, at_0, init_5]
theorem made_6 (n : Nat) (h : Hs) (x0 : D) (v : Vl) (e : seqOf v h = some [x0]) : callF defs (n + 3) 68 [.d (.int 6), v] h = .ok (.d (mk 6 [x0])) h := by
  rw [callF_at (md := ⟨2, 2, false, m__law_made⟩) rfl rfl]
  simp [startL, o_ixS e, at_0, init_6]
theorem made_7 (n : Nat) (h : Hs) (x0 x1 : D) (v : Vl) (e : seqOf v h = some [x0, x1]) : callF defs (n + 3) 68 [.d (.int 7), v] h = .ok (.d (mk 7 [x0, x1])) h := by
  rw [callF_at (md := ⟨2, 2, false, m__law_made⟩) rfl rfl]
  simp [startL, o_ixS e, at_0, at_1, init_7]
theorem made_8 (n : Nat) (h : Hs) (x0 x1 : D) (v : Vl) (e : seqOf v h = some [x0, x1]) : callF defs (n + 3) 68 [.d (.int 8), v] h = .ok (.d (mk 8 [x0, x1])) h := by
  rw [callF_at (md := ⟨2, 2, false, m__law_made⟩) rfl rfl]
  simp [startL, o_ixS e, at_0, at_1, init_8]
theorem made_9 (n : Nat) (h : Hs) (x0 x1 : D) (v : Vl) (e : seqOf v h = some [x0, x1]) : callF defs (n + 3) 68 [.d (.int 9), v] h = .ok (.d (mk 9 [x0, x1])) h := by
  rw [callF_at (md := ⟨2, 2, false, m__law_made⟩) rfl rfl]
  simp [startL, o_ixS e, at_0, at_1, init_9]
theorem made_10 (n : Nat) (h : Hs) (x0 x1 : D) (v : Vl) (e : seqOf v h = some [x0, x1]) : callF defs (n + 3) 68 [.d (.int 10), v] h = .ok (.d (mk 10 [x0, x1])) h := by
  rw [callF_at (md := ⟨2, 2, false, m__law_made⟩) rfl rfl]
  simp [startL, o_ixS e, at_0, at_1, init_10]
theorem madel_11 (n : Nat) (h : Hs) (x0 x1 x2 : D) (v : Vl) (e : seqOf v h = some [x0, x1, x2]) : callF defs (n + 2) 69 [.d (.int 11), v] h = .ok (.d (mk 11 [x0, x1, x2])) h := by
  rw [callF_at (md := ⟨2, 2, false, m__law_made_later⟩) rfl rfl]
  simp [startL, o_ixS e, at_0, at_1, at_2, init_11]
theorem made_11 (n : Nat) (h : Hs) (x0 x1 x2 : D) (v : Vl) (e : seqOf v h = some [x0, x1, x2]) : callF defs (n + 3) 68 [.d (.int 11), v] h = .ok (.d (mk 11 [x0, x1, x2])) h := by
  rw [callF_at (md := ⟨2, 2, false, m__law_made⟩) rfl rfl]
  simp [startL, madel_11 n h x0 x1 x2 v e]
theorem madel_12 (n : Nat) (h : Hs) (x0 x1 : List D) (v : Vl) (e : seqOf v h = some [.tup x0, .tup x1]) : callF defs (n + 2) 69 [.d (.int 12), v] h = .ok (.d (mk 12 [.tup x0, .tup x1])) h := by
  rw [callF_at (md := ⟨2, 2, false, m__law_made_later⟩) rfl rfl]
  simp [startL, o_ixS e, at_0, at_1, init_12]
theorem made_12 (n : Nat) (h : Hs) (x0 x1 : List D) (v : Vl) (e : seqOf v h = some [.tup x0, .tup x1]) : callF defs (n + 3) 68 [.d (.int 12), v] h = .ok (.d (mk 12 [.tup x0, .tup x1])) h := by
  rw [callF_at (md := ⟨2, 2, false, m__law_made⟩) rfl rfl]
  simp [startL, madel_12 n h x0 x1 v e]
theorem madel_13 (n : Nat) (h : Hs) (x0 : D) (v : Vl) (e : seqOf v h = some [x0]) : callF defs (n + 2) 69 [.d (.int 13), v] h = .ok (.d (mk 13 [x0])) h := by
  rw [callF_at (md := ⟨2, 2, false, m__law_made_later⟩) rfl rfl]
  simp [startL, o_ixS e, at_0, init_13]
theorem made_13 (n : Nat) (h : Hs) (x0 : D) (v : Vl) (e : seqOf v h = some [x0]) : callF defs (n + 3) 68 [.d (.int 13), v] h = .ok (.d (mk 13 [x0])) h := by
  rw [callF_at (md := ⟨2, 2, false, m__law_made⟩) rfl rfl]
  simp [startL, madel_13 n h x0 v e]
theorem madel_14 (n : Nat) (h : Hs) (x0 x1 x2 : D) (v : Vl) (e : seqOf v h = some [x0, x1, x2]) : callF defs (n + 2) 69 [.d (.int 14), v] h = .ok (.d (mk 14 [x0, x1, x2])) h := by
  rw [callF_at (md := ⟨2, 2, false, m__law_made_later⟩) rfl rfl]
  simp [startL, o_ixS e, at_0, at_1, at_2, init_14]
theorem made_14 (n : Nat) (h : Hs) (x0 x1 x2 : D) (v : Vl) (e : seqOf v h = some [x0, x1, x2]) : callF defs (n + 3) 68 [.d (.int 14), v] h = .ok (.d (mk 14 [x0, x1, x2])) h := by
  rw [callF_at (md := ⟨2, 2, false, m__law_made⟩) rfl rfl]
  simp [startL, madel_14 n h x0 x1 x2 v e]
theorem madel_15 (n : Nat) (h : Hs) (x0 x1 x2 x3 x4 : D) (v : Vl) (e : seqOf v h = some [x0, x1, x2, x3, x4]) : callF defs (n + 2) 69 [.d (.int 15), v] h = .ok (.d (mk 15 [x0, x1, x2, x3, x4])) h := by
  rw [callF_at (md := ⟨2, 2, false, m__law_made_later⟩) rfl rfl]
  simp [startL, o_ixS e, at_0, at_1, at_2, at_3, at_4, init_15]
theorem made_15 (n : Nat) (h : Hs) (x0 x1 x2 x3 x4 : D) (v : Vl) (e : seqOf v h = some [x0, x1, x2, x3, x4]) : callF defs (n + 3) 68 [.d (.int 15), v] h = .ok (.d (mk 15 [x0, x1, x2, x3, x4])) h := by
  rw [callF_at (md := ⟨2, 2, false, m__law_made⟩) rfl rfl]
  simp [startL, madel_15 n h x0 x1 x2 x3 x4 v e]
theorem madel_16 (n : Nat) (h : Hs) (x0 x1 x2 x3 : D) (v : Vl) (e : seqOf v h = some [x0, x1, x2, x3]) : callF defs (n + 2) 69 [.d (.int 16), v] h = .ok (.d (mk 16 [x0, x1, x2, x3])) h := by
  rw [callF_at (md := ⟨2, 2, false, m__law_made_later⟩) rfl rfl]
  simp [startL, o_ixS e, at_0, at_1, at_2, at_3, init_16]
theorem made_16 (n : Nat) (h : Hs) (x0 x1 x2 x3 : D) (v : Vl) (e : seqOf v h = some [x0, x1, x2, x3]) : callF defs (n + 3) 68 [.d (.int 16), v] h = .ok (.d (mk 16 [x0, x1, x2, x3])) h := by
  rw [callF_at (md := ⟨2, 2, false, m__law_made⟩) rfl rfl]
  simp [startL, madel_16 n h x0 x1 x2 x3 v e]
theorem madel_17 (n : Nat) (h : Hs) (x0 x1 x2 x3 x4 : D) (v : Vl) (e : seqOf v h = some [x0, x1, x2, x3, x4]) : callF defs (n + 2) 69 [.d (.int 17), v] h = .ok (.d (mk 17 [x0, x1, x2, x3, x4])) h := by
  rw [callF_at (md := ⟨2, 2, false, m__law_made_later⟩) rfl rfl]
  simp [startL, o_ixS e, at_0, at_1, at_2, at_3, at_4, init_17]
theorem made_17 (n : Nat) (h : Hs) (x0 x1 x2 x3 x4 : D) (v : Vl) (e : seqOf v h = some [x0, x1, x2, x3, x4]) : callF defs (n + 3) 68 [.d (.int 17), v] h = .ok (.d (mk 17 [x0, x1, x2, x3, x4])) h := by
  rw [callF_at (md := ⟨2, 2, false, m__law_made⟩) rfl rfl]
  simp [startL, madel_17 n h x0 x1 x2 x3 x4 v e]
theorem madel_18 (n : Nat) (h : Hs) (x0 x1 : D) (v : Vl) (e : seqOf v h = some [x0, x1]) : callF defs (n + 2) 69 [.d (.int 18), v] h = .ok (.d (mk 18 [x0, x1])) h := by
  rw [callF_at (md := ⟨2, 2, false, m__law_made_later⟩) rfl rfl]
  simp [startL, o_ixS e, at_0, at_1, init_18]
theorem made_18 (n : Nat) (h : Hs) (x0 x1 : D) (v : Vl) (e : seqOf v h = some [x0, x1]) : callF defs (n + 3) 68 [.d (.int 18), v] h = .ok (.d (mk 18 [x0, x1])) h := by
  rw [callF_at (md := ⟨2, 2, false, m__law_made⟩) rfl rfl]
  simp [startL, madel_18 n h x0 x1 v e]
theorem madel_19 (n : Nat) (h : Hs) (x0 : D) (v : Vl) (e : seqOf v h = some [x0]) : callF defs (n + 2) 69 [.d (.int 19), v] h = .ok (.d (mk 19 [x0])) h := by
  rw [callF_at (md := ⟨2, 2, false, m__law_made_later⟩) rfl rfl]
  simp [startL, o_ixS e, at_0, init_19]
theorem made_19 (n : Nat) (h : Hs) (x0 : D) (v : Vl) (e : seqOf v h = some [x0]) : callF defs (n + 3) 68 [.d (.int 19), v] h = .ok (.d (mk 19 [x0])) h := by
  rw [callF_at (md := ⟨2, 2, false, m__law_made⟩) rfl rfl]
  simp [startL, madel_19 n h x0 v e]
theorem madel_20 (n : Nat) (h : Hs) (x0 x1 : D) (v : Vl) (e : seqOf v h = some [x0, x1]) : callF defs (n + 2) 69 [.d (.int 20), v] h = .ok (.d (mk 20 [x0, x1])) h := by
  rw [callF_at (md := ⟨2, 2, false, m__law_made_later⟩) rfl rfl]
  simp [startL, o_ixS e, at_0, at_1, init_20]
theorem made_20 (n : Nat) (h : Hs) (x0 x1 : D) (v : Vl) (e : seqOf v h = some [x0, x1]) : callF defs (n + 3) 68 [.d (.int 20), v] h = .ok (.d (mk 20 [x0, x1])) h := by
  rw [callF_at (md := ⟨2, 2, false, m__law_made⟩) rfl rfl]
  simp [startL, madel_20 n h x0 x1 v e]
theorem told_0 (n : Nat) (h : Hs) (x0 x1 : D) : callF defs (n + 2) 70 [.d (.int 0), .d (mk 0 [x0, x1])] h = .ok (.d (.lv [x0, x1])) h := by
  rw [callF_at (md := ⟨2, 2, false, m__law_told⟩) rfl rfl]
  simp [startL, show mk 0 [x0, x1] = .ins 7 [(4, x0), (5, x1)] from rfl, ok_why, ok_at, List.lookup]
theorem told_1 (n : Nat) (h : Hs) (x0 x1 x2 : D) : callF defs (n + 2) 70 [.d (.int 1), .d (mk 1 [x0, x1, x2])] h = .ok (.d (.lv [x0, x1, x2])) h := by
  rw [callF_at (md := ⟨2, 2, false, m__law_told⟩) rfl rfl]
  simp [startL, show mk 1 [x0, x1, x2] = .ins 9 [(13, x0), (9, x1), (10, x2)] from rfl, ok_book, ok_letters, ok_unknowns, List.lookup]
theorem told_2 (n : Nat) (h : Hs) (x0 x1 x2 x3 : D) : callF defs (n + 2) 70 [.d (.int 2), .d (mk 2 [x0, x1, x2, x3])] h = .ok (.d (.lv [x0, x1, x2, x3])) h := by
  rw [callF_at (md := ⟨2, 2, false, m__law_told⟩) rfl rfl]
  simp [startL, show mk 2 [x0, x1, x2, x3] = .ins 10 [(8, x0), (9, x1), (10, x2), (11, x3)] from rfl, ok_told, ok_letters, ok_unknowns, ok_spares, List.lookup]
theorem told_3 (n : Nat) (h : Hs) (x0 x1 x2 x3 x4 x5 x6 : D) : callF defs (n + 2) 70 [.d (.int 3), .d (mk 3 [x0, x1, x2, x3, x4, x5, x6])] h = .ok (.d (.lv [x0, x1, x2, x3, x4, x5, x6])) h := by
  rw [callF_at (md := ⟨2, 2, false, m__law_told⟩) rfl rfl]
  simp [startL, show mk 3 [x0, x1, x2, x3, x4, x5, x6] = .ins 8 [(6, x0), (7, x1), (8, x2), (9, x3), (10, x4), (11, x5), (12, x6)] from rfl, ok_parts, ok_news, ok_told, ok_letters, ok_unknowns, ok_spares, ok_equations, List.lookup]
theorem told_4 (n : Nat) (h : Hs) (x0 x1 x2 x3 : D) : callF defs (n + 2) 70 [.d (.int 4), .d (mk 4 [x0, x1, x2, x3])] h = .ok (.d (.lv [x0, x1, x2, x3])) h := by
  rw [callF_at (md := ⟨2, 2, false, m__law_told⟩) rfl rfl]
  simp [startL, show mk 4 [x0, x1, x2, x3] = .ins 11 [(14, x0), (15, x1), (16, x2), (1, x3)] from rfl, ok_front, ok_stays, ok_back, ok_ends, List.lookup]
theorem told_5 (n : Nat) (h : Hs) (x0 : D) : callF defs (n + 2) 70 [.d (.int 5), .d (mk 5 [x0])] h = .ok (.d (.lv [x0])) h := by
  rw [callF_at (md := ⟨2, 2, false, m__law_told⟩) rfl rfl]
  simp [startL, show mk 5 [x0] = .ins 12 [(17, x0)] from rfl, ok_numbers, List.lookup]
theorem told_6 (n : Nat) (h : Hs) (x0 : D) : callF defs (n + 2) 70 [.d (.int 6), .d (mk 6 [x0])] h = .ok (.d (.lv [x0])) h := by
  rw [callF_at (md := ⟨2, 2, false, m__law_told⟩) rfl rfl]
  simp [startL, show mk 6 [x0] = .ins 13 [(2, x0)] from rfl, ok_rows, List.lookup]
theorem told_7 (n : Nat) (h : Hs) (x0 x1 : D) : callF defs (n + 2) 70 [.d (.int 7), .d (mk 7 [x0, x1])] h = .ok (.d (.lv [x0, x1])) h := by
  rw [callF_at (md := ⟨2, 2, false, m__law_told⟩) rfl rfl]
  simp [startL, show mk 7 [x0, x1] = .ins 15 [(20, x0), (21, x1)] from rfl, ok_step, ok_outcomes, List.lookup]
theorem told_8 (n : Nat) (h : Hs) (x0 x1 : D) : callF defs (n + 2) 70 [.d (.int 8), .d (mk 8 [x0, x1])] h = .ok (.d (.lv [x0, x1])) h := by
  rw [callF_at (md := ⟨2, 2, false, m__law_told⟩) rfl rfl]
  simp [startL, show mk 8 [x0, x1] = .ins 23 [(31, x0), (32, x1)] from rfl, ok_root, ok_turns, List.lookup]
theorem told_9 (n : Nat) (h : Hs) (x0 x1 : D) : callF defs (n + 2) 70 [.d (.int 9), .d (mk 9 [x0, x1])] h = .ok (.d (.lv [x0, x1])) h := by
  rw [callF_at (md := ⟨2, 2, false, m__law_told⟩) rfl rfl]
  simp [startL, show mk 9 [x0, x1] = .ins 20 [(27, x0), (1, x1)] from rfl, ok_table, ok_ends, List.lookup]
theorem told_10 (n : Nat) (h : Hs) (x0 x1 : D) : callF defs (n + 2) 70 [.d (.int 10), .d (mk 10 [x0, x1])] h = .ok (.d (.lv [x0, x1])) h := by
  rw [callF_at (md := ⟨2, 2, false, m__law_told⟩) rfl rfl]
  simp [startL, show mk 10 [x0, x1] = .ins 24 [(28, x0), (33, x1)] from rfl, ok_grammar, ok_stages, List.lookup]
theorem toldl_11 (n : Nat) (h : Hs) (x0 x1 x2 : D) : callF defs (n + 1) 71 [.d (.int 11), .d (mk 11 [x0, x1, x2])] h = .ok (.d (.lv [x0, x1, x2])) h := by
  rw [callF_at (md := ⟨2, 2, false, m__law_told_later⟩) rfl rfl]
  simp [startL, show mk 11 [x0, x1, x2] = .ins 16 [(13, x0), (20, x1), (22, x2)] from rfl, ok_book, ok_step, ok_lots, List.lookup]
theorem told_11 (n : Nat) (h : Hs) (x0 x1 x2 : D) : callF defs (n + 2) 70 [.d (.int 11), .d (mk 11 [x0, x1, x2])] h = .ok (.d (.lv [x0, x1, x2])) h := by
  rw [callF_at (md := ⟨2, 2, false, m__law_told⟩) rfl rfl]
  simp [startL, toldl_11 n h x0 x1 x2]
theorem toldl_12 (n : Nat) (h : Hs) (x0 x1 : D) : callF defs (n + 1) 71 [.d (.int 12), .d (mk 12 [x0, x1])] h = .ok (.d (.lv [x0, x1])) h := by
  rw [callF_at (md := ⟨2, 2, false, m__law_told_later⟩) rfl rfl]
  simp [startL, show mk 12 [x0, x1] = .ins 17 [(0, x0), (23, x1)] from rfl, ok_deeds, ok_entries, List.lookup]
theorem told_12 (n : Nat) (h : Hs) (x0 x1 : D) : callF defs (n + 2) 70 [.d (.int 12), .d (mk 12 [x0, x1])] h = .ok (.d (.lv [x0, x1])) h := by
  rw [callF_at (md := ⟨2, 2, false, m__law_told⟩) rfl rfl]
  simp [startL, toldl_12 n h x0 x1]
theorem toldl_13 (n : Nat) (h : Hs) (x0 : D) : callF defs (n + 1) 71 [.d (.int 13), .d (mk 13 [x0])] h = .ok (.d (.lv [x0])) h := by
  rw [callF_at (md := ⟨2, 2, false, m__law_told_later⟩) rfl rfl]
  simp [startL, show mk 13 [x0] = .ins 18 [(24, x0)] from rfl, ok_paper, List.lookup]
theorem told_13 (n : Nat) (h : Hs) (x0 : D) : callF defs (n + 2) 70 [.d (.int 13), .d (mk 13 [x0])] h = .ok (.d (.lv [x0])) h := by
  rw [callF_at (md := ⟨2, 2, false, m__law_told⟩) rfl rfl]
  simp [startL, toldl_13 n h x0]
theorem toldl_14 (n : Nat) (h : Hs) (x0 x1 x2 : D) : callF defs (n + 1) 71 [.d (.int 14), .d (mk 14 [x0, x1, x2])] h = .ok (.d (.lv [x0, x1, x2])) h := by
  rw [callF_at (md := ⟨2, 2, false, m__law_told_later⟩) rfl rfl]
  simp [startL, show mk 14 [x0, x1, x2] = .ins 14 [(2, x0), (18, x1), (19, x2)] from rfl, ok_rows, ok_sets, ok_full, List.lookup]
theorem told_14 (n : Nat) (h : Hs) (x0 x1 x2 : D) : callF defs (n + 2) 70 [.d (.int 14), .d (mk 14 [x0, x1, x2])] h = .ok (.d (.lv [x0, x1, x2])) h := by
  rw [callF_at (md := ⟨2, 2, false, m__law_told⟩) rfl rfl]
  simp [startL, toldl_14 n h x0 x1 x2]
theorem toldl_15 (n : Nat) (h : Hs) (x0 x1 x2 x3 x4 : D) : callF defs (n + 1) 71 [.d (.int 15), .d (mk 15 [x0, x1, x2, x3, x4])] h = .ok (.d (.lv [x0, x1, x2, x3, x4])) h := by
  rw [callF_at (md := ⟨2, 2, false, m__law_told_later⟩) rfl rfl]
  simp [startL, show mk 15 [x0, x1, x2, x3, x4] = .ins 22 [(8, x0), (9, x1), (10, x2), (11, x3), (30, x4)] from rfl, ok_told, ok_letters, ok_unknowns, ok_spares, ok_empties, List.lookup]
theorem told_15 (n : Nat) (h : Hs) (x0 x1 x2 x3 x4 : D) : callF defs (n + 2) 70 [.d (.int 15), .d (mk 15 [x0, x1, x2, x3, x4])] h = .ok (.d (.lv [x0, x1, x2, x3, x4])) h := by
  rw [callF_at (md := ⟨2, 2, false, m__law_told⟩) rfl rfl]
  simp [startL, toldl_15 n h x0 x1 x2 x3 x4]
theorem toldl_16 (n : Nat) (h : Hs) (x0 x1 x2 x3 : D) : callF defs (n + 1) 71 [.d (.int 16), .d (mk 16 [x0, x1, x2, x3])] h = .ok (.d (.lv [x0, x1, x2, x3])) h := by
  rw [callF_at (md := ⟨2, 2, false, m__law_told_later⟩) rfl rfl]
  simp [startL, show mk 16 [x0, x1, x2, x3] = .ins 25 [(32, x0), (34, x1), (1, x2), (35, x3)] from rfl, ok_turns, ok_used, ok_ends, ok_stop, List.lookup]
theorem told_16 (n : Nat) (h : Hs) (x0 x1 x2 x3 : D) : callF defs (n + 2) 70 [.d (.int 16), .d (mk 16 [x0, x1, x2, x3])] h = .ok (.d (.lv [x0, x1, x2, x3])) h := by
  rw [callF_at (md := ⟨2, 2, false, m__law_told⟩) rfl rfl]
  simp [startL, toldl_16 n h x0 x1 x2 x3]
theorem toldl_17 (n : Nat) (h : Hs) (x0 x1 x2 x3 x4 : D) : callF defs (n + 1) 71 [.d (.int 17), .d (mk 17 [x0, x1, x2, x3, x4])] h = .ok (.d (.lv [x0, x1, x2, x3, x4])) h := by
  rw [callF_at (md := ⟨2, 2, false, m__law_told_later⟩) rfl rfl]
  simp [startL, show mk 17 [x0, x1, x2, x3, x4] = .ins 26 [(32, x0), (36, x1), (37, x2), (1, x3), (35, x4)] from rfl, ok_turns, ok_reads, ok_sayings, ok_ends, ok_stop, List.lookup]
theorem told_17 (n : Nat) (h : Hs) (x0 x1 x2 x3 x4 : D) : callF defs (n + 2) 70 [.d (.int 17), .d (mk 17 [x0, x1, x2, x3, x4])] h = .ok (.d (.lv [x0, x1, x2, x3, x4])) h := by
  rw [callF_at (md := ⟨2, 2, false, m__law_told⟩) rfl rfl]
  simp [startL, toldl_17 n h x0 x1 x2 x3 x4]
theorem toldl_18 (n : Nat) (h : Hs) (x0 x1 : D) : callF defs (n + 1) 71 [.d (.int 18), .d (mk 18 [x0, x1])] h = .ok (.d (.lv [x0, x1])) h := by
  rw [callF_at (md := ⟨2, 2, false, m__law_told_later⟩) rfl rfl]
  simp [startL, show mk 18 [x0, x1] = .ins 27 [(32, x0), (38, x1)] from rfl, ok_turns, ok_filling, List.lookup]
theorem told_18 (n : Nat) (h : Hs) (x0 x1 : D) : callF defs (n + 2) 70 [.d (.int 18), .d (mk 18 [x0, x1])] h = .ok (.d (.lv [x0, x1])) h := by
  rw [callF_at (md := ⟨2, 2, false, m__law_told⟩) rfl rfl]
  simp [startL, toldl_18 n h x0 x1]
theorem toldl_19 (n : Nat) (h : Hs) (x0 : D) : callF defs (n + 1) 71 [.d (.int 19), .d (mk 19 [x0])] h = .ok (.d (.lv [x0])) h := by
  rw [callF_at (md := ⟨2, 2, false, m__law_told_later⟩) rfl rfl]
  simp [startL, show mk 19 [x0] = .ins 28 [(39, x0)] from rfl, ok_papers, List.lookup]
theorem told_19 (n : Nat) (h : Hs) (x0 : D) : callF defs (n + 2) 70 [.d (.int 19), .d (mk 19 [x0])] h = .ok (.d (.lv [x0])) h := by
  rw [callF_at (md := ⟨2, 2, false, m__law_told⟩) rfl rfl]
  simp [startL, toldl_19 n h x0]
theorem toldl_20 (n : Nat) (h : Hs) (x0 x1 : D) : callF defs (n + 1) 71 [.d (.int 20), .d (mk 20 [x0, x1])] h = .ok (.d (.lv [x0, x1])) h := by
  rw [callF_at (md := ⟨2, 2, false, m__law_told_later⟩) rfl rfl]
  simp [startL, show mk 20 [x0, x1] = .ins 29 [(40, x0), (41, x1)] from rfl, ok_tolds, ok_refused, List.lookup]
theorem told_20 (n : Nat) (h : Hs) (x0 x1 : D) : callF defs (n + 2) 70 [.d (.int 20), .d (mk 20 [x0, x1])] h = .ok (.d (.lv [x0, x1])) h := by
  rw [callF_at (md := ⟨2, 2, false, m__law_told⟩) rfl rfl]
  simp [startL, toldl_20 n h x0 x1]
/-- as many parts as the result wants, tuples where they must be -/
def OkP (w : Nat) (ps : List D) : Prop := ps.length = (kx w).length ∧ (w = 12 → ∀ p ∈ ps, ∃ l, p = .tup l)
theorem e_made (n : Nat) (h : Hs) {w : Nat} (hw : w < 21) {ps : List D} (ok : OkP w ps) (v : Vl) (e : seqOf v h = some ps) : callF defs (n + 3) 68 [.d (.int (w : Nat)), v] h = .ok (.d (mk w ps)) h := by
  obtain ⟨hl, hp⟩ := ok
  match w, hw with
  | 0, _ =>
    match ps, hl with
    | [x0, x1], _ => exact made_0 n h x0 x1 v e
  | 1, _ =>
    match ps, hl with
    | [x0, x1, x2], _ => exact made_1 n h x0 x1 x2 v e
  | 2, _ =>
    match ps, hl with
    | [x0, x1, x2, x3], _ => exact made_2 n h x0 x1 x2 x3 v e
  | 3, _ =>
    match ps, hl with
    | [x0, x1, x2, x3, x4, x5, x6], _ => exact made_3 n h x0 x1 x2 x3 x4 x5 x6 v e
  | 4, _ =>
    match ps, hl with
    | [x0, x1, x2, x3], _ => exact made_4 n h x0 x1 x2 x3 v e
  | 5, _ =>
    match ps, hl with
    | [x0], _ => exact made_5 n h x0 v e
  | 6, _ =>
    match ps, hl with
    | [x0], _ => exact made_6 n h x0 v e
  | 7, _ =>
    match ps, hl with
    | [x0, x1], _ => exact made_7 n h x0 x1 v e
  | 8, _ =>
    match ps, hl with
    | [x0, x1], _ => exact made_8 n h x0 x1 v e
  | 9, _ =>
    match ps, hl with
    | [x0, x1], _ => exact made_9 n h x0 x1 v e
  | 10, _ =>
    match ps, hl with
    | [x0, x1], _ => exact made_10 n h x0 x1 v e
  | 11, _ =>
    match ps, hl with
    | [x0, x1, x2], _ => exact made_11 n h x0 x1 x2 v e
  | 12, _ =>
    match ps, hl with
    | [x0, x1], _ =>
      obtain ⟨l0, rfl⟩ := hp rfl x0 (by simp)
      obtain ⟨l1, rfl⟩ := hp rfl x1 (by simp)
      exact made_12 n h l0 l1 v e
  | 13, _ =>
    match ps, hl with
    | [x0], _ => exact made_13 n h x0 v e
  | 14, _ =>
    match ps, hl with
    | [x0, x1, x2], _ => exact made_14 n h x0 x1 x2 v e
  | 15, _ =>
    match ps, hl with
    | [x0, x1, x2, x3, x4], _ => exact made_15 n h x0 x1 x2 x3 x4 v e
  | 16, _ =>
    match ps, hl with
    | [x0, x1, x2, x3], _ => exact made_16 n h x0 x1 x2 x3 v e
  | 17, _ =>
    match ps, hl with
    | [x0, x1, x2, x3, x4], _ => exact made_17 n h x0 x1 x2 x3 x4 v e
  | 18, _ =>
    match ps, hl with
    | [x0, x1], _ => exact made_18 n h x0 x1 v e
  | 19, _ =>
    match ps, hl with
    | [x0], _ => exact made_19 n h x0 v e
  | 20, _ =>
    match ps, hl with
    | [x0, x1], _ => exact made_20 n h x0 x1 v e
  | _ + 21, hw => exact absurd hw (by omega)
theorem e_told (n : Nat) (h : Hs) {w : Nat} (hw : w < 21) {ps : List D} (hl : ps.length = (kx w).length) : callF defs (n + 2) 70 [.d (.int (w : Nat)), .d (mk w ps)] h = .ok (.d (.lv ps)) h := by
  match w, hw with
  | 0, _ =>
    match ps, hl with
    | [x0, x1], _ => exact told_0 n h x0 x1
  | 1, _ =>
    match ps, hl with
    | [x0, x1, x2], _ => exact told_1 n h x0 x1 x2
  | 2, _ =>
    match ps, hl with
    | [x0, x1, x2, x3], _ => exact told_2 n h x0 x1 x2 x3
  | 3, _ =>
    match ps, hl with
    | [x0, x1, x2, x3, x4, x5, x6], _ => exact told_3 n h x0 x1 x2 x3 x4 x5 x6
  | 4, _ =>
    match ps, hl with
    | [x0, x1, x2, x3], _ => exact told_4 n h x0 x1 x2 x3
  | 5, _ =>
    match ps, hl with
    | [x0], _ => exact told_5 n h x0
  | 6, _ =>
    match ps, hl with
    | [x0], _ => exact told_6 n h x0
  | 7, _ =>
    match ps, hl with
    | [x0, x1], _ => exact told_7 n h x0 x1
  | 8, _ =>
    match ps, hl with
    | [x0, x1], _ => exact told_8 n h x0 x1
  | 9, _ =>
    match ps, hl with
    | [x0, x1], _ => exact told_9 n h x0 x1
  | 10, _ =>
    match ps, hl with
    | [x0, x1], _ => exact told_10 n h x0 x1
  | 11, _ =>
    match ps, hl with
    | [x0, x1, x2], _ => exact told_11 n h x0 x1 x2
  | 12, _ =>
    match ps, hl with
    | [x0, x1], _ => exact told_12 n h x0 x1
  | 13, _ =>
    match ps, hl with
    | [x0], _ => exact told_13 n h x0
  | 14, _ =>
    match ps, hl with
    | [x0, x1, x2], _ => exact told_14 n h x0 x1 x2
  | 15, _ =>
    match ps, hl with
    | [x0, x1, x2, x3, x4], _ => exact told_15 n h x0 x1 x2 x3 x4
  | 16, _ =>
    match ps, hl with
    | [x0, x1, x2, x3], _ => exact told_16 n h x0 x1 x2 x3
  | 17, _ =>
    match ps, hl with
    | [x0, x1, x2, x3, x4], _ => exact told_17 n h x0 x1 x2 x3 x4
  | 18, _ =>
    match ps, hl with
    | [x0, x1], _ => exact told_18 n h x0 x1
  | 19, _ =>
    match ps, hl with
    | [x0], _ => exact told_19 n h x0
  | 20, _ =>
    match ps, hl with
    | [x0, x1], _ => exact told_20 n h x0 x1
  | _ + 21, hw => exact absurd hw (by omega)
theorem e_eq (n : Nat) (h : Hs) {w : Nat} (hw : w < 21) {ps qs : List D} {bs : List Bool} (e : Eqs (callF defs n) ps qs bs) (hl : ps.length = (kx w).length) : callF defs (n + 1) (eqi w) [.d (mk w ps), .d (mk w qs)] h = .ok (.d (.bl (bs.all id))) h := by
  match w, hw with
  | 0, _ => exact eq_0 n h e hl
  | 1, _ => exact eq_1 n h e hl
  | 2, _ => exact eq_2 n h e hl
  | 3, _ => exact eq_3 n h e hl
  | 4, _ => exact eq_4 n h e hl
  | 5, _ => exact eq_5 n h e hl
  | 6, _ => exact eq_6 n h e hl
  | 7, _ => exact eq_7 n h e hl
  | 8, _ => exact eq_8 n h e hl
  | 9, _ => exact eq_9 n h e hl
  | 10, _ => exact eq_10 n h e hl
  | 11, _ => exact eq_11 n h e hl
  | 12, _ => exact eq_12 n h e hl
  | 13, _ => exact eq_13 n h e hl
  | 14, _ => exact eq_14 n h e hl
  | 15, _ => exact eq_15 n h e hl
  | 16, _ => exact eq_16 n h e hl
  | 17, _ => exact eq_17 n h e hl
  | 18, _ => exact eq_18 n h e hl
  | 19, _ => exact eq_19 n h e hl
  | 20, _ => exact eq_20 n h e hl
  | _ + 21, hw => exact absurd hw (by omega)
theorem e_un (n : Nat) (h : Hs) {w w' : Nat} (hw : w < 21) (hw' : w' < 21) (hne : w ≠ w') (ps qs : List D) : callF defs (n + 1) (eqi w) [.d (mk w ps), .d (mk w' qs)] h = .ok (.d (.bl false)) h := by
  have hc : (cl w' == cl w) = false := by
    have : ∀ w < 21, ∀ w' < 21, w ≠ w' → (cl w' == cl w) = false := by decide +kernel
    exact this w hw w' hw' hne
  have q := isi_eq (h := h) (fs := (fd' w).zip ps) (gs := (fd' w').zip qs) hw hw'
  rw [hc] at q
  match w, hw, q with
  | 0, _, q =>
    rw [show eqi 0 = 11 from rfl, callF_at (md := ⟨2, 2, false, m_Clash__eq_⟩) rfl rfl]
    show fin false h.length (sb ((eAn (eIsi (isiT isOk isBt 7) (eVar 1)) (eAn (eBin (oEqO false eqTab (callF defs n)) (eFd (ok_why) 4 (eVar 0)) (eFd (ok_why) 4 (eVar 1))) (eBin (oEqO false eqTab (callF defs n)) (eFd (ok_at) 5 (eVar 0)) (eFd (ok_at) 5 (eVar 1))))) [some (.d (mk 0 ps)), some (.d (mk w' qs))] h) _ fun x h1 => .ok (.ret x) _ h1) = _
    rw [ap_an, show eIsi (isiT isOk isBt 7) (eVar 1) [some (.d (mk 0 ps)), some (.d (mk w' qs))] h = .ok (.d (.bl false)) h from q]
    simp
  | 1, _, q =>
    rw [show eqi 1 = 15 from rfl, callF_at (md := ⟨2, 2, false, m_Canon__eq_⟩) rfl rfl]
    show fin false h.length (sb ((eAn (eIsi (isiT isOk isBt 9) (eVar 1)) (eAn (eBin (oEqO false eqTab (callF defs n)) (eFd (ok_book) 13 (eVar 0)) (eFd (ok_book) 13 (eVar 1))) (eAn (eBin (oEqO false eqTab (callF defs n)) (eFd (ok_letters) 9 (eVar 0)) (eFd (ok_letters) 9 (eVar 1))) (eBin (oEqO false eqTab (callF defs n)) (eFd (ok_unknowns) 10 (eVar 0)) (eFd (ok_unknowns) 10 (eVar 1)))))) [some (.d (mk 1 ps)), some (.d (mk w' qs))] h) _ fun x h1 => .ok (.ret x) _ h1) = _
    rw [ap_an, show eIsi (isiT isOk isBt 9) (eVar 1) [some (.d (mk 1 ps)), some (.d (mk w' qs))] h = .ok (.d (.bl false)) h from q]
    simp
  | 2, _, q =>
    rw [show eqi 2 = 17 from rfl, callF_at (md := ⟨2, 2, false, m_Settled__eq_⟩) rfl rfl]
    show fin false h.length (sb ((eAn (eIsi (isiT isOk isBt 10) (eVar 1)) (eAn (eBin (oEqO false eqTab (callF defs n)) (eFd (ok_told) 8 (eVar 0)) (eFd (ok_told) 8 (eVar 1))) (eAn (eBin (oEqO false eqTab (callF defs n)) (eFd (ok_letters) 9 (eVar 0)) (eFd (ok_letters) 9 (eVar 1))) (eAn (eBin (oEqO false eqTab (callF defs n)) (eFd (ok_unknowns) 10 (eVar 0)) (eFd (ok_unknowns) 10 (eVar 1))) (eBin (oEqO false eqTab (callF defs n)) (eFd (ok_spares) 11 (eVar 0)) (eFd (ok_spares) 11 (eVar 1))))))) [some (.d (mk 2 ps)), some (.d (mk w' qs))] h) _ fun x h1 => .ok (.ret x) _ h1) = _
    rw [ap_an, show eIsi (isiT isOk isBt 10) (eVar 1) [some (.d (mk 2 ps)), some (.d (mk w' qs))] h = .ok (.d (.bl false)) h from q]
    simp
  | 3, _, q =>
    rw [show eqi 3 = 13 from rfl, callF_at (md := ⟨2, 2, false, m_Guess__eq_⟩) rfl rfl]
    show fin false h.length (sb ((eAn (eIsi (isiT isOk isBt 8) (eVar 1)) (eAn (eBin (oEqO false eqTab (callF defs n)) (eFd (ok_parts) 6 (eVar 0)) (eFd (ok_parts) 6 (eVar 1))) (eAn (eBin (oEqO false eqTab (callF defs n)) (eFd (ok_news) 7 (eVar 0)) (eFd (ok_news) 7 (eVar 1))) (eAn (eBin (oEqO false eqTab (callF defs n)) (eFd (ok_told) 8 (eVar 0)) (eFd (ok_told) 8 (eVar 1))) (eAn (eBin (oEqO false eqTab (callF defs n)) (eFd (ok_letters) 9 (eVar 0)) (eFd (ok_letters) 9 (eVar 1))) (eAn (eBin (oEqO false eqTab (callF defs n)) (eFd (ok_unknowns) 10 (eVar 0)) (eFd (ok_unknowns) 10 (eVar 1))) (eAn (eBin (oEqO false eqTab (callF defs n)) (eFd (ok_spares) 11 (eVar 0)) (eFd (ok_spares) 11 (eVar 1))) (eBin (oEqO false eqTab (callF defs n)) (eFd (ok_equations) 12 (eVar 0)) (eFd (ok_equations) 12 (eVar 1)))))))))) [some (.d (mk 3 ps)), some (.d (mk w' qs))] h) _ fun x h1 => .ok (.ret x) _ h1) = _
    rw [ap_an, show eIsi (isiT isOk isBt 8) (eVar 1) [some (.d (mk 3 ps)), some (.d (mk w' qs))] h = .ok (.d (.bl false)) h from q]
    simp
  | 4, _, q =>
    rw [show eqi 4 = 19 from rfl, callF_at (md := ⟨2, 2, false, m_Shape__eq_⟩) rfl rfl]
    show fin false h.length (sb ((eAn (eIsi (isiT isOk isBt 11) (eVar 1)) (eAn (eBin (oEqO false eqTab (callF defs n)) (eFd (ok_front) 14 (eVar 0)) (eFd (ok_front) 14 (eVar 1))) (eAn (eBin (oEqO false eqTab (callF defs n)) (eFd (ok_stays) 15 (eVar 0)) (eFd (ok_stays) 15 (eVar 1))) (eAn (eBin (oEqO false eqTab (callF defs n)) (eFd (ok_back) 16 (eVar 0)) (eFd (ok_back) 16 (eVar 1))) (eBin (oEqO false eqTab (callF defs n)) (eFd (ok_ends) 1 (eVar 0)) (eFd (ok_ends) 1 (eVar 1))))))) [some (.d (mk 4 ps)), some (.d (mk w' qs))] h) _ fun x h1 => .ok (.ret x) _ h1) = _
    rw [ap_an, show eIsi (isiT isOk isBt 11) (eVar 1) [some (.d (mk 4 ps)), some (.d (mk w' qs))] h = .ok (.d (.bl false)) h from q]
    simp
  | 5, _, q =>
    rw [show eqi 5 = 21 from rfl, callF_at (md := ⟨2, 2, false, m_Answer__eq_⟩) rfl rfl]
    show fin false h.length (sb ((eAn (eIsi (isiT isOk isBt 12) (eVar 1)) (eBin (oEqO false eqTab (callF defs n)) (eFd (ok_numbers) 17 (eVar 0)) (eFd (ok_numbers) 17 (eVar 1)))) [some (.d (mk 5 ps)), some (.d (mk w' qs))] h) _ fun x h1 => .ok (.ret x) _ h1) = _
    rw [ap_an, show eIsi (isiT isOk isBt 12) (eVar 1) [some (.d (mk 5 ps)), some (.d (mk w' qs))] h = .ok (.d (.bl false)) h from q]
    simp
  | 6, _, q =>
    rw [show eqi 6 = 23 from rfl, callF_at (md := ⟨2, 2, false, m_Carries__eq_⟩) rfl rfl]
    show fin false h.length (sb ((eAn (eIsi (isiT isOk isBt 13) (eVar 1)) (eBin (oEqO false eqTab (callF defs n)) (eFd (ok_rows) 2 (eVar 0)) (eFd (ok_rows) 2 (eVar 1)))) [some (.d (mk 6 ps)), some (.d (mk w' qs))] h) _ fun x h1 => .ok (.ret x) _ h1) = _
    rw [ap_an, show eIsi (isiT isOk isBt 13) (eVar 1) [some (.d (mk 6 ps)), some (.d (mk w' qs))] h = .ok (.d (.bl false)) h from q]
    simp
  | 7, _, q =>
    rw [show eqi 7 = 27 from rfl, callF_at (md := ⟨2, 2, false, m_Look__eq_⟩) rfl rfl]
    show fin false h.length (sb ((eAn (eIsi (isiT isOk isBt 15) (eVar 1)) (eAn (eBin (oEqO false eqTab (callF defs n)) (eFd (ok_step) 20 (eVar 0)) (eFd (ok_step) 20 (eVar 1))) (eBin (oEqO false eqTab (callF defs n)) (eFd (ok_outcomes) 21 (eVar 0)) (eFd (ok_outcomes) 21 (eVar 1))))) [some (.d (mk 7 ps)), some (.d (mk w' qs))] h) _ fun x h1 => .ok (.ret x) _ h1) = _
    rw [ap_an, show eIsi (isiT isOk isBt 15) (eVar 1) [some (.d (mk 7 ps)), some (.d (mk w' qs))] h = .ok (.d (.bl false)) h from q]
    simp
  | 8, _, q =>
    rw [show eqi 8 = 51 from rfl, callF_at (md := ⟨2, 2, false, m_Trail__eq_⟩) rfl rfl]
    show fin false h.length (sb ((eAn (eIsi (isiT isOk isBt 23) (eVar 1)) (eAn (eBin (oEqO false eqTab (callF defs n)) (eFd (ok_root) 31 (eVar 0)) (eFd (ok_root) 31 (eVar 1))) (eBin (oEqO false eqTab (callF defs n)) (eFd (ok_turns) 32 (eVar 0)) (eFd (ok_turns) 32 (eVar 1))))) [some (.d (mk 8 ps)), some (.d (mk w' qs))] h) _ fun x h1 => .ok (.ret x) _ h1) = _
    rw [ap_an, show eIsi (isiT isOk isBt 23) (eVar 1) [some (.d (mk 8 ps)), some (.d (mk w' qs))] h = .ok (.d (.bl false)) h from q]
    simp
  | 9, _, q =>
    rw [show eqi 9 = 42 from rfl, callF_at (md := ⟨2, 2, false, m_Pressed__eq_⟩) rfl rfl]
    show fin false h.length (sb ((eAn (eIsi (isiT isOk isBt 20) (eVar 1)) (eAn (eBin (oEqO false eqTab (callF defs n)) (eFd (ok_table) 27 (eVar 0)) (eFd (ok_table) 27 (eVar 1))) (eBin (oEqO false eqTab (callF defs n)) (eFd (ok_ends) 1 (eVar 0)) (eFd (ok_ends) 1 (eVar 1))))) [some (.d (mk 9 ps)), some (.d (mk w' qs))] h) _ fun x h1 => .ok (.ret x) _ h1) = _
    rw [ap_an, show eIsi (isiT isOk isBt 20) (eVar 1) [some (.d (mk 9 ps)), some (.d (mk w' qs))] h = .ok (.d (.bl false)) h from q]
    simp
  | 10, _, q =>
    rw [show eqi 10 = 53 from rfl, callF_at (md := ⟨2, 2, false, m_Stages__eq_⟩) rfl rfl]
    show fin false h.length (sb ((eAn (eIsi (isiT isOk isBt 24) (eVar 1)) (eAn (eBin (oEqO false eqTab (callF defs n)) (eFd (ok_grammar) 28 (eVar 0)) (eFd (ok_grammar) 28 (eVar 1))) (eBin (oEqO false eqTab (callF defs n)) (eFd (ok_stages) 33 (eVar 0)) (eFd (ok_stages) 33 (eVar 1))))) [some (.d (mk 10 ps)), some (.d (mk w' qs))] h) _ fun x h1 => .ok (.ret x) _ h1) = _
    rw [ap_an, show eIsi (isiT isOk isBt 24) (eVar 1) [some (.d (mk 10 ps)), some (.d (mk w' qs))] h = .ok (.d (.bl false)) h from q]
    simp
  | 11, _, q =>
    rw [show eqi 11 = 29 from rfl, callF_at (md := ⟨2, 2, false, m_Entry__eq_⟩) rfl rfl]
    show fin false h.length (sb ((eAn (eIsi (isiT isOk isBt 16) (eVar 1)) (eAn (eBin (oEqO false eqTab (callF defs n)) (eFd (ok_book) 13 (eVar 0)) (eFd (ok_book) 13 (eVar 1))) (eAn (eBin (oEqO false eqTab (callF defs n)) (eFd (ok_step) 20 (eVar 0)) (eFd (ok_step) 20 (eVar 1))) (eBin (oEqO false eqTab (callF defs n)) (eFd (ok_lots) 22 (eVar 0)) (eFd (ok_lots) 22 (eVar 1)))))) [some (.d (mk 11 ps)), some (.d (mk w' qs))] h) _ fun x h1 => .ok (.ret x) _ h1) = _
    rw [ap_an, show eIsi (isiT isOk isBt 16) (eVar 1) [some (.d (mk 11 ps)), some (.d (mk w' qs))] h = .ok (.d (.bl false)) h from q]
    simp
  | 12, _, q =>
    rw [show eqi 12 = 31 from rfl, callF_at (md := ⟨2, 2, false, m_Paper__eq_⟩) rfl rfl]
    show fin false h.length (sb ((eAn (eIsi (isiT isOk isBt 17) (eVar 1)) (eAn (eBin (oEqO false eqTab (callF defs n)) (eFd (ok_deeds) 0 (eVar 0)) (eFd (ok_deeds) 0 (eVar 1))) (eBin (oEqO false eqTab (callF defs n)) (eFd (ok_entries) 23 (eVar 0)) (eFd (ok_entries) 23 (eVar 1))))) [some (.d (mk 12 ps)), some (.d (mk w' qs))] h) _ fun x h1 => .ok (.ret x) _ h1) = _
    rw [ap_an, show eIsi (isiT isOk isBt 17) (eVar 1) [some (.d (mk 12 ps)), some (.d (mk w' qs))] h = .ok (.d (.bl false)) h from q]
    simp
  | 13, _, q =>
    rw [show eqi 13 = 33 from rfl, callF_at (md := ⟨2, 2, false, m_Shut__eq_⟩) rfl rfl]
    show fin false h.length (sb ((eAn (eIsi (isiT isOk isBt 18) (eVar 1)) (eBin (oEqO false eqTab (callF defs n)) (eFd (ok_paper) 24 (eVar 0)) (eFd (ok_paper) 24 (eVar 1)))) [some (.d (mk 13 ps)), some (.d (mk w' qs))] h) _ fun x h1 => .ok (.ret x) _ h1) = _
    rw [ap_an, show eIsi (isiT isOk isBt 18) (eVar 1) [some (.d (mk 13 ps)), some (.d (mk w' qs))] h = .ok (.d (.bl false)) h from q]
    simp
  | 14, _, q =>
    rw [show eqi 14 = 25 from rfl, callF_at (md := ⟨2, 2, false, m_Case__eq_⟩) rfl rfl]
    show fin false h.length (sb ((eAn (eIsi (isiT isOk isBt 14) (eVar 1)) (eAn (eBin (oEqO false eqTab (callF defs n)) (eFd (ok_rows) 2 (eVar 0)) (eFd (ok_rows) 2 (eVar 1))) (eAn (eBin (oEqO false eqTab (callF defs n)) (eFd (ok_sets) 18 (eVar 0)) (eFd (ok_sets) 18 (eVar 1))) (eBin (oEqO false eqTab (callF defs n)) (eFd (ok_full) 19 (eVar 0)) (eFd (ok_full) 19 (eVar 1)))))) [some (.d (mk 14 ps)), some (.d (mk w' qs))] h) _ fun x h1 => .ok (.ret x) _ h1) = _
    rw [ap_an, show eIsi (isiT isOk isBt 14) (eVar 1) [some (.d (mk 14 ps)), some (.d (mk w' qs))] h = .ok (.d (.bl false)) h from q]
    simp
  | 15, _, q =>
    rw [show eqi 15 = 49 from rfl, callF_at (md := ⟨2, 2, false, m_Root__eq_⟩) rfl rfl]
    show fin false h.length (sb ((eAn (eIsi (isiT isOk isBt 22) (eVar 1)) (eAn (eBin (oEqO false eqTab (callF defs n)) (eFd (ok_told) 8 (eVar 0)) (eFd (ok_told) 8 (eVar 1))) (eAn (eBin (oEqO false eqTab (callF defs n)) (eFd (ok_letters) 9 (eVar 0)) (eFd (ok_letters) 9 (eVar 1))) (eAn (eBin (oEqO false eqTab (callF defs n)) (eFd (ok_unknowns) 10 (eVar 0)) (eFd (ok_unknowns) 10 (eVar 1))) (eAn (eBin (oEqO false eqTab (callF defs n)) (eFd (ok_spares) 11 (eVar 0)) (eFd (ok_spares) 11 (eVar 1))) (eBin (oEqO false eqTab (callF defs n)) (eFd (ok_empties) 30 (eVar 0)) (eFd (ok_empties) 30 (eVar 1)))))))) [some (.d (mk 15 ps)), some (.d (mk w' qs))] h) _ fun x h1 => .ok (.ret x) _ h1) = _
    rw [ap_an, show eIsi (isiT isOk isBt 22) (eVar 1) [some (.d (mk 15 ps)), some (.d (mk w' qs))] h = .ok (.d (.bl false)) h from q]
    simp
  | 16, _, q =>
    rw [show eqi 16 = 55 from rfl, callF_at (md := ⟨2, 2, false, m_Run__eq_⟩) rfl rfl]
    show fin false h.length (sb ((eAn (eIsi (isiT isOk isBt 25) (eVar 1)) (eAn (eBin (oEqO false eqTab (callF defs n)) (eFd (ok_turns) 32 (eVar 0)) (eFd (ok_turns) 32 (eVar 1))) (eAn (eBin (oEqO false eqTab (callF defs n)) (eFd (ok_used) 34 (eVar 0)) (eFd (ok_used) 34 (eVar 1))) (eAn (eBin (oEqO false eqTab (callF defs n)) (eFd (ok_ends) 1 (eVar 0)) (eFd (ok_ends) 1 (eVar 1))) (eBin (oEqO false eqTab (callF defs n)) (eFd (ok_stop) 35 (eVar 0)) (eFd (ok_stop) 35 (eVar 1))))))) [some (.d (mk 16 ps)), some (.d (mk w' qs))] h) _ fun x h1 => .ok (.ret x) _ h1) = _
    rw [ap_an, show eIsi (isiT isOk isBt 25) (eVar 1) [some (.d (mk 16 ps)), some (.d (mk w' qs))] h = .ok (.d (.bl false)) h from q]
    simp
  | 17, _, q =>
    rw [show eqi 17 = 57 from rfl, callF_at (md := ⟨2, 2, false, m_Way__eq_⟩) rfl rfl]
    show fin false h.length (sb ((eAn (eIsi (isiT isOk isBt 26) (eVar 1)) (eAn (eBin (oEqO false eqTab (callF defs n)) (eFd (ok_turns) 32 (eVar 0)) (eFd (ok_turns) 32 (eVar 1))) (eAn (eBin (oEqO false eqTab (callF defs n)) (eFd (ok_reads) 36 (eVar 0)) (eFd (ok_reads) 36 (eVar 1))) (eAn (eBin (oEqO false eqTab (callF defs n)) (eFd (ok_sayings) 37 (eVar 0)) (eFd (ok_sayings) 37 (eVar 1))) (eAn (eBin (oEqO false eqTab (callF defs n)) (eFd (ok_ends) 1 (eVar 0)) (eFd (ok_ends) 1 (eVar 1))) (eBin (oEqO false eqTab (callF defs n)) (eFd (ok_stop) 35 (eVar 0)) (eFd (ok_stop) 35 (eVar 1)))))))) [some (.d (mk 17 ps)), some (.d (mk w' qs))] h) _ fun x h1 => .ok (.ret x) _ h1) = _
    rw [ap_an, show eIsi (isiT isOk isBt 26) (eVar 1) [some (.d (mk 17 ps)), some (.d (mk w' qs))] h = .ok (.d (.bl false)) h from q]
    simp
  | 18, _, q =>
    rw [show eqi 18 = 59 from rfl, callF_at (md := ⟨2, 2, false, m_Found__eq_⟩) rfl rfl]
    show fin false h.length (sb ((eAn (eIsi (isiT isOk isBt 27) (eVar 1)) (eAn (eBin (oEqO false eqTab (callF defs n)) (eFd (ok_turns) 32 (eVar 0)) (eFd (ok_turns) 32 (eVar 1))) (eBin (oEqO false eqTab (callF defs n)) (eFd (ok_filling) 38 (eVar 0)) (eFd (ok_filling) 38 (eVar 1))))) [some (.d (mk 18 ps)), some (.d (mk w' qs))] h) _ fun x h1 => .ok (.ret x) _ h1) = _
    rw [ap_an, show eIsi (isiT isOk isBt 27) (eVar 1) [some (.d (mk 18 ps)), some (.d (mk w' qs))] h = .ok (.d (.bl false)) h from q]
    simp
  | 19, _, q =>
    rw [show eqi 19 = 61 from rfl, callF_at (md := ⟨2, 2, false, m_Never__eq_⟩) rfl rfl]
    show fin false h.length (sb ((eAn (eIsi (isiT isOk isBt 28) (eVar 1)) (eBin (oEqO false eqTab (callF defs n)) (eFd (ok_papers) 39 (eVar 0)) (eFd (ok_papers) 39 (eVar 1)))) [some (.d (mk 19 ps)), some (.d (mk w' qs))] h) _ fun x h1 => .ok (.ret x) _ h1) = _
    rw [ap_an, show eIsi (isiT isOk isBt 28) (eVar 1) [some (.d (mk 19 ps)), some (.d (mk w' qs))] h = .ok (.d (.bl false)) h from q]
    simp
  | 20, _, q =>
    rw [show eqi 20 = 63 from rfl, callF_at (md := ⟨2, 2, false, m_Trial__eq_⟩) rfl rfl]
    show fin false h.length (sb ((eAn (eIsi (isiT isOk isBt 29) (eVar 1)) (eAn (eBin (oEqO false eqTab (callF defs n)) (eFd (ok_tolds) 40 (eVar 0)) (eFd (ok_tolds) 40 (eVar 1))) (eBin (oEqO false eqTab (callF defs n)) (eFd (ok_refused) 41 (eVar 0)) (eFd (ok_refused) 41 (eVar 1))))) [some (.d (mk 20 ps)), some (.d (mk w' qs))] h) _ fun x h1 => .ok (.ret x) _ h1) = _
    rw [ap_an, show eIsi (isiT isOk isBt 29) (eVar 1) [some (.d (mk 20 ps)), some (.d (mk w' qs))] h = .ok (.d (.bl false)) h from q]
    simp
  | _ + 21, hw, _ => exact absurd hw (by omega)
end K99

namespace K99
open PySem PySem.Spec Mi
/-! ### facts of the parts, one by one -/
theorem map_at {α β : Type} {f g : α → β} {l : List α} (h : l.map f = l.map g) {x : α} (hx : x ∈ l) : f x = g x := by
  obtain ⟨i, hi, rfl⟩ := List.getElem_of_mem hx
  have := congrArg (fun z => z[i]?) h
  simpa [hi] using this
def In12 (s : Nat) : Prop := 1 ≤ s ∧ s ≤ 12
theorem mem_all2 {k s : Nat} (hk : k < 13) (hs : In12 s) : (k, s) ∈ all2 := by
  unfold all2
  rw [List.mem_flatMap]
  refine ⟨k, List.mem_range.mpr hk, List.mem_map.mpr ⟨s - 1, List.mem_range.mpr ?_, ?_⟩⟩
  · have := hs.1; have := hs.2; omega
  · rw [Nat.sub_add_cancel hs.1]
theorem mem_pr {s t : Nat} (hs : In12 s) (ht : In12 t) : (s, t) ∈ pr12 := by
  unfold pr12
  rw [List.mem_flatMap]
  refine ⟨s - 1, List.mem_range.mpr ?_, List.mem_map.mpr ⟨t - 1, List.mem_range.mpr ?_, ?_⟩⟩
  · have := hs.1; have := hs.2; omega
  · have := ht.1; have := ht.2; omega
  · rw [Nat.sub_add_cancel hs.1, Nat.sub_add_cancel ht.1]
theorem p18 {k s : Nat} (hk : k < 13) (hs : In12 s) (o p : O) : callF defs 18 67 [.d (.str (kd k)), .d (.int (s : Nat))] [o, p] = .ok (.d (partV k s)) [o, p] := map_at (parts18 o p) (mem_all2 hk hs)
theorem p19 {k s : Nat} (hk : k < 13) (hs : In12 s) (o p : O) : callF defs 19 67 [.d (.str (kd k)), .d (.int (s : Nat))] [o, p] = .ok (.d (partV k s)) [o, p] := map_at (parts19 o p) (mem_all2 hk hs)
theorem mem_all3 {k s t : Nat} (hk : k < 13) (hs : In12 s) (ht : In12 t) : (k, s, t) ∈ all3 :=
  List.mem_flatMap.mpr ⟨k, List.mem_range.mpr hk, List.mem_map.mpr ⟨(s, t), mem_pr hs ht, rfl⟩⟩
theorem q17 {k s t : Nat} (hk : k < 13) (hs : In12 s) (ht : In12 t) : eqD2 eqTab (callF defs 17) (partV k s) (partV k t) = some (eqK k s t) := map_at (f := e17) eqs17 (mem_all3 hk hs ht)
theorem q18 {k s t : Nat} (hk : k < 13) (hs : In12 s) (ht : In12 t) : eqD2 eqTab (callF defs 18) (partV k s) (partV k t) = some (eqK k s t) := map_at (f := e18) eqs18 (mem_all3 hk hs ht)
theorem r18 {k s : Nat} (hk : k < 13) (hs : In12 s) : eqO eqTab (callF defs 18) 6 (partV k s) (partV k s) = some true := map_at (f := eR) refl18 (mem_all2 hk hs)
theorem s3 {k s t : Nat} (hk : k < 13) (hs : In12 s) (ht : In12 t) : same (partV k s) (partV k t) = eqK k s t := map_at (f := eS) same3 (mem_all3 hk hs ht)
theorem eqK_comm (k s t : Nat) : eqK k s t = eqK k t s := by
  unfold eqK
  split <;> exact BEq.comm
theorem eqK_self (k s : Nat) : eqK k s s = true := by
  unfold eqK
  split <;> exact beq_self_eq_true _
theorem tup12 {k s : Nat} (h : k = 2 ∨ k = 8) : ∃ l, partV k s = .tup l := by
  rcases h with rfl | rfl <;> exact ⟨_, rfl⟩
/-! ### equality of results -/
theorem samef_names : ∀ {fs gs : List (Nat × D)}, samef fs gs = true → fs.map (·.1) = gs.map (·.1)
  | [], [], _ => rfl
  | (n, x) :: fs, (m, y) :: gs, h => by
    simp only [samef, Bool.and_eq_true, beq_iff_eq] at h
    rw [List.map_cons, List.map_cons, samef_names h.2.2, h.1]
  | [], _ :: _, h => by cases h
  | _ :: _, [], h => by cases h
theorem Eqs.sames {call : CallT} {ps qs : List D} {bs : List Bool} (e : Eqs call ps qs bs) (hb : bs.all id = false) : ∀ fs : List Nat, fs.length = ps.length → samef (fs.zip ps) (fs.zip qs) = false := by
  induction e with
  | nil => cases hb
  | cons h1 h2 t ih =>
    intro fs hl
    cases fs with
    | nil => cases hl
    | cons f fs =>
      rename_i x y b xs ys bs
      simp only [List.zip_cons_cons, samef, beq_self_eq_true, Bool.true_and, Bool.and_eq_false_iff]
      cases b with
      | false => exact .inl (h2 rfl)
      | true => exact .inr (ih hb fs (by simpa using hl))
theorem eqTop_ins {T : List (Nat × Nat)} {call : CallT} {C : Nat} {fs : List (Nat × D)} {y : D} : eqTop T call (.ins C fs) y = none := by
  have : deq (.ins C fs) y = none := by
    unfold deq
    rw [if_neg]
    intro h
    have c := SeqAt.canLay_of_shaped (Bool.and_eq_true_iff.mp h).1
    simp [D.pd, PyData.canLay0] at c
  unfold eqTop
  rw [this]
theorem look_eqi {w : Nat} (hw : w < 21) : eqTab.lookup (cl w) = some (eqi w) := by
  have : ∀ w < 21, eqTab.lookup (cl w) = some (eqi w) := by decide +kernel
  exact this w hw
theorem fd_len {w : Nat} (hw : w < 21) : (fd' w).length = (kx w).length := by
  have : ∀ w < 21, (fd' w).length = (kx w).length := by decide +kernel
  exact this w hw
theorem eqD_mk (n : Nat) {w : Nat} (hw : w < 21) {ps qs : List D} {bs : List Bool} (e : Eqs (callF defs n) ps qs bs) (hl : ps.length = (kx w).length) : eqD2 eqTab (callF defs (n + 1)) (mk w ps) (mk w qs) = some (bs.all id) := by
  unfold eqD2
  rw [show mk w ps = .ins (cl w) ((fd' w).zip ps) from rfl, eqTop_ins]
  show insE eqTab (callF defs (n + 1)) (.ins (cl w) ((fd' w).zip ps)) (.ins (cl w) ((fd' w).zip qs)) = _
  unfold insE
  dsimp only
  rw [look_eqi hw]
  dsimp only
  rw [show callF defs (n + 1) (eqi w) [.d (.ins (cl w) ((fd' w).zip ps)), .d (.ins (cl w) ((fd' w).zip qs))] [] = .ok (.d (.bl (bs.all id))) [] from e_eq n [] hw e hl]
  dsimp only
  rw [if_pos]
  cases hb : bs.all id with
  | true => exact .inl rfl
  | false => exact .inr (e.sames hb _ (by rw [fd_len hw, hl]))
theorem eqD_un (n : Nat) {w w' : Nat} (hw : w < 21) (hw' : w' < 21) (hne : w ≠ w') {ps qs : List D} (hl : ps.length = (kx w).length) (hl' : qs.length = (kx w').length) : eqD2 eqTab (callF defs (n + 1)) (mk w ps) (mk w' qs) = some false := by
  unfold eqD2
  rw [show mk w ps = .ins (cl w) ((fd' w).zip ps) from rfl, eqTop_ins]
  show insE eqTab (callF defs (n + 1)) (.ins (cl w) ((fd' w).zip ps)) (.ins (cl w') ((fd' w').zip qs)) = _
  unfold insE
  dsimp only
  rw [look_eqi hw, look_eqi hw']
  dsimp only
  rw [show callF defs (n + 1) (eqi w) [.d (.ins (cl w) ((fd' w).zip ps)), .d (.ins (cl w') ((fd' w').zip qs))] [] = .ok (.d (.bl false)) [] from e_un n [] hw hw' hne ps qs]
  dsimp only
  rw [if_pos]
  refine .inr (Bool.eq_false_iff.mpr fun z => ?_)
  have := samef_names z
  rw [List.map_fst_zip (by rw [fd_len hw, hl]; exact Nat.le_refl _), List.map_fst_zip (by rw [fd_len hw', hl']; exact Nat.le_refl _)] at this
  have k : ∀ w < 21, ∀ w' < 21, w ≠ w' → fd' w ≠ fd' w' := by decide +kernel
  exact k w hw w' hw' hne this
/-- a list of parts is equal to itself -/
theorem eqTop_refl {T : List (Nat × Nat)} {call : CallT} {ps : List D} (h : ∀ p ∈ ps, eqO T call 6 p p = some true) : eqTop T call (.lv ps) (.lv ps) = some true := by
  unfold eqTop deq
  by_cases hs : (shp (.lv ps) && shp (.lv ps)) = true
  · rw [if_pos hs]
    have := SeqAt.canLay_of_shaped (Bool.and_eq_true_iff.mp hs).1
    dsimp only
    rw [eqv_refl this]
  · rw [if_neg hs]
    dsimp only
    rw [if_pos rfl]
    clear hs
    induction ps with
    | nil => rfl
    | cons p ps ih =>
      unfold eqZ
      rw [h p List.mem_cons_self]
      exact ih fun q hq => h q (List.mem_cons_of_mem _ hq)
end K99

namespace K99
open PySem PySem.Spec Mi
theorem cmpL_rng {vs : List Nat} {g : SemG} {f : SemE} {σ : Lo} {h : Hs} {n : Nat} {F : Nat → D} (hz : n < sizeLine)
    (step : ∀ j < n, ∀ acc, ∃ σ1, g (.d (.int (j : Nat))) (wipeL σ vs) (h ++ [.lst acc]) = some (σ1, h ++ [.lst acc]) ∧ f σ1 (h ++ [.lst acc]) = .ok (.d (F j)) (h ++ [.lst acc])) :
    cmpL vs g tYs f h.length (rngD 0 n) σ (h ++ [.lst []]) = some (h ++ [.lst ((List.range n).map F)]) := by
  have key : ∃ h', cmpL vs g tYs f h.length (rngD 0 n) σ (h ++ [.lst []]) = some h' ∧ h' = h ++ [.lst ((List.range n).map F)] := by
    have ln : (rngD 0 n).length = n := by unfold rngD; simp
    refine cmpL_ind (fun i h' => h' = h ++ [.lst ((List.range i).map F)]) (rngD 0 n) 0 _ (by simp) (fun j d h' hj p => ?_) (fun h' p => by rw [p, Nat.zero_add, ln])
    rw [Nat.zero_add] at p ⊢
    subst p
    have hjn : j < n := by
      have := (List.getElem?_eq_some_iff.mp hj).1
      rw [ln] at this
      exact this
    have hd : d = .int (j : Nat) := by
      unfold rngD at hj
      simp [hjn] at hj
      exact hj.symm
    subst hd
    obtain ⟨σ1, e1, e2⟩ := step j hjn ((List.range j).map F)
    refine ⟨σ1, _, true, _, e1, ap_tys, ?_⟩
    rw [if_pos rfl]
    refine ⟨_, _, _, e2, cmpAdd_d ?_, ?_⟩
    · simp; omega
    · rw [List.range_succ, List.map_append]; rfl
  obtain ⟨h', e, rfl⟩ := key
  exact e
def szs (ss : List Nat) : D := .lv (ss.map fun s => .int (s : Nat))
def prt (w : Nat) (ss : List Nat) : List D := (List.range (kx w).length).map fun j => partV ((kx w).getD j 0) (ss.getD j 1)
def Sz (ss : List Nat) : Prop := ss.length = 7 ∧ ∀ j, j < 7 → In12 (ss.getD j 1)
theorem kx_lt {w : Nat} (hw : w < 21) {j : Nat} (hj : j < (kx w).length) : (kx w).getD j 0 < 13 ∧ j < 7 := by
  have : ∀ w < 21, (kx w).length ≤ 7 ∧ ∀ j < 7, j < (kx w).length → (kx w).getD j 0 < 13 := by decide +kernel
  have h := this w hw
  exact ⟨h.2 j (by omega) hj, by omega⟩
theorem ks_at {w : Nat} (hw : w < 21) {j : Nat} (hj : j < (kx w).length) (h : Hs) : oIx (.d (.str (ks w))) (.d (.int (j : Nat))) h = some (.d (.str (kd ((kx w).getD j 0))), h) := by
  have : ∀ w < 21, ∀ j < 7, j < (kx w).length → (if (ks w).length ≤ sizeLine then (L2.atI (ks w).cps.toList (j : Nat)).map fun c => (⟨#[c]⟩ : Str) else none) = some (kd ((kx w).getD j 0)) := by decide +kernel
  have q := this w hw j (kx_lt hw hj).2 hj
  show (if (ks w).length ≤ sizeLine then (L2.atI (ks w).cps.toList (j : Nat)).map fun c => (Vl.d (.str ⟨#[c]⟩), h) else none) = _
  split at q
  · rename_i hl
    rw [if_pos hl]
    cases e : L2.atI (ks w).cps.toList (j : Nat) with
    | none => rw [e] at q; cases q
    | some c =>
      rw [e] at q
      simp only [Option.map_some, Option.some.injEq] at q ⊢
      rw [q]
  · cases q
theorem ks_len {w : Nat} (hw : w < 21) (h : Hs) : nLen [.d (.str (ks w))] h = some (.d (.int ((kx w).length : Nat)), h) := by
  have : ∀ w < 21, Nat.ble (ks w).length 100 = true ∧ (ks w).length = (kx w).length := by decide +kernel
  have q := this w hw
  show (if (ks w).length ≤ sizeLine then some (Vl.d (.int ((ks w).length : Nat)), h) else none) = _
  have := sizeLine_eq
  rw [if_pos (by have := Nat.le_of_ble_eq_true q.1; omega), q.2]
theorem sz_at {ss : List Nat} (h : Sz ss) {j : Nat} (hj : j < 7) (hh : Hs) : oIx (.d (szs ss)) (.d (.int (j : Nat))) hh = some (.d (.int (ss.getD j 1 : Nat)), hh) := by
  unfold szs
  rw [o_ixL, atI_nat, List.getElem?_map]
  have : j < ss.length := by rw [h.1]; exact hj
  rw [List.getElem?_eq_getElem this]
  simp [List.getD_eq_getElem?_getD, List.getElem?_eq_getElem this]
theorem prt_len (w : Nat) (ss : List Nat) : (prt w ss).length = (kx w).length := by unfold prt; simp
theorem prt_ok {w : Nat} (hw : w < 21) (ss : List Nat) : OkP w (prt w ss) := by
  refine ⟨prt_len w ss, fun e p hp => ?_⟩
  subst e
  unfold prt at hp
  obtain ⟨j, hj, rfl⟩ := List.mem_map.mp hp
  have hj' : j < 2 := List.mem_range.mp hj
  match j, hj' with
  | 0, _ => exact tup12 (.inl rfl)
  | 1, _ => exact tup12 (.inr rfl)
theorem lt_line {n : Nat} (h : n < 1000) : n < sizeLine := by have := sizeLine_eq; omega
/-- the comprehension that makes the parts -/
theorem c_parts {w : Nat} (hw : w < 21) {ss : List Nat} (hs : Sz ss) (o : O) {σ : Lo} {n : Nat} (hp : ∀ {k s : Nat}, k < 13 → In12 s → ∀ o p : O, callF defs n 67 [.d (.str (kd k)), .d (.int (s : Nat))] [o, p] = .ok (.d (partV k s)) [o, p]) {vs : List Nat} {f : SemE} {g : SemG}
    (hf : ∀ j < (kx w).length, ∀ acc, ∃ σ1, g (.d (.int (j : Nat))) (wipeL σ vs) [o, .lst acc] = some (σ1, [o, .lst acc]) ∧ f σ1 [o, .lst acc] = callF defs n 67 [.d (.str (kd ((kx w).getD j 0))), .d (.int (ss.getD j 1 : Nat))] [o, .lst acc]) :
    cmpL vs g tYs f 1 (rngD 0 (kx w).length) σ [o, .lst []] = some [o, .lst (prt w ss)] := by
  have hl : (kx w).length < 1000 := by
    by_cases z : (kx w).length < 1000
    · exact z
    · have := (kx_lt hw (j := 8) (by omega)).2; omega
  refine cmpL_rng (h := [o]) (F := fun j => partV ((kx w).getD j 0) (ss.getD j 1)) (lt_line hl) fun j hj acc => ?_
  obtain ⟨σ1, e1, e2⟩ := hf j hj acc
  have k := kx_lt hw hj
  exact ⟨σ1, e1, e2.trans (hp k.1 (hs.2 j k.2) o (.lst acc))⟩
end K99

namespace K99
open PySem PySem.Spec Mi
theorem Eqs.of {call : CallT} : ∀ {ps qs : List D} {B : Nat → Bool}, ps.length = qs.length → (∀ (i : Nat) x y, ps[i]? = some x → qs[i]? = some y → eqD2 eqTab call x y = some (B i) ∧ (B i = false → same x y = false)) → Eqs call ps qs ((List.range ps.length).map B)
  | [], [], _, _, _ => .nil
  | x :: ps, y :: qs, B, hl, h => by
    rw [List.length_cons, List.range_succ_eq_map, List.map_cons, List.map_map]
    obtain ⟨h1, h2⟩ := h 0 x y rfl rfl
    exact .cons h1 h2 (Eqs.of (B := B ∘ Nat.succ) (by simpa using hl) fun i a b ha hb => h (i + 1) a b ha hb)
theorem prt_get {w : Nat} {ss : List Nat} {i : Nat} {x : D} (h : (prt w ss)[i]? = some x) : i < (kx w).length ∧ x = partV ((kx w).getD i 0) (ss.getD i 1) := by
  have hi := (List.getElem?_eq_some_iff.mp h).1
  rw [prt_len] at hi
  refine ⟨hi, ?_⟩
  unfold prt at h
  simp only [List.getElem?_map, List.getElem?_range hi, Option.map_some, Option.some.injEq] at h
  exact h.symm
theorem prt_at {w : Nat} {ss : List Nat} {i : Nat} (hi : i < (kx w).length) : (prt w ss)[i]? = some (partV ((kx w).getD i 0) (ss.getD i 1)) := by
  unfold prt
  simp only [List.getElem?_map, List.getElem?_range hi, Option.map_some]
section
variable {w : Nat} {ss os : List Nat}
/-- the same parts: equal -/
theorem eqs_self (hw : w < 21) (hs : Sz ss) : ∃ bs, Eqs (callF defs 17) (prt w ss) (prt w ss) bs ∧ bs.all id = true := by
  refine ⟨_, Eqs.of (B := fun _ => true) rfl fun i x y hx hy => ?_, ?_⟩
  · obtain ⟨hi, rfl⟩ := prt_get hx
    obtain ⟨_, rfl⟩ := prt_get hy
    have k := kx_lt hw hi
    rw [q17 k.1 (hs.2 i k.2) (hs.2 i k.2), eqK_self]
    exact ⟨rfl, fun z => nomatch z⟩
  · simp
/-- one part changed -/
theorem eqs_set (hw : w < 21) (hs : Sz ss) (ho : Sz os) {j : Nat} (hj : j < (kx w).length) (hne : eqK ((kx w).getD j 0) (os.getD j 1) (ss.getD j 1) = false) :
    (∃ bs, Eqs (callF defs 17) (prt w ss) ((prt w ss).set j (partV ((kx w).getD j 0) (os.getD j 1))) bs ∧ bs.all id = false) ∧ ∃ bs, Eqs (callF defs 17) ((prt w ss).set j (partV ((kx w).getD j 0) (os.getD j 1))) (prt w ss) bs ∧ bs.all id = false := by
  have get : ∀ (i : Nat) y, ((prt w ss).set j (partV ((kx w).getD j 0) (os.getD j 1)))[i]? = some y → i < (kx w).length ∧ y = if i = j then partV ((kx w).getD j 0) (os.getD j 1) else partV ((kx w).getD i 0) (ss.getD i 1) := fun i y h => by
    have hi := (List.getElem?_eq_some_iff.mp h).1
    rw [List.length_set, prt_len] at hi
    refine ⟨hi, ?_⟩
    by_cases e : i = j
    · subst e
      rw [List.getElem?_set_self (by rw [prt_len]; exact hi)] at h
      rw [if_pos rfl]; exact (Option.some.inj h).symm
    · rw [List.getElem?_set_ne (Ne.symm e)] at h
      rw [if_neg e]; exact (prt_get h).2
  have fin : ∀ bs : List Bool, bs = (List.range (kx w).length).map (fun i => if i = j then false else true) → bs.all id = false := fun bs e => by
    subst e
    rw [Bool.eq_false_iff]
    intro z
    have := List.all_eq_true.mp z false (List.mem_map.mpr ⟨j, List.mem_range.mpr hj, if_pos rfl⟩)
    cases this
  refine ⟨⟨_, Eqs.of (B := fun i => if i = j then false else true) (by rw [List.length_set]) fun i x y hx hy => ?_, fin _ (by rw [prt_len])⟩, ⟨_, Eqs.of (B := fun i => if i = j then false else true) (by rw [List.length_set]) fun i y x hy hx => ?_, fin _ (by rw [List.length_set, prt_len])⟩⟩
  · obtain ⟨hi, rfl⟩ := prt_get hx
    obtain ⟨_, rfl⟩ := get i y hy
    have k := kx_lt hw hi
    by_cases e : i = j
    · subst e
      rw [if_pos rfl, if_pos rfl, q17 k.1 (hs.2 i k.2) (ho.2 i k.2), s3 k.1 (hs.2 i k.2) (ho.2 i k.2), eqK_comm, hne]
      exact ⟨rfl, fun _ => rfl⟩
    · rw [if_neg e, if_neg e, q17 k.1 (hs.2 i k.2) (hs.2 i k.2), eqK_self]
      exact ⟨rfl, fun z => nomatch z⟩
  · obtain ⟨hi, rfl⟩ := prt_get hx
    obtain ⟨_, rfl⟩ := get i y hy
    have k := kx_lt hw hi
    by_cases e : i = j
    · subst e
      rw [if_pos rfl, if_pos rfl, q17 k.1 (ho.2 i k.2) (hs.2 i k.2), s3 k.1 (ho.2 i k.2) (hs.2 i k.2), hne]
      exact ⟨rfl, fun _ => rfl⟩
    · rw [if_neg e, if_neg e, q17 k.1 (hs.2 i k.2) (hs.2 i k.2), eqK_self]
      exact ⟨rfl, fun z => nomatch z⟩
theorem refl_prt (hw : w < 21) (hs : Sz ss) : ∀ p ∈ prt w ss, eqO eqTab (callF defs 18) 6 p p = some true := fun p hp => by
  obtain ⟨i, hi⟩ := List.getElem?_of_mem hp
  obtain ⟨h1, rfl⟩ := prt_get hi
  have k := kx_lt hw h1
  exact r18 k.1 (hs.2 i k.2)
theorem refl_set (hw : w < 21) (hs : Sz ss) (ho : Sz os) {j : Nat} (hj : j < (kx w).length) : ∀ p ∈ (prt w ss).set j (partV ((kx w).getD j 0) (os.getD j 1)), eqO eqTab (callF defs 18) 6 p p = some true := fun p hp => by
  rcases List.mem_or_eq_of_mem_set hp with hp | rfl
  · exact refl_prt hw hs p hp
  · have k := kx_lt hw hj
    exact r18 k.1 (ho.2 j k.2)
theorem set_ok (hw : w < 21) {j : Nat} (hj : j < (kx w).length) : OkP w ((prt w ss).set j (partV ((kx w).getD j 0) (os.getD j 1))) := by
  refine ⟨by rw [List.length_set, prt_len], fun e p hp => ?_⟩
  rcases List.mem_or_eq_of_mem_set hp with hp | rfl
  · exact (prt_ok hw ss).2 e p hp
  · subst e
    have hj' : j < 2 := hj
    match j, hj' with
    | 0, _ => exact tup12 (.inl rfl)
    | 1, _ => exact tup12 (.inr rfl)
/-- one turn of the loop over the parts -/
theorem l_rr (hw : w < 21) (hs : Sz ss) (ho : Sz os) (o : O) {j : Nat} (hj : j < (kx w).length) (A B : Option Vl) :
    ∃ r, b__law_result_right_1 (callF defs 18) [some (.d (.int (w : Nat))), some (.d (.str (ks w))), some (.d (szs ss)), some (.d (szs os)), some (.d (.lv (prt w ss))), some (.d (mk w (prt w ss))), some (.d (mk w (prt w ss))), some (.d (.int (j : Nat))), A, B] [o] = r ∧
      ∃ (h2 : Hs) (B' : Option Vl), (∃ f, (f = .nx ∨ f = .cnt) ∧ r = .ok f [some (.d (.int (w : Nat))), some (.d (.str (ks w))), some (.d (szs ss)), some (.d (szs os)), some (.d (.lv (prt w ss))), some (.d (mk w (prt w ss))), some (.d (mk w (prt w ss))), some (.d (.int (j : Nat))), some (.r 1), B'] (o :: h2)) := by
  have k := kx_lt hw hj
  have x1 := fun h => ks_at hw hj h
  have x2 := fun h => sz_at ho k.2 h
  have x3 := p18 k.1 (ho.2 j k.2) o (.lst (prt w ss))
  have hjp : j < (prt w ss).length := by rw [prt_len]; exact hj
  have x4 : L2.ixN (prt w ss).length (j : Int) = some j := by
    unfold L2.ixN
    rw [if_pos (by omega), if_pos (by omega)]; rfl
  have x5 : L2.atI ((prt w ss).set j (partV ((kx w).getD j 0) (os.getD j 1))) (j : Int) = some (partV ((kx w).getD j 0) (os.getD j 1)) := by
    rw [atI_nat, List.getElem?_set_self hjp]
  have x6 : L2.atI (prt w ss) (j : Int) = some (partV ((kx w).getD j 0) (ss.getD j 1)) := by rw [atI_nat, prt_at hj]
  have nl : ∀ h : Hs, nListM [.d (.lv (prt w ss))] h = some (.r h.length, h ++ [.lst (prt w ss)]) := fun h => rfl
  generalize hp' : partV ((kx w).getD j 0) (os.getD j 1) = p' at *
  have rI : ∀ (xs : List D) (i : Int), oIx (.r 1) (.d (.int i)) [o, .lst xs] = (L2.atI xs i).map fun d => (.d d, [o, .lst xs]) := fun xs i => o_ixR rfl i
  have q := q18 k.1 (ho.2 j k.2) (hs.2 j k.2)
  rw [hp'] at q
  cases hb : eqK ((kx w).getD j 0) (os.getD j 1) (ss.getD j 1) with
  | true =>
    rw [hb] at q
    refine ⟨_, rfl, [.lst ((prt w ss).set j p')], B, .cnt, .inr rfl, ?_⟩
    generalize (kx w).getD j 0 = kk at *
    generalize os.getD j 1 = oo at *
    generalize ss.getD j 1 = sv at *
    simp [nl, x1, x2, x3, x4, x5, x6, rI, o_eqO _ q]
  | false =>
    rw [hb] at q
    obtain ⟨⟨b1, e1, z1⟩, ⟨b2, e2, z2⟩⟩ := eqs_set hw hs ho hj hb
    rw [hp'] at e1 e2
    have m1 := eqD_mk 17 hw e1 (prt_len w ss)
    have m2 := eqD_mk 17 hw e2 (by rw [List.length_set, prt_len])
    rw [z1] at m1
    rw [z2] at m2
    have ok := set_ok (ss := ss) (os := os) hw hj
    rw [hp'] at ok
    have y1 := e_made 15 [o, .lst ((prt w ss).set j p')] hw ok (.r 1) rfl
    have y2 := e_told 16 [o, .lst ((prt w ss).set j p')] hw ok.1
    have rs := refl_set hw hs ho hj
    rw [hp'] at rs
    have y3 := o_neO (x := .d (.lv ((prt w ss).set j p'))) (y := .r 1) [o, .lst ((prt w ss).set j p')] rfl rfl (eqTop_refl rs)
    refine ⟨_, rfl, [.lst ((prt w ss).set j p')], some (.d (mk w ((prt w ss).set j p'))), .nx, .inl rfl, ?_⟩
    clear hb
    generalize (kx w).getD j 0 = kk at *
    generalize os.getD j 1 = oo at *
    generalize ss.getD j 1 = sv at *
    simp [nl, x1, x2, x3, x4, x5, x6, rI, o_eqO _ q, y1, y2, y3, o_eqO _ m1, o_eqO _ m2]
end
end K99

namespace K99
open PySem PySem.Spec Mi
section
variable {w : Nat} {ss os : List Nat}
theorem rng_at {n j : Nat} {d : D} (h : (rngD 0 n)[j]? = some d) : j < n ∧ d = .int (j : Nat) := by
  have ln : (rngD 0 n).length = n := by unfold rngD; simp
  have hj := (List.getElem?_eq_some_iff.mp h).1
  rw [ln] at hj
  refine ⟨hj, ?_⟩
  unfold rngD at h
  simp [hj] at h
  exact h.symm
abbrev sRR (w : Nat) (ss os : List Nat) (a b c : Option Vl) : Lo := [some (.d (.int (w : Nat))), some (.d (.str (ks w))), some (.d (szs ss)), some (.d (szs os)), some (.d (.lv (prt w ss))), some (.d (mk w (prt w ss))), some (.d (mk w (prt w ss))), a, b, c]
theorem loop_rr (hw : w < 21) (hs : Sz ss) (ho : Sz os) (o : O) : ∃ σ', forL (gNm 7) (b__law_result_right_1 (callF defs 18)) (rngD 0 (kx w).length) (sRR w ss os none none none) [o] = .ok .nx σ' [o] := by
  refine for_ind (R := fun r => ∃ σ', r = .ok .nx σ' [o]) (fun i σ h => h = [o] ∧ ∃ a b c, σ = sRR w ss os a b c) ⟨rfl, none, none, none, rfl⟩ (fun j d σ h hj p => ?_) (fun σ h p => ⟨σ, by rw [p.1]⟩)
  obtain ⟨rfl, a, b, c, rfl⟩ := p
  obtain ⟨hjn, rfl⟩ := rng_at hj
  refine ⟨_, _, rfl, ?_⟩
  obtain ⟨r, e, h2, B', f, hf, e2⟩ := l_rr hw hs ho o hjn b c
  have e3 : b__law_result_right_1 (callF defs 18) ((sRR w ss os a b c).set 7 (some (.d (.int (j : Nat))))) [o] = r := e
  rw [e3, e2]
  have k : ∀ σ2 : Lo, σ2 = [some (.d (.int (w : Nat))), some (.d (.str (ks w))), some (.d (szs ss)), some (.d (szs os)), some (.d (.lv (prt w ss))), some (.d (mk w (prt w ss))), some (.d (mk w (prt w ss))), some (.d (.int (j : Nat))), some (.r 1), B'] → (o :: h2).take 1 = [o] ∧ ∃ a b c, clr 1 σ2 = sRR w ss os a b c := fun σ2 q => by
    subst q
    exact ⟨rfl, _, _, _, rfl⟩
  rcases hf with rfl | rfl
  · exact k _ rfl
  · exact k _ rfl
theorem e_rr (hw : w < 21) (hs : Sz ss) (ho : Sz os) (o : O) : callF defs 19 72 [.d (.int (w : Nat)), .d (.str (ks w)), .d (szs ss), .d (szs os)] [o] = .ok (.d (.bl true)) [o] := by
  rw [callF_at (md := ⟨4, 10, false, m__law_result_right⟩) rfl rfl]
  have hl : (kx w).length < 16777216 := by
    by_cases z : (kx w).length < 1000
    · omega
    · have := (kx_lt hw (j := 8) (by omega)).2; omega
  have x1 := fun h => ks_len hw h
  have c := c_parts hw hs o (n := 18) p18 (σ := [some (.d (.int (w : Nat))), some (.d (.str (ks w))), some (.d (szs ss)), some (.d (szs os)), none, none, none, none, none, none]) (vs := [7]) (g := gNm 7)
    (f := eCl (callF defs 18) 67 [] (aCons (eBin oIx (eVar 1) (eVar 7)) (aCons (eBin oIx (eVar 2) (eVar 7)) aNil))) (fun j hj acc => ⟨_, rfl, by
      have x1 := fun h => ks_at hw hj h
      have x2 := fun h => sz_at hs (kx_lt hw hj).2 h
      generalize (kx w).getD j 0 = kk at *
      generalize ss.getD j 1 = sv at *
      simp [wipeL, x1, x2]⟩)
  have m := e_made 15 [o] hw (prt_ok hw ss) (.d (.lv (prt w ss))) rfl
  have t := e_told 16 [o] hw (prt_len w ss)
  have y := o_neO (x := .d (.lv (prt w ss))) (y := .d (.lv (prt w ss))) [o] rfl rfl (eqTop_refl (refl_prt hw hs))
  obtain ⟨bs, e1, z1⟩ := eqs_self hw hs
  have q := eqD_mk 17 hw e1 (prt_len w ss)
  rw [z1] at q
  obtain ⟨σ', lp⟩ := loop_rr hw hs ho o
  simp [startL, x1, rngR_nat hl, c, lcEnd, m, t, y, o_eqO _ q, lp]
end
end K99

namespace K99
open PySem PySem.Spec Mi
theorem hTake : defs[65]? = some ⟨2, 5, false, takeB⟩ := rfl
theorem e_tk (n k : Nat) (hk : k < 1000000) {src : O} (hs : Src k src) (M : Nat) (hM : 0 < M) (hM2 : M < 2 ^ 180) (t : Hs) : ∃ v : Nat, v < M ∧ ∃ src', Src (k + 1) src' ∧ callF defs (n + 1) 65 [.r 0, .d (.int (M : Int))] (src :: t) = .ok (.d (.int (v : Int))) (src' :: t) := e_take hTake n k hk hs M hM hM2 t
theorem nats_of {P : Nat → Prop} : ∀ {ys : List D}, (∀ y ∈ ys, ∃ s : Nat, y = .int (s : Nat) ∧ P s) → ∃ w : List Nat, ys = w.map (fun s => D.int (s : Nat)) ∧ (∀ i ∈ w, P i) ∧ w.length = ys.length
  | [], _ => ⟨[], rfl, fun i hi => (by cases hi), rfl⟩
  | y :: ys, h => by
    obtain ⟨i, rfl, pi⟩ := h y List.mem_cons_self
    obtain ⟨w, rfl, pw, lw⟩ := nats_of fun z hz => h z (List.mem_cons_of_mem _ hz)
    refine ⟨i :: w, rfl, fun j hj => ?_, by simp⟩
    rcases List.mem_cons.mp hj with rfl | hj
    · exact pi
    · exact pw j hj
theorem sz_of {ss : List Nat} (h1 : ss.length = 7) (h2 : ∀ s ∈ ss, In12 s) : Sz ss := ⟨h1, fun j hj => by
  have hj' : j < ss.length := by rw [h1]; exact hj
  rw [List.getD_eq_getElem?_getD, List.getElem?_eq_getElem hj']
  exact h2 _ (List.getElem_mem hj')⟩
theorem rngD_len (n : Nat) : (rngD 0 n).length = n := by unfold rngD; simp
theorem rngD_mem {n : Nat} {d : D} (h : d ∈ rngD 0 n) : ∃ j : Nat, j < n ∧ d = .int (j : Nat) := by
  obtain ⟨i, hi⟩ := List.getElem?_of_mem h
  exact ⟨i, rng_at hi⟩
def kinds : D := .lv ((List.range 21).map fun w => .str (ks w))
theorem kinds_at {w : Nat} (hw : w < 21) (h : Hs) : oIx (.d kinds) (.d (.int (w : Nat))) h = some (.d (.str (ks w)), h) := by
  unfold kinds
  rw [o_ixL, atI_nat, List.getElem?_map, List.getElem?_range hw]; rfl
abbrev sL (sc bef : D) (a4 a5 a6 a7 a8 a9 a10 a11 a12 a13 : Option Vl) : Lo := [some (.d sc), some (.r 0), some (.d kinds), some (.d bef), a4, a5, a6, a7, a8, a9, a10, a11, a12, a13, none, none]
/-- what came ahead: nothing, or a result of another class -/
def Bef (w : Nat) (bef : D) : Prop := bef = .non ∨ ∃ w' ss, w' < 21 ∧ w' ≠ w ∧ bef = mk w' (prt w' ss)
theorem c_sizes {k : Nat} (hk : k + 7 < 1000000) {src : O} (hs : Src k src) {σ : Lo} (hσ : ∃ a b r, σ = a :: some (.r 0) :: r ∧ b = r) (hl : σ.length = 16) :
    ∃ ss src', Sz ss ∧ Src (k + 7) src' ∧ cmpL [14] (gNm 14) tYs (eBin oAdd (Mi.eK (.int 1)) (eCl (callF defs 19) 65 [] (aCons (eVar 1) (aCons (Mi.eK (.int 12)) aNil)))) 1 (rngD 0 7) σ [src, .lst []] = some [src', .lst (ss.map fun s => .int (s : Nat))] := by
  obtain ⟨a, b, r, rfl, _⟩ := hσ
  obtain ⟨ys, src', y1, y2, s', e⟩ := cmpL_draw (vs := [14]) (g := gNm 14) (f := eBin oAdd (Mi.eK (.int 1)) (eCl (callF defs 19) 65 [] (aCons (eVar 1) (aCons (Mi.eK (.int 12)) aNil)))) (σ := a :: some (.r 0) :: r) 1 (k + 7) (fun y => ∃ s : Nat, y = .int (s : Nat) ∧ In12 s) [] (rngD 0 7) k src [] (fun d hd k' src h' hk' hs' => by
    obtain ⟨v, hv, src', s', e⟩ := e_tk 18 k' (by omega) hs' 12 (by decide) (by decide) h'
    refine ⟨_, .int ((v + 1 : Nat) : Nat), src', fun h => rfl, ⟨v + 1, rfl, by unfold In12; omega⟩, s', ?_⟩
    have e' : callF defs 19 65 [.r 0, .d (.int 12)] (src :: h') = .ok (.d (.int (v : Int))) (src' :: h') := e
    simp [wipeL, e']
    omega) hs (by rw [rngD_len]; omega) (by rw [rngD_len]; exact lt_line (by decide))
  rw [rngD_len] at y1 s'
  obtain ⟨ss, rfl, h1, h2⟩ := nats_of y2
  exact ⟨ss, src', sz_of (h2.trans y1) h1, s'.up (by omega), by simpa using e⟩
end K99

namespace K99
open PySem PySem.Spec Mi
theorem c_others {k : Nat} (hk : k + 7 < 1000000) {src : O} (hs : Src k src) {ss : List Nat} (hz : Sz ss) {σ : Lo} {a b c d e : Option Vl} {r : Lo} (hσ : σ = a :: some (.r 0) :: b :: c :: d :: some (.d (szs ss)) :: r) (hl : r.length = 10) :
    ∃ os src', Sz os ∧ Src (k + 7) src' ∧ cmpL [14] (gNm 14) tYs (eBin oAdd (Mi.eK (.int 1)) (eBin oMod (eN nInt (aCons (eBin oAdd (eBin oIx (eVar 5) (eVar 14)) (eCl (callF defs 19) 65 [] (aCons (eVar 1) (aCons (Mi.eK (.int 11)) aNil)))) aNil)) (Mi.eK (.int 12)))) 1 (rngD 0 7) σ [src, .lst []] = some [src', .lst (os.map fun s => .int (s : Nat))] := by
  subst hσ
  obtain ⟨ys, src', y1, y2, s', e⟩ := cmpL_draw (vs := [14]) (g := gNm 14) (f := eBin oAdd (Mi.eK (.int 1)) (eBin oMod (eN nInt (aCons (eBin oAdd (eBin oIx (eVar 5) (eVar 14)) (eCl (callF defs 19) 65 [] (aCons (eVar 1) (aCons (Mi.eK (.int 11)) aNil)))) aNil)) (Mi.eK (.int 12)))) (σ := a :: some (.r 0) :: b :: c :: d :: some (.d (szs ss)) :: r) 1 (k + 7) (fun y => ∃ s : Nat, y = .int (s : Nat) ∧ In12 s) [] (rngD 0 7) k src [] (fun d' hd k' src h' hk' hs' => by
    obtain ⟨j, hj, rfl⟩ := rngD_mem hd
    obtain ⟨v, hv, src', s', e⟩ := e_tk 18 k' (by omega) hs' 11 (by decide) (by decide) h'
    have x := fun h => sz_at hz hj h
    have hv2 := hz.2 j hj
    generalize ss.getD j 1 = sv at *
    refine ⟨_, .int (((sv + v) % 12 + 1 : Nat) : Nat), src', fun h => rfl, ⟨(sv + v) % 12 + 1, rfl, by unfold In12; omega⟩, s', ?_⟩
    have e' : callF defs 19 65 [.r 0, .d (.int 11)] (src :: h') = .ok (.d (.int (v : Int))) (src' :: h') := e
    match r, hl with
    | [r0, r1, r2, r3, r4, r5, r6, r7, r8, r9], _ =>
      simp [wipeL, e', x]
      omega) hs (by rw [rngD_len]; omega) (by rw [rngD_len]; exact lt_line (by decide))
  rw [rngD_len] at y1 s'
  obtain ⟨ss, rfl, h1, h2⟩ := nats_of y2
  exact ⟨ss, src', sz_of (h2.trans y1) h1, s'.up (by omega), by simpa using e⟩
theorem kl {w : Nat} (hw : w < 21) : (kx w).length < 16777216 := by
  by_cases z : (kx w).length < 1000
  · omega
  · have := (kx_lt hw (j := 8) (by omega)).2; omega
theorem isNon_mk (w : Nat) (ps : List D) : isNon (.d (mk w ps)) = false := rfl
/-- the first loop's turn -/
theorem l_law1 {w : Nat} (hw : w < 21) {k : Nat} (hk : k + 14 < 1000000) {src : O} (hs : Src k src) (sc bef : D) (hb : Bef w bef) (a5 a6 a7 a8 a9 a10 a11 a12 a13 : Option Vl) :
    ∃ src' b5 b6 ss, Src (k + 14) src' ∧ b_law_1 (callF defs 19) (sL sc bef (some (.d (.int (w : Nat)))) a5 a6 a7 a8 a9 a10 a11 a12 a13) [src] = .ok .nx (sL sc (mk w (prt w ss)) (some (.d (.int (w : Nat)))) (some (.d b5)) (some (.d b6)) (some (.d (mk w (prt w ss)))) a8 a9 a10 a11 a12 a13) [src'] := by
  obtain ⟨ss, src1, z1, s1, c1⟩ := c_sizes (by omega) hs (σ := sL sc bef (some (.d (.int (w : Nat)))) a5 a6 a7 a8 a9 a10 a11 a12 a13) ⟨_, _, _, rfl, rfl⟩ rfl
  obtain ⟨os, src2, z2, s2, c2⟩ := c_others (by omega) s1 z1 (σ := sL sc bef (some (.d (.int (w : Nat)))) (some (.d (szs ss))) a6 a7 a8 a9 a10 a11 a12 a13) (e := none) rfl rfl
  have r := e_rr hw z1 z2 src2
  have x0 := fun h => kinds_at hw h
  have x1 := fun h => ks_len hw h
  have c3 := c_parts hw z1 src2 (n := 19) p19 (σ := sL sc bef (some (.d (.int (w : Nat)))) (some (.d (szs ss))) (some (.d (szs os))) a7 a8 a9 a10 a11 a12 a13) (vs := [14]) (g := gNm 14)
    (f := eCl (callF defs 19) 67 [] (aCons (eBin oIx (eBin oIx (eVar 2) (eVar 4)) (eVar 14)) (aCons (eBin oIx (eVar 5) (eVar 14)) aNil))) (fun j hj acc => ⟨_, rfl, by
      have y1 := fun h => ks_at hw hj h
      have y2 := fun h => sz_at z1 (kx_lt hw hj).2 h
      generalize (kx w).getD j 0 = kk at *
      generalize ss.getD j 1 = sv at *
      simp [wipeL, x0, y1, y2]⟩)
  have m := e_made 16 [src2] hw (prt_ok hw ss) (.d (.lv (prt w ss))) rfl
  have k7 : rngR [.d (.int 7)] [src] = .ok (rngD 0 7) [src] := rngR_nat (k := 7) (by decide)
  have k7' : rngR [.d (.int 7)] [src1] = .ok (rngD 0 7) [src1] := rngR_nat (k := 7) (by decide)
  have ks' : D.lv (ss.map fun s => .int (s : Nat)) = szs ss := rfl
  have ko' : D.lv (os.map fun s => .int (s : Nat)) = szs os := rfl
  refine ⟨src2, szs ss, szs os, ss, s2, ?_⟩
  rcases hb with rfl | ⟨w', ss', hw', hne, rfl⟩
  · simp [k7, c1, lcEnd, ks', k7', c2, ko', x0, r, x1, rngR_nat (kl hw), c3, m]
  · have q1 := eqD_un 18 hw hw' (Ne.symm hne) (prt_len w ss) (prt_len w' ss')
    have q2 := eqD_un 18 hw' hw hne (prt_len w' ss') (prt_len w ss)
    simp [k7, c1, lcEnd, ks', k7', c2, ko', x0, r, x1, rngR_nat (kl hw), c3, m, isNon_mk, o_eqO _ q1, o_eqO _ q2]
end K99

namespace K99
open PySem PySem.Spec Mi
theorem cmpL_lst {vs : List Nat} {g : SemG} {f : SemE} {σ : Lo} {h : Hs} {ds : List D} {F : Nat → D} (hz : ds.length < sizeLine)
    (step : ∀ j d, ds[j]? = some d → ∀ acc, ∃ σ1, g (.d d) (wipeL σ vs) (h ++ [.lst acc]) = some (σ1, h ++ [.lst acc]) ∧ f σ1 (h ++ [.lst acc]) = .ok (.d (F j)) (h ++ [.lst acc])) :
    cmpL vs g tYs f h.length ds σ (h ++ [.lst []]) = some (h ++ [.lst ((List.range ds.length).map F)]) := by
  have key : ∃ h', cmpL vs g tYs f h.length ds σ (h ++ [.lst []]) = some h' ∧ h' = h ++ [.lst ((List.range ds.length).map F)] := by
    refine cmpL_ind (fun i h' => h' = h ++ [.lst ((List.range i).map F)]) ds 0 _ (by simp) (fun j d h' hj p => ?_) (fun h' p => by rw [p, Nat.zero_add])
    rw [Nat.zero_add] at p ⊢
    subst p
    have hjn := (List.getElem?_eq_some_iff.mp hj).1
    obtain ⟨σ1, e1, e2⟩ := step j d hj ((List.range j).map F)
    refine ⟨σ1, _, true, _, e1, ap_tys, ?_⟩
    rw [if_pos rfl]
    refine ⟨_, _, _, e2, cmpAdd_d ?_, ?_⟩
    · simp; omega
    · rw [List.range_succ, List.map_append]; rfl
  obtain ⟨h', e, rfl⟩ := key
  exact e
theorem str_ks {w : Nat} (hw : w < 21) : strD (ks w) = (kx w).map fun k => .str (kd k) := by
  have : ∀ w < 21, (ks w).cps.toList.map (fun c => (⟨#[c]⟩ : Str)) = (kx w).map kd := by decide +kernel
  have q := congrArg (fun l => l.map D.str) (this w hw)
  simp only [List.map_map] at q
  exact q
/-- seven times the same size -/
def rep7 (s : Nat) : List Nat := List.replicate 7 s
theorem rep7_sz {s : Nat} (h : In12 s) : Sz (rep7 s) := sz_of (by simp [rep7]) fun x hx => by rw [List.eq_of_mem_replicate hx]; exact h
theorem rep7_at {s j : Nat} (h : j < 7) : (rep7 s).getD j 1 = s := by
  unfold rep7
  rw [List.getD_eq_getElem?_getD, List.getElem?_replicate, if_pos h]; rfl
theorem c_kinds {w s : Nat} (hw : w < 21) (hs : In12 s) (o : O) {σ : Lo} (hσ : ∃ r, σ[11]? = some (some (.d (.int (s : Nat)))) ∧ r = σ) (hl : σ.length = 16) :
    cmpL [15] (gNm 15) tYs (eCl (callF defs 19) 67 [] (aCons (eVar 15) (aCons (eVar 11) aNil))) 1 (strD (ks w)) σ [o, .lst []] = some [o, .lst (prt w (rep7 s))] := by
  obtain ⟨_, h11, _⟩ := hσ
  have hk := kl hw
  rw [str_ks hw]
  have e := cmpL_lst (vs := [15]) (g := gNm 15) (f := eCl (callF defs 19) 67 [] (aCons (eVar 15) (aCons (eVar 11) aNil))) (σ := σ) (h := [o]) (ds := (kx w).map fun k => .str (kd k)) (F := fun j => partV ((kx w).getD j 0) ((rep7 s).getD j 1)) (by
    rw [List.length_map]
    have := sizeLine_eq
    omega) fun j d hj acc => by
      have hjl : j < (kx w).length := by
        have := (List.getElem?_eq_some_iff.mp hj).1
        simpa using this
      have k := kx_lt hw hjl
      rw [List.getElem?_map, List.getElem?_eq_getElem hjl] at hj
      have hd : d = .str (kd ((kx w).getD j 0)) := by
        rw [List.getD_eq_getElem?_getD, List.getElem?_eq_getElem hjl]
        exact (Option.some.inj hj).symm
      subst hd
      have p := p19 k.1 hs o (.lst acc)
      refine ⟨_, rfl, ?_⟩
      rw [rep7_at k.2]
      generalize (kx w).getD j 0 = kk at *
      match σ, hl with
      | [s0, s1, s2, s3, s4, s5, s6, s7, s8, s9, s10, s11, s12, s13, s14, s15], _ =>
        simp at h11
        subst h11
        simp [wipeL, p]
  rw [List.length_map] at e
  exact e
theorem kinds_len (h : Hs) : nLen [.d kinds] h = some (.d (.int 21), h) := rfl
/-- the second loop's turn -/
theorem l_law2 {k : Nat} (hk : k + 3 < 1000000) {src : O} (hs : Src k src) (sc bef : D) (a4 a5 a6 a7 a8 a9 a10 a11 a12 a13 : Option Vl) :
    ∃ src' b8 b9 b11 b12 b13, Src (k + 3) src' ∧ b_law_2 (callF defs 19) (sL sc bef a4 a5 a6 a7 a8 a9 a10 a11 a12 a13) [src] = .ok .nx (sL sc bef a4 a5 a6 a7 (some (.d b8)) (some (.d b9)) a10 (some (.d b11)) (some (.d b12)) (some (.d b13))) [src'] := by
  obtain ⟨u, hu, src1, s1, e1⟩ := e_tk 18 k (by omega) hs 21 (by decide) (by decide) []
  obtain ⟨v, hv, src2, s2, e2⟩ := e_tk 18 (k + 1) (by omega) s1 20 (by decide) (by decide) []
  obtain ⟨t, ht, src3, s3, e3⟩ := e_tk 18 (k + 2) (by omega) s2 12 (by decide) (by decide) []
  have hw' : (u + 1 + v) % 21 < 21 := Nat.mod_lt _ (by decide)
  have hne : u ≠ (u + 1 + v) % 21 := by omega
  have ev : ((u : Int) + 1 + (v : Int)) % 21 = (((u + 1 + v) % 21 : Nat) : Int) := by omega
  have et : (1 : Int) + (t : Int) = ((t + 1 : Nat) : Int) := by omega
  have ht' : In12 (t + 1) := by unfold In12; omega
  generalize (u + 1 + v) % 21 = u2 at *
  generalize t + 1 = sz at *
  have x1 := fun h => kinds_at hu h
  have x2 := fun h => kinds_at hw' h
  have c1 := c_kinds hu ht' src3 (σ := sL sc bef a4 a5 a6 a7 (some (.d (.int (u : Nat)))) (some (.d (.int (u2 : Nat)))) a10 (some (.d (.int (sz : Nat)))) a12 a13) ⟨_, rfl, rfl⟩ rfl
  have m1 := e_made 16 [src3] hu (prt_ok hu (rep7 sz)) (.d (.lv (prt u (rep7 sz)))) rfl
  have c2 := c_kinds hw' ht' src3 (σ := sL sc bef a4 a5 a6 a7 (some (.d (.int (u : Nat)))) (some (.d (.int (u2 : Nat)))) a10 (some (.d (.int (sz : Nat)))) (some (.d (mk u (prt u (rep7 sz))))) a13) ⟨_, rfl, rfl⟩ rfl
  have m2 := e_made 16 [src3] hw' (prt_ok hw' (rep7 sz)) (.d (.lv (prt u2 (rep7 sz)))) rfl
  have q1 := eqD_un 18 hu hw' hne (prt_len u (rep7 sz)) (prt_len u2 (rep7 sz))
  have q2 := eqD_un 18 hw' hu (Ne.symm hne) (prt_len u2 (rep7 sz)) (prt_len u (rep7 sz))
  have it : ∀ (σ : Lo) (h : Hs) (f : SemE) z, f σ h = .ok (.d (.str z)) h → iSt f σ h = .ok (strD z) h := fun σ h f z e => by unfold iSt; rw [e]; rfl
  have f1 : callF defs 19 65 [.r 0, .d (.int 21)] [src] = .ok (.d (.int (u : Int))) [src1] := e1
  have f2 : callF defs 19 65 [.r 0, .d (.int 20)] [src1] = .ok (.d (.int (v : Int))) [src2] := e2
  have f3 : callF defs 19 65 [.r 0, .d (.int 12)] [src2] = .ok (.d (.int (t : Int))) [src3] := e3
  have ap_it : ∀ (σ : Lo) (h : Hs) (f : SemE), iSt f σ h = rb (f σ h) fun x h1 => match x with
    | .d (.str z) => .ok (strD z) h1
    | _ => .bad := fun _ _ _ => rfl
  refine ⟨src3, .int (u : Nat), .int (u2 : Nat), .int (sz : Nat), mk u (prt u (rep7 sz)), mk u2 (prt u2 (rep7 sz)), s3, ?_⟩
  simp [kinds_len, f1, f2, f3, ev, et, ap_it, x1, x2, c1, c2, lcEnd, m1, m2, o_eqO _ q1, o_eqO _ q2]
end K99

namespace K99
open PySem PySem.Spec Mi
theorem e_source (n : Nat) (ns : List Int) : callF defs (n + 1) 64 [.d (.scr (ns.map D.int))] [] = .ok (.r 0) [.lst [.lv (ns.map D.int), .int 0, .int 0, .int 1]] := by
  rw [callF_at (md := ⟨1, 1, true, m__law_source⟩) rfl rfl]
  simp [startL]
  rfl
theorem loop1 {k : Nat} (hk : k = 0) {src : O} (hs : Src k src) (sc : D) : ∃ src' bef a4 a5 a6 a7, Src 294 src' ∧ (∀ a ∈ ([a4, a5, a6, a7] : List (Option Vl)), clr1 1 a = a) ∧
    forL (gNm 4) (b_law_1 (callF defs 19)) (rngD 0 21) (sL sc .non none none none none none none none none none none) [src] = .ok .nx (sL sc bef a4 a5 a6 a7 none none none none none none) [src'] := by
  have key := for_ind (g := gNm 4) (body := b_law_1 (callF defs 19)) (ds := rngD 0 21) (σ := sL sc .non none none none none none none none none none none) (h := [src]) (R := fun r => ∃ src' bef a4 a5 a6 a7, Src 294 src' ∧ (∀ a ∈ ([a4, a5, a6, a7] : List (Option Vl)), clr1 1 a = a) ∧ r = .ok .nx (sL sc bef a4 a5 a6 a7 none none none none none none) [src'])
    (fun i σ h => ∃ src bef a4 a5 a6 a7, h = [src] ∧ Src (14 * i) src ∧ Bef i bef ∧ (∀ a ∈ ([a4, a5, a6, a7] : List (Option Vl)), clr1 1 a = a) ∧ σ = sL sc bef a4 a5 a6 a7 none none none none none none)
    ⟨src, .non, none, none, none, none, rfl, by subst hk; exact hs, .inl rfl, by simp, rfl⟩ (fun j d σ h hj p => ?_) (fun σ h p => ?_)
  · exact key
  · obtain ⟨src, bef, a4, a5, a6, a7, rfl, s, hb, hc, rfl⟩ := p
    obtain ⟨hjn, rfl⟩ := rng_at hj
    obtain ⟨src', b5, b6, ss, s', e⟩ := l_law1 hjn (k := 14 * j) (by omega) s sc bef hb a5 a6 a7 none none none none none none
    refine ⟨_, _, rfl, ?_⟩
    have e' : b_law_1 (callF defs 19) ((sL sc bef a4 a5 a6 a7 none none none none none none).set 4 (some (.d (.int (j : Nat))))) [src] = _ := e
    rw [e']
    refine ⟨src', mk j (prt j ss), some (.d (.int (j : Nat))), some (.d b5), some (.d b6), some (.d (mk j (prt j ss))), rfl, s'.up (by omega), .inr ⟨j, ss, hjn, by omega, rfl⟩, by simp, rfl⟩
  · obtain ⟨src, bef, a4, a5, a6, a7, rfl, s, hb, hc, rfl⟩ := p
    rw [rngD_len] at s
    exact ⟨src, bef, a4, a5, a6, a7, s, hc, rfl⟩
theorem loop2 {src : O} (hs : Src 294 src) (sc bef : D) {a4 a5 a6 a7 : Option Vl} (hc : ∀ a ∈ ([a4, a5, a6, a7] : List (Option Vl)), clr1 1 a = a) : ∃ σ' h',
    forL (gNm 10) (b_law_2 (callF defs 19)) (rngD 0 6) (sL sc bef a4 a5 a6 a7 (some (.d (.int 0))) (some (.d (.int 0))) none none none none) [src] = .ok .nx σ' h' := by
  have c4 : clr1 1 a4 = a4 := hc a4 (by simp)
  have c5 : clr1 1 a5 = a5 := hc a5 (by simp)
  have c6 : clr1 1 a6 = a6 := hc a6 (by simp)
  have c7 : clr1 1 a7 = a7 := hc a7 (by simp)
  refine for_ind (R := fun r => ∃ σ' h', r = .ok .nx σ' h') (fun i σ h => ∃ src a8 a9 a10 a11 a12 a13, h = [src] ∧ Src (294 + 3 * i) src ∧ σ = sL sc bef a4 a5 a6 a7 a8 a9 a10 a11 a12 a13)
    ⟨src, some (.d (.int 0)), some (.d (.int 0)), none, none, none, none, rfl, hs, rfl⟩ (fun j d σ h hj p => ?_) (fun σ h p => ⟨σ, h, rfl⟩)
  obtain ⟨src, a8, a9, a10, a11, a12, a13, rfl, s, rfl⟩ := p
  obtain ⟨hjn, rfl⟩ := rng_at hj
  obtain ⟨src', b8, b9, b11, b12, b13, s', e⟩ := l_law2 (k := 294 + 3 * j) (by omega) s sc bef a4 a5 a6 a7 a8 a9 (some (.d (.int (j : Nat)))) a11 a12 a13
  refine ⟨_, _, rfl, ?_⟩
  have e' : b_law_2 (callF defs 19) ((sL sc bef a4 a5 a6 a7 a8 a9 a10 a11 a12 a13).set 10 (some (.d (.int (j : Nat))))) [src] = _ := e
  rw [e']
  refine ⟨src', some (.d b8), some (.d b9), some (.d (.int (j : Nat))), some (.d b11), some (.d b12), some (.d b13), rfl, s'.up (by omega), ?_⟩
  show clr 1 _ = _
  simp [c4, c5, c6, c7]
theorem law_ok (ns : List Int) (hl : ns.length ≤ 63) : ∃ h, callF defs 20 73 [.d (.scr (ns.map D.int))] [] = .ok (.d (.bl true)) h := by
  rw [callF_at (md := ⟨1, 16, false, m_law⟩) rfl rfl]
  have e0 := e_source 18 ns
  have s0 : Src 0 (.lst [.lv (ns.map D.int), .int 0, .int 0, .int 1]) := ⟨ns, 0, 0, 1, rfl, Nat.le_refl _, by decide⟩
  obtain ⟨src1, bef, a4, a5, a6, a7, s1, hc, l1⟩ := loop1 rfl s0 (.scr (ns.map D.int))
  obtain ⟨σ2, h2, l2⟩ := loop2 s1 (.scr (ns.map D.int)) bef hc
  have kk : kinds = .lv [.str "WN", .str "BTT", .str "BTTT", .str "TTBTTTT", .str "TLTT", .str "T", .str "T", .str "TT", .str "NT", .str "GT", .str "GT", .str "BTT", .str "DE", .str "P", .str "RSM", .str "BTTTT", .str "TNTN", .str "TNTTN", .str "TF", .str "T", .str "TN"] := rfl
  have r21 : ∀ h, rngR [.d (.int 21)] h = .ok (rngD 0 21) h := fun h => rngR_nat (k := 21) (by decide)
  have r6 : ∀ h, rngR [.d (.int 6)] h = .ok (rngD 0 6) h := fun h => rngR_nat (k := 6) (by decide)
  simp only [sL, kk] at l1 l2
  refine ⟨h2.take 0, ?_⟩
  show fin false 0 (m_law (callF defs 19) (startL 16 [.d (.scr (ns.map D.int))]) []) = _
  rw [am_law]
  simp [startL, e0, r21, l1, r6, l2]
end K99

theorem PySem.Challenge.cw_pressedwords_k99_results_equal_by_all_at_holds : PySem.Challenge.rw_pressedwords_k99_results_equal_by_all_at.Holds := by
  exact K99.close K99.law_ok
