import PyProof.Rows.All
import Wide.All
import OpenK.AllK
import Wide.FinOn
import HandS.Exc
import HandS.ExcInit
import HandS.ExcField
import HandS.ClsMeth
import HandS.ExcIs
import HandS.Head0
import HandS.Head1
import HandS.Head2
import HandS.HeadEnd
import HandS.HeadHook1
import HandS.HeadHook2
import HandS.Words
import HandS.WordsExc
import HandS.Defaults
import HandS.ForMost
import HandS.Zip
import HandS.Wide
import KE.KDictKeyed
import HandS.TupAny
import HandS.TupMul
import HandS.Deep
import HandS.IsInst
import KE.LtData
import HandS.TryOnly
import KE.KDictWalk
import HandS.Star
import HandS.Codes
import HandS.New
import KE.KExcIs
import HandS.ExcValue
import HandS.ExcOwn
import KE.KIsAll
import HandS.Dict
import HandS.Small
import HandS.DictComp
import KE.SortData
import KE.SortKeyHeap
import PyProof.Rows.TupDisplay
import HandS.Style
import PySem.Challenge.RW_eightlooks_k99_errors
set_option Elab.async false
set_option linter.all false
set_option maxRecDepth 100000
set_option maxHeartbeats 4000000
namespace HB
open PySem PySem.Spec L2
open PyProof.Rows hiding St
/-- facts read at given addresses, and one more test -/
def obs (fa : List He.Fa) (fn : List He.DefD) (more : PySem.W.Frag → Bool) (as : List Addr) (g : Addr → Option Obj) : Bool × He.AlD := (more (He.frG g as), He.obsD fa fn (He.frG g as))
def says (fa : List He.Fa) (fn : List He.DefD) (more : PySem.W.Frag → Bool) (h : Heap) : Prop := ∃ K : PySem.W.Frag, K.In h ∧ He.SaysD fa fn K ∧ more K = true
def hook (fa : List He.Fa) (fn : List He.DefD) (more : PySem.W.Frag → Bool) (as : List Addr) : PySem.W.Hook where
  α := Bool × He.AlD
  obs := fun s => obs fa fn more as s.heap.get?
  val := fun _ => (true, He.valD fn)
  says := fun _ h => says fa fn more h
  of := fun _ _ e => ⟨_, He.frG_in, congrArg (fun z : Bool × He.AlD => z.2) e, congrArg (fun z : Bool × He.AlD => z.1) e⟩
  keeps := fun _ _ _ ⟨K, hK, c⟩ k => ⟨K, PySem.W.Frag.In.keeps hK k, c⟩
theorem obs_eq {fa : List He.Fa} {fn : List He.DefD} {more : PySem.W.Frag → Bool} {as : List Addr} {g : Addr → Option Obj} {s : Shared} (h : ∀ a, g a = s.heap.get? a) : obs fa fn more as g = (hook fa fn more as).obs s := by
  have e : g = s.heap.get? := funext h
  rw [e] <;> rfl
def clsBody : Stmt → List Stmt
  | .ClassDef _ _ _ b _ _ _ _ _ _ _ => b
  | _ => []
def oexB (K : PySem.W.Frag) (C : Addr) : Bool := match K.lookup C with
  | some ⟨.type "type", _, .cls cd, sl⟩ => (match cd.mro, sl.toList with
    | .ref C' :: bm, [_, _, _, _, some (.builtin n), _] => C' == C && n == "ValueError.__new__" && !cd.hasDel && cd.hasDict && PySem.HandSPX.refsVE bm
    | _, _ => false)
  | _ => false
def exB (K : PySem.W.Frag) (C fI : Addr) (f : Option Str) : Bool := oexB K C && (decide (PySem.W.findIn K (.ref C) "__setattr__" = some (some (.builtin "object.__setattr__"))) && (decide (PySem.W.subIn K (.ref C) (.type "BaseException") = some true) && (decide (PySem.W.typeIn K (.ref C) = some (.type "type")) &&
  (PySem.W.keepIn K (.ref C) && (decide (PySem.W.findIn K (.ref C) "__init__" = some (some (.ref fI))) && (decide (PySem.W.typeIn K (.ref fI) = some (.type "function")) && (xfB K C && ((match f with
    | some x => decide (PySem.W.findIn K (.ref C) x = some none)
    | none => true) && (decide (PySem.W.findIn K (.ref C) "__class__" = some (some (.builtin "object.__class__"))) && decide (PySem.W.mroIn K C (.type "object") = some true))))))))))
def baseB (K : PySem.W.Frag) (C : Addr) : Bool := PySem.W.readsIn K C (.type "type") && (decide (PySem.W.specialIn K (.ref C) "__getattribute__" = some (some (.builtin "type.__getattribute__"))) && (match PySem.W.findCls K (.ref C) (.type "type") "__init__" with
  | some (.val (.builtin x)) => x == "ValueError.__init__"
  | _ => false))
/-- the class at c among those at cs, all under the one at L -/
def famB (K : PySem.W.Frag) (L : Addr) (cs : List Addr) (c : Addr) : Bool := match PySem.W.clsIn K c with
  | some cd => !cd.mro.isEmpty && (cs.all (fun d => cd.mro.contains (.ref d) == (c == d)) && (cd.mro.contains (.ref L) && cd.mro.contains (.type "ValueError")))
  | none => false
def upB (K : PySem.W.Frag) (L : Addr) : Bool := decide (PySem.W.subIn K (.ref L) (.type "BaseException") = some true) && (PySem.W.hasDictIn K L && (decide (PySem.W.typeIn K (.ref L) = some (.type "type")) && ((PySem.W.clsIn K L).isSome &&
  (decide (PySem.W.specialIn K (.builtin "object.__class__") "__get__" = some (some (.builtin "getset_descriptor.__get__"))) && decide (PySem.W.takesIn K (.builtin "object.__class__") = some true)))))
end HB
set_option Elab.async false
set_option linter.all false
set_option maxRecDepth 100000
set_option maxHeartbeats 0
namespace T99
open PySem PySem.Spec PyProof.Rows L2
def top (i : Nat) : Stmt := PySem.Challenge.pw_eightlooks_k99_errors.main.body.getD i (.Pass ⟨0, 0, 0, 0⟩)
def mth (i j : Nat) : Stmt := (HB.clsBody (top i)).getD j (.Pass ⟨0, 0, 0, 0⟩)
def d_InvalidBase_init : He.DefD := ⟨("InvalidBase", some "__init__"), "__init__", "InvalidBase.__init__", defArgs (mth 2 0), defBody (mth 2 0), defScope (mth 2 0), [], []⟩
def d_InvalidChances_init : He.DefD := ⟨("InvalidChances", some "__init__"), "__init__", "InvalidChances.__init__", defArgs (mth 3 0), defBody (mth 3 0), defScope (mth 3 0), [], []⟩
def d_InvalidChannels_init : He.DefD := ⟨("InvalidChannels", some "__init__"), "__init__", "InvalidChannels.__init__", defArgs (mth 4 0), defBody (mth 4 0), defScope (mth 4 0), [], []⟩
def d_InvalidCoordinates_init : He.DefD := ⟨("InvalidCoordinates", some "__init__"), "__init__", "InvalidCoordinates.__init__", defArgs (mth 5 0), defBody (mth 5 0), defScope (mth 5 0), [], []⟩
def d_InvalidCount_init : He.DefD := ⟨("InvalidCount", some "__init__"), "__init__", "InvalidCount.__init__", defArgs (mth 6 0), defBody (mth 6 0), defScope (mth 6 0), [], []⟩
def d_InvalidForm_init : He.DefD := ⟨("InvalidForm", some "__init__"), "__init__", "InvalidForm.__init__", defArgs (mth 7 0), defBody (mth 7 0), defScope (mth 7 0), [], []⟩
def d_InvalidForms_init : He.DefD := ⟨("InvalidForms", some "__init__"), "__init__", "InvalidForms.__init__", defArgs (mth 8 0), defBody (mth 8 0), defScope (mth 8 0), [], []⟩
def d_InvalidIndex_init : He.DefD := ⟨("InvalidIndex", some "__init__"), "__init__", "InvalidIndex.__init__", defArgs (mth 9 0), defBody (mth 9 0), defScope (mth 9 0), [], []⟩
def d_InvalidLength_init : He.DefD := ⟨("InvalidLength", some "__init__"), "__init__", "InvalidLength.__init__", defArgs (mth 10 0), defBody (mth 10 0), defScope (mth 10 0), [], []⟩
def d_InvalidLetter_init : He.DefD := ⟨("InvalidLetter", some "__init__"), "__init__", "InvalidLetter.__init__", defArgs (mth 11 0), defBody (mth 11 0), defScope (mth 11 0), [], []⟩
def d_InvalidLines_init : He.DefD := ⟨("InvalidLines", some "__init__"), "__init__", "InvalidLines.__init__", defArgs (mth 12 0), defBody (mth 12 0), defScope (mth 12 0), [], []⟩
def d_InvalidLook_init : He.DefD := ⟨("InvalidLook", some "__init__"), "__init__", "InvalidLook.__init__", defArgs (mth 13 0), defBody (mth 13 0), defScope (mth 13 0), [], []⟩
def d_InvalidMatrix_init : He.DefD := ⟨("InvalidMatrix", some "__init__"), "__init__", "InvalidMatrix.__init__", defArgs (mth 14 0), defBody (mth 14 0), defScope (mth 14 0), [], []⟩
def d_InvalidName_init : He.DefD := ⟨("InvalidName", some "__init__"), "__init__", "InvalidName.__init__", defArgs (mth 15 0), defBody (mth 15 0), defScope (mth 15 0), [], []⟩
def d_InvalidNames_init : He.DefD := ⟨("InvalidNames", some "__init__"), "__init__", "InvalidNames.__init__", defArgs (mth 16 0), defBody (mth 16 0), defScope (mth 16 0), [], []⟩
def d_InvalidNumber_init : He.DefD := ⟨("InvalidNumber", some "__init__"), "__init__", "InvalidNumber.__init__", defArgs (mth 17 0), defBody (mth 17 0), defScope (mth 17 0), [], []⟩
def d_InvalidNumbers_init : He.DefD := ⟨("InvalidNumbers", some "__init__"), "__init__", "InvalidNumbers.__init__", defArgs (mth 18 0), defBody (mth 18 0), defScope (mth 18 0), [], []⟩
def d_InvalidOrder_init : He.DefD := ⟨("InvalidOrder", some "__init__"), "__init__", "InvalidOrder.__init__", defArgs (mth 19 0), defBody (mth 19 0), defScope (mth 19 0), [], []⟩
def d_InvalidOther_init : He.DefD := ⟨("InvalidOther", some "__init__"), "__init__", "InvalidOther.__init__", defArgs (mth 20 0), defBody (mth 20 0), defScope (mth 20 0), [], []⟩
def d_InvalidPolynomial_init : He.DefD := ⟨("InvalidPolynomial", some "__init__"), "__init__", "InvalidPolynomial.__init__", defArgs (mth 21 0), defBody (mth 21 0), defScope (mth 21 0), [], []⟩
def d_InvalidReader_init : He.DefD := ⟨("InvalidReader", some "__init__"), "__init__", "InvalidReader.__init__", defArgs (mth 22 0), defBody (mth 22 0), defScope (mth 22 0), [], []⟩
def d_InvalidRow_init : He.DefD := ⟨("InvalidRow", some "__init__"), "__init__", "InvalidRow.__init__", defArgs (mth 23 0), defBody (mth 23 0), defScope (mth 23 0), [], []⟩
def d_InvalidSheet_init : He.DefD := ⟨("InvalidSheet", some "__init__"), "__init__", "InvalidSheet.__init__", defArgs (mth 24 0), defBody (mth 24 0), defScope (mth 24 0), [], []⟩
def d_InvalidSize_init : He.DefD := ⟨("InvalidSize", some "__init__"), "__init__", "InvalidSize.__init__", defArgs (mth 25 0), defBody (mth 25 0), defScope (mth 25 0), [], []⟩
def d_InvalidStep_init : He.DefD := ⟨("InvalidStep", some "__init__"), "__init__", "InvalidStep.__init__", defArgs (mth 26 0), defBody (mth 26 0), defScope (mth 26 0), [], []⟩
def d_InvalidTable_init : He.DefD := ⟨("InvalidTable", some "__init__"), "__init__", "InvalidTable.__init__", defArgs (mth 27 0), defBody (mth 27 0), defScope (mth 27 0), [], []⟩
def d_InvalidTally_init : He.DefD := ⟨("InvalidTally", some "__init__"), "__init__", "InvalidTally.__init__", defArgs (mth 28 0), defBody (mth 28 0), defScope (mth 28 0), [], []⟩
def d_InvalidText_init : He.DefD := ⟨("InvalidText", some "__init__"), "__init__", "InvalidText.__init__", defArgs (mth 29 0), defBody (mth 29 0), defScope (mth 29 0), [], []⟩
def d_InvalidTop_init : He.DefD := ⟨("InvalidTop", some "__init__"), "__init__", "InvalidTop.__init__", defArgs (mth 30 0), defBody (mth 30 0), defScope (mth 30 0), [], []⟩
def d_InvalidTotals_init : He.DefD := ⟨("InvalidTotals", some "__init__"), "__init__", "InvalidTotals.__init__", defArgs (mth 31 0), defBody (mth 31 0), defScope (mth 31 0), [], []⟩
def d_InvalidWalk_init : He.DefD := ⟨("InvalidWalk", some "__init__"), "__init__", "InvalidWalk.__init__", defArgs (mth 32 0), defBody (mth 32 0), defScope (mth 32 0), [], []⟩
def d_InvalidWalks_init : He.DefD := ⟨("InvalidWalks", some "__init__"), "__init__", "InvalidWalks.__init__", defArgs (mth 33 0), defBody (mth 33 0), defScope (mth 33 0), [], []⟩
def d_InvalidWord_init : He.DefD := ⟨("InvalidWord", some "__init__"), "__init__", "InvalidWord.__init__", defArgs (mth 34 0), defBody (mth 34 0), defScope (mth 34 0), [], []⟩
def d_Full_init : He.DefD := ⟨("Full", some "__init__"), "__init__", "Full.__init__", defArgs (mth 36 0), defBody (mth 36 0), defScope (mth 36 0), [], []⟩
def d_HasName_init : He.DefD := ⟨("HasName", some "__init__"), "__init__", "HasName.__init__", defArgs (mth 37 0), defBody (mth 37 0), defScope (mth 37 0), [], []⟩
def d_NoForm_init : He.DefD := ⟨("NoForm", some "__init__"), "__init__", "NoForm.__init__", defArgs (mth 38 0), defBody (mth 38 0), defScope (mth 38 0), [], []⟩
def d_NoInverse_init : He.DefD := ⟨("NoInverse", some "__init__"), "__init__", "NoInverse.__init__", defArgs (mth 39 0), defBody (mth 39 0), defScope (mth 39 0), [], []⟩
def d_NoLimit_init : He.DefD := ⟨("NoLimit", some "__init__"), "__init__", "NoLimit.__init__", defArgs (mth 40 0), defBody (mth 40 0), defScope (mth 40 0), [], []⟩
def d_NoName_init : He.DefD := ⟨("NoName", some "__init__"), "__init__", "NoName.__init__", defArgs (mth 41 0), defBody (mth 41 0), defScope (mth 41 0), [], []⟩
def d_NotAlike_init : He.DefD := ⟨("NotAlike", some "__init__"), "__init__", "NotAlike.__init__", defArgs (mth 42 0), defBody (mth 42 0), defScope (mth 42 0), [], []⟩
def d_NotAlong_init : He.DefD := ⟨("NotAlong", some "__init__"), "__init__", "NotAlong.__init__", defArgs (mth 43 0), defBody (mth 43 0), defScope (mth 43 0), [], []⟩
def d_NotLeast_init : He.DefD := ⟨("NotLeast", some "__init__"), "__init__", "NotLeast.__init__", defArgs (mth 44 0), defBody (mth 44 0), defScope (mth 44 0), [], []⟩
def d_NotLots_init : He.DefD := ⟨("NotLots", some "__init__"), "__init__", "NotLots.__init__", defArgs (mth 45 0), defBody (mth 45 0), defScope (mth 45 0), [], []⟩
def d_NotSuite_init : He.DefD := ⟨("NotSuite", some "__init__"), "__init__", "NotSuite.__init__", defArgs (mth 46 0), defBody (mth 46 0), defScope (mth 46 0), [], []⟩
def d_NothingToRedo_init : He.DefD := ⟨("NothingToRedo", some "__init__"), "__init__", "NothingToRedo.__init__", defArgs (mth 47 0), defBody (mth 47 0), defScope (mth 47 0), [], []⟩
def d_NothingToUndo_init : He.DefD := ⟨("NothingToUndo", some "__init__"), "__init__", "NothingToUndo.__init__", defArgs (mth 48 0), defBody (mth 48 0), defScope (mth 48 0), [], []⟩
def d_ZeroNumber_init : He.DefD := ⟨("ZeroNumber", some "__init__"), "__init__", "ZeroNumber.__init__", defArgs (mth 49 0), defBody (mth 49 0), defScope (mth 49 0), [], []⟩
def d__law_cell : He.DefD := ⟨("_law_cell", none), "_law_cell", "_law_cell", defArgs (top 51), defBody (top 51), defScope (top 51), [], []⟩
def d__law_box : He.DefD := ⟨("_law_box", none), "_law_box", "_law_box", defArgs (top 52), defBody (top 52), defScope (top 52), [], []⟩
def d__law_take : He.DefD := ⟨("_law_take", none), "_law_take", "_law_take", defArgs (top 53), defBody (top 53), defScope (top 53), [], []⟩
def d__law_same : He.DefD := ⟨("_law_same", none), "_law_same", "_law_same", defArgs (top 54), defBody (top 54), defScope (top 54), [], []⟩
def d__law_blamed : He.DefD := ⟨("_law_blamed", none), "_law_blamed", "_law_blamed", defArgs (top 55), defBody (top 55), defScope (top 55), [], []⟩
def d__law_value : He.DefD := ⟨("_law_value", none), "_law_value", "_law_value", defArgs (top 56), defBody (top 56), defScope (top 56), [], []⟩
def d__law_made_0 : He.DefD := ⟨("_law_made_0", none), "_law_made_0", "_law_made_0", defArgs (top 57), defBody (top 57), defScope (top 57), [], []⟩
def d__law_made_1 : He.DefD := ⟨("_law_made_1", none), "_law_made_1", "_law_made_1", defArgs (top 58), defBody (top 58), defScope (top 58), [], []⟩
def d__law_made_2 : He.DefD := ⟨("_law_made_2", none), "_law_made_2", "_law_made_2", defArgs (top 59), defBody (top 59), defScope (top 59), [], []⟩
def d__law_made_3 : He.DefD := ⟨("_law_made_3", none), "_law_made_3", "_law_made_3", defArgs (top 60), defBody (top 60), defScope (top 60), [], []⟩
def d__law_is_0 : He.DefD := ⟨("_law_is_0", none), "_law_is_0", "_law_is_0", defArgs (top 61), defBody (top 61), defScope (top 61), [], []⟩
def d__law_is_1 : He.DefD := ⟨("_law_is_1", none), "_law_is_1", "_law_is_1", defArgs (top 62), defBody (top 62), defScope (top 62), [], []⟩
def d__law_fields : He.DefD := ⟨("_law_fields", none), "_law_fields", "_law_fields", defArgs (top 63), defBody (top 63), defScope (top 63), [], []⟩
def d__law_raised : He.DefD := ⟨("_law_raised", none), "_law_raised", "_law_raised", defArgs (top 64), defBody (top 64), defScope (top 64), [], []⟩
def d__law_caught_right : He.DefD := ⟨("_law_caught_right", none), "_law_caught_right", "_law_caught_right", defArgs (top 65), defBody (top 65), defScope (top 65), [], []⟩
def d__law_deep : He.DefD := ⟨("_law_deep", none), "_law_deep", "_law_deep", defArgs (top 66), defBody (top 66), defScope (top 66), [], []⟩
def d__law_class_right : He.DefD := ⟨("_law_class_right", none), "_law_class_right", "_law_class_right", defArgs (top 67), defBody (top 67), defScope (top 67), [], []⟩
def d_law : He.DefD := ⟨("law", none), "law", "law", defArgs (top 68), defBody (top 68), defScope (top 68), [], []⟩
def fn0 : List He.DefD := [d_InvalidBase_init, d_InvalidChances_init, d_InvalidChannels_init, d_InvalidCoordinates_init, d_InvalidCount_init, d_InvalidForm_init, d_InvalidForms_init, d_InvalidIndex_init, d_InvalidLength_init, d_InvalidLetter_init, d_InvalidLines_init, d_InvalidLook_init, d_InvalidMatrix_init, d_InvalidName_init, d_InvalidNames_init, d_InvalidNumber_init, d_InvalidNumbers_init, d_InvalidOrder_init, d_InvalidOther_init, d_InvalidPolynomial_init, d_InvalidReader_init, d_InvalidRow_init, d_InvalidSheet_init, d_InvalidSize_init, d_InvalidStep_init, d_InvalidTable_init, d_InvalidTally_init, d_InvalidText_init, d_InvalidTop_init, d_InvalidTotals_init]
def fn1 : List He.DefD := [d_InvalidWalk_init, d_InvalidWalks_init, d_InvalidWord_init, d_Full_init, d_HasName_init, d_NoForm_init, d_NoInverse_init, d_NoLimit_init, d_NoName_init, d_NotAlike_init, d_NotAlong_init, d_NotLeast_init, d_NotLots_init, d_NotSuite_init, d_NothingToRedo_init, d_NothingToUndo_init, d_ZeroNumber_init, d__law_cell, d__law_box, d__law_take, d__law_same, d__law_blamed, d__law_value, d__law_made_0, d__law_made_1, d__law_made_2, d__law_made_3, d__law_is_0, d__law_is_1, d__law_fields]
def fn2 : List He.DefD := [d__law_raised, d__law_caught_right, d__law_deep, d__law_class_right, d_law]
def fn : List He.DefD := fn0 ++ fn1 ++ fn2
def fa0 : List He.Fa := [.glo "LookError", .glo "InvalidBase", .glo "InvalidChances", .glo "InvalidChannels", .glo "InvalidCoordinates", .glo "InvalidCount", .glo "InvalidForm", .glo "InvalidForms", .glo "InvalidIndex", .glo "InvalidLength", .glo "InvalidLetter", .glo "InvalidLines", .glo "InvalidLook", .glo "InvalidMatrix", .glo "InvalidName", .glo "InvalidNames", .glo "InvalidNumber", .glo "InvalidNumbers", .glo "InvalidOrder", .glo "InvalidOther", .glo "InvalidPolynomial", .glo "InvalidReader", .glo "InvalidRow", .glo "InvalidSheet", .glo "InvalidSize", .glo "InvalidStep", .glo "InvalidTable", .glo "InvalidTally", .glo "InvalidText", .glo "InvalidTop"]
def fa1 : List He.Fa := [.glo "InvalidTotals", .glo "InvalidWalk", .glo "InvalidWalks", .glo "InvalidWord", .glo "Full", .glo "HasName", .glo "NoForm", .glo "NoInverse", .glo "NoLimit", .glo "NoName", .glo "NotAlike", .glo "NotAlong", .glo "NotLeast", .glo "NotLots", .glo "NotSuite", .glo "NothingToRedo", .glo "NothingToUndo", .glo "ZeroNumber", .glo "_law_cell", .glo "_law_box", .glo "_law_take", .glo "_law_same", .glo "_law_blamed", .glo "_law_value", .glo "_law_made_0", .glo "_law_made_1", .glo "_law_made_2", .glo "_law_made_3", .glo "_law_is_0", .glo "_law_is_1"]
def fa2 : List He.Fa := [.glo "_law_fields", .glo "_law_raised", .glo "_law_caught_right", .glo "_law_deep", .glo "_law_class_right", .glo "law", .free "ValueError", .free "abs", .free "bool", .free "int", .free "isinstance", .free "len", .free "list", .free "max", .free "min", .free "range", .free "str", .free "sum", .free "tuple", .free "zip"]
def fa : List He.Fa := fa0 ++ fa1 ++ fa2
def adr0 : List Addr := [mainGlobals, cStatics, 24, 23, 22, 25, 44, 43, 41, 40, 42, 63, 62, 60, 59, 61, 82, 81, 79, 78, 80, 101, 100, 98, 97, 99, 120, 119, 117, 116, 118, 139, 138, 136, 135, 137, 158, 157, 155, 154, 156, 177, 176, 174, 173, 175, 196, 195, 193, 192, 194, 215, 214, 212, 211, 213, 234, 233, 231, 230]
def adr1 : List Addr := [232, 253, 252, 250, 249, 251, 272, 271, 269, 268, 270, 291, 290, 288, 287, 289, 310, 309, 307, 306, 308, 329, 328, 326, 325, 327, 348, 347, 345, 344, 346, 367, 366, 364, 363, 365, 386, 385, 383, 382, 384, 405, 404, 402, 401, 403, 424, 423, 421, 420, 422, 443, 442, 440, 439, 441, 462, 461, 459, 458]
def adr2 : List Addr := [460, 481, 480, 478, 477, 479, 500, 499, 497, 496, 498, 519, 518, 516, 515, 517, 538, 537, 535, 534, 536, 557, 556, 554, 553, 555, 576, 575, 573, 572, 574, 595, 594, 592, 591, 593, 614, 613, 611, 610, 612, 633, 632, 630, 629, 631, 652, 651, 649, 648, 650, 671, 670, 668, 667, 669, 690, 689, 687, 686]
def adr3 : List Addr := [688, 709, 708, 706, 705, 707, 728, 727, 725, 724, 726, 747, 746, 744, 743, 745, 766, 765, 763, 762, 764, 785, 784, 782, 781, 783, 804, 803, 801, 800, 802, 823, 822, 820, 819, 821, 842, 841, 839, 838, 840, 861, 860, 858, 857, 859, 880, 879, 877, 876, 878, 899, 898, 896, 895, 897, 918, 917, 915, 914]
def adr4 : List Addr := [916, 927, 926, 934, 933, 941, 940, 946, 945, 953, 952, 960, 959, 967, 966, 974, 973, 981, 980, 988, 987, 995, 994, 1002, 1001, 1009, 1008, 1016, 1015, 1021, 1020, 1028, 1027, 1033, 1032, 1040, 1039]
def adr : List Addr := adr0 ++ adr1 ++ adr2 ++ adr3 ++ adr4
def loose0 : List PySem.Str := ["_law_cell", "_law_box", "_law_take", "_law_same", "_law_blamed", "_law_value", "_law_made_0", "_law_made_1", "_law_made_2", "_law_made_3", "_law_is_0", "_law_is_1", "_law_fields", "_law_raised", "_law_caught_right", "_law_deep", "_law_class_right", "LookError", "InvalidBase", "InvalidChances", "InvalidChannels", "InvalidCoordinates", "InvalidCount", "InvalidForm", "InvalidForms", "InvalidIndex", "InvalidLength", "InvalidLetter", "InvalidLines", "InvalidLook"]
def loose1 : List PySem.Str := ["InvalidMatrix", "InvalidName", "InvalidNames", "InvalidNumber", "InvalidNumbers", "InvalidOrder", "InvalidOther", "InvalidPolynomial", "InvalidReader", "InvalidRow", "InvalidSheet", "InvalidSize", "InvalidStep", "InvalidTable", "InvalidTally", "InvalidText", "InvalidTop", "InvalidTotals", "InvalidWalk", "InvalidWalks", "InvalidWord", "Full", "HasName", "NoForm", "NoInverse", "NoLimit", "NoName", "NotAlike", "NotAlong", "NotLeast"]
def loose2 : List PySem.Str := ["NotLots", "NotSuite", "NothingToRedo", "NothingToUndo", "ZeroNumber"]
def loose : List PySem.Str := loose0 ++ loose1 ++ loose2
abbrev R : PySem.W.OpenRow := PySem.W.OpenLaw.row PySem.Challenge.rw_eightlooks_k99_errors
def cls0 : List (PySem.Str × Nat × Nat × Option PySem.Str) := [("InvalidBase", 44, 41, some "given"), ("InvalidChances", 63, 60, some "given"), ("InvalidChannels", 82, 79, some "given"), ("InvalidCoordinates", 101, 98, some "given"), ("InvalidCount", 120, 117, some "given"), ("InvalidForm", 139, 136, some "given"), ("InvalidForms", 158, 155, some "given"), ("InvalidIndex", 177, 174, some "given"), ("InvalidLength", 196, 193, some "given"), ("InvalidLetter", 215, 212, some "given"), ("InvalidLines", 234, 231, some "given"), ("InvalidLook", 253, 250, some "given"), ("InvalidMatrix", 272, 269, some "given"), ("InvalidName", 291, 288, some "given"), ("InvalidNames", 310, 307, some "given"), ("InvalidNumber", 329, 326, some "given"), ("InvalidNumbers", 348, 345, some "given"), ("InvalidOrder", 367, 364, some "given"), ("InvalidOther", 386, 383, some "given"), ("InvalidPolynomial", 405, 402, some "given"), ("InvalidReader", 424, 421, some "given"), ("InvalidRow", 443, 440, some "given"), ("InvalidSheet", 462, 459, some "given"), ("InvalidSize", 481, 478, some "given")]
def cls1 : List (PySem.Str × Nat × Nat × Option PySem.Str) := [("InvalidStep", 500, 497, some "given"), ("InvalidTable", 519, 516, some "given"), ("InvalidTally", 538, 535, some "given"), ("InvalidText", 557, 554, some "given"), ("InvalidTop", 576, 573, some "given"), ("InvalidTotals", 595, 592, some "given"), ("InvalidWalk", 614, 611, some "given"), ("InvalidWalks", 633, 630, some "given"), ("InvalidWord", 652, 649, some "given"), ("Full", 671, 668, none), ("HasName", 690, 687, some "name"), ("NoForm", 709, 706, none), ("NoInverse", 728, 725, none), ("NoLimit", 747, 744, some "power"), ("NoName", 766, 763, some "name"), ("NotAlike", 785, 782, none), ("NotAlong", 804, 801, some "walk"), ("NotLeast", 823, 820, some "index"), ("NotLots", 842, 839, none), ("NotSuite", 861, 858, none), ("NothingToRedo", 880, 877, none), ("NothingToUndo", 899, 896, none), ("ZeroNumber", 918, 915, none)]
def clss : List (PySem.Str × Nat × Nat × Option PySem.Str) := cls0 ++ cls1
def adc0 : List Addr := [44, 63, 82, 101, 120, 139, 158, 177, 196, 215, 234, 253, 272, 291, 310, 329, 348, 367, 386, 405, 424, 443, 462, 481]
def adc1 : List Addr := [500, 519, 538, 557, 576, 595, 614, 633, 652, 671, 690, 709, 728, 747, 766, 785, 804, 823, 842, 861, 880, 899, 918]
def adc : List Addr := adc0 ++ adc1
abbrev lkE : Addr := 24
def more (K : PySem.W.Frag) : Bool := HB.baseB K lkE && (HB.upB K lkE && ((He.ga K "LookError" == lkE) && ((clss.all fun p => (He.ga K p.1 == p.2.1) && HB.exB K p.2.1 p.2.2.1 p.2.2.2) &&
  ((adc.all fun c => HB.famB K lkE adc c) && ((adc.all fun c => (PySem.W.clsIn K c).isSome) && K.all fun p => match p.2.cls with | .type t => t != "list" | _ => true)))))
abbrev hk : PySem.W.Hook := HB.hook fa fn more adr
def ob (s : PySem.W.SharedT) : hk.α := HB.obs fa fn more adr (HandSHeadRun.getT s)
theorem ob_eq (s : PySem.W.SharedT) : ob s = hk.obs s.abs := HB.obs_eq (HandSHeadRun.getT_eq s)
end T99
set_option Elab.async false
set_option linter.all false
set_option maxRecDepth 100000
set_option maxHeartbeats 0
namespace T99
open PySem PySem.Spec PyProof.Rows L2
theorem run (w : World) : HandSHeadRun.RunEq R (PySem.W.view R.prog [68]) hk ob 20000 loose w := by
  intro os
  kernel_rfl
end T99
set_option Elab.async false
set_option linter.all false
set_option maxRecDepth 100000
set_option maxHeartbeats 4000000
namespace DL
open PySem PySem.Spec L2
open PyProof.Rows hiding St
abbrev D := PyData
/-- the fixed world of a proof -/
structure Wd where
  P : Program
  w : World
  K : PySem.W.Frag
abbrev wdOf (X : Cx) : Wd := ⟨X.prog, X.w, X.K⟩
def Le (F F' : Hp) : Prop := ∀ a u, F a = some u → F' a = some u
theorem Le.refl (F : Hp) : Le F F := fun _ _ e => e
theorem Le.trans {F G H : Hp} (a : Le F G) (b : Le G H) : Le F H := fun x u e => b x u (a x u e)
theorem Le.upd {F : Hp} {p : Addr} {o : HO} (h : F p = none) : Le F (upd F p o) := fun a u e => by
  rw [upd_ne (ne_of_none e h)]
  exact e
/-- the entries of a dict object with tuple keys: nothing of where the keys' tuples lie -/
def rawDic (W : Wd) (a : Addr) (ys : List (NestedKey × Addr × Value)) (h : Heap) : Prop :=
  ∃ o es ep, h.get? a = some o ∧ o.ExactDict ∧ o.data = .dict es ep ∧ es.toList = ys.map (entryOfKey (nestedKind W.P W.w)) ∧ (ys.map (·.1)).Nodup
/-- a dict with tuple keys, as a thing known by what is true of its one object -/
def dicP (W : Wd) (a : Addr) (xs : List (NestedKey × Addr × V)) : Heap → Prop := fun h =>
  xs.length ≤ sizeLine ∧ (a == sysModules) = false ∧ ∃ ys, Paired (fun (p : NestedKey × Addr × V) (q : NestedKey × Addr × Value) => p.1 = q.1 ∧ p.2.1 = q.2.1 ∧ RelV p.2.2 q.2.2) xs ys ∧ rawDic W a ys h
def dicO (W : Wd) (a : Addr) (xs : List (NestedKey × Addr × V)) : HO := .ext (dicP W a xs)
mutual
/-- the value v stands for the data d, by frozen objects alone -/
inductive Rp (W : Wd) (F : Hp) : V → D → Prop
  | non : Rp W F .non .none
  | bl (b : Bool) : Rp W F (.bl b) (.bool b)
  | int (i : Int) : Rp W F (.int i) (.int i)
  | str (x : Str) : Rp W F (.str x) (.str x)
  | lst {a : Addr} {xs : List V} {ds : List D} : F a = some (.lst xs) → RpAll W F xs ds → Rp W F (.ref a) (.list ds)
  | tup {a : Addr} {xs : List V} {ds : List D} : SqT W.K F a xs → RpAll W F xs ds → Rp W F (.ref a) (.tuple ds)
  | dic {a : Addr} {xs : List (NestedKey × Addr × V)} {kvs : List (D × D)} : F a = some (dicO W a xs) → RpKV W F xs kvs → Rp W F (.ref a) (.dict kvs)
inductive RpAll (W : Wd) (F : Hp) : List V → List D → Prop
  | nil : RpAll W F [] []
  | cons {v : V} {vs : List V} {d : D} {ds : List D} : Rp W F v d → RpAll W F vs ds → RpAll W F (v :: vs) (d :: ds)
inductive RpKV (W : Wd) (F : Hp) : List (NestedKey × Addr × V) → List (D × D) → Prop
  | nil : RpKV W F [] []
  | cons {k : NestedKey} {p : Addr} {v : V} {xs : List (NestedKey × Addr × V)} {d : D} {kvs : List (D × D)} : k.depth ≤ 8 → Rp W F (.ref p) k.data → Rp W F v d → RpKV W F xs kvs → RpKV W F ((k, p, v) :: xs) ((k.data, d) :: kvs)
end
section
variable {W : Wd} {F F' H : Hp}
theorem SqL.mono {K : PySem.W.Frag} {a : Addr} {xs : List V} (l : Le F F') (h : SqL K F a xs) : SqL K F' a xs := by
  rcases h with (h | ⟨o, h⟩) | h
  · exact .inl (.inl (l _ _ h))
  · exact .inl (.inr ⟨o, l _ _ h⟩)
  · exact .inr h
theorem SqT.mono {K : PySem.W.Frag} {a : Addr} {xs : List V} (l : Le F F') (h : SqT K F a xs) : SqT K F' a xs := by
  rcases h with (h | ⟨o, h⟩) | h
  · exact .inl (.inl (l _ _ h))
  · exact .inl (.inr ⟨o, l _ _ h⟩)
  · exact .inr h
mutual
theorem Rp.mono (l : Le F F') : ∀ {v : V} {d : D}, Rp W F v d → Rp W F' v d
  | _, _, .non => .non
  | _, _, .bl b => .bl b
  | _, _, .int i => .int i
  | _, _, .str x => .str x
  | _, _, .lst h r => .lst (l _ _ h) (RpAll.mono l r)
  | _, _, .tup h r => .tup (SqT.mono l h) (RpAll.mono l r)
  | _, _, .dic h r => .dic (l _ _ h) (RpKV.mono l r)
theorem RpAll.mono (l : Le F F') : ∀ {vs : List V} {ds : List D}, RpAll W F vs ds → RpAll W F' vs ds
  | _, _, .nil => .nil
  | _, _, .cons a b => .cons (Rp.mono l a) (RpAll.mono l b)
theorem RpKV.mono (l : Le F F') : ∀ {vs : List (NestedKey × Addr × V)} {ds : List (D × D)}, RpKV W F vs ds → RpKV W F' vs ds
  | _, _, .nil => .nil
  | _, _, .cons z k a b => .cons z (Rp.mono l k) (Rp.mono l a) (RpKV.mono l b)
end
theorem RpAll.length : ∀ {vs : List V} {ds : List D}, RpAll W F vs ds → vs.length = ds.length
  | _, _, .nil => rfl
  | _, _, .cons _ b => congrArg Nat.succ b.length
theorem RpKV.length : ∀ {vs : List (NestedKey × Addr × V)} {ds : List (D × D)}, RpKV W F vs ds → vs.length = ds.length
  | _, _, .nil => rfl
  | _, _, .cons _ _ _ b => congrArg Nat.succ b.length
theorem RpAll.append : ∀ {vs ws : List V} {ds es : List D}, RpAll W F vs ds → RpAll W F ws es → RpAll W F (vs ++ ws) (ds ++ es)
  | _, _, _, _, .nil, r => r
  | _, _, _, _, .cons a b, r => .cons a (b.append r)
theorem RpAll.get : ∀ {vs : List V} {ds : List D} {i : Nat} {d : D}, RpAll W F vs ds → ds[i]? = some d → ∃ v, vs[i]? = some v ∧ Rp W F v d
  | _, _, _, _, .nil, e => by simp at e
  | _, _, 0, _, .cons a _, e => by simp at e; subst e; exact ⟨_, rfl, a⟩
  | _, _, i + 1, _, .cons _ b, e => by
    obtain ⟨v, h1, h2⟩ := b.get (i := i) (by simpa using e)
    exact ⟨v, by simpa using h1, h2⟩
theorem RpAll.get' : ∀ {vs : List V} {ds : List D} {i : Nat} {v : V}, RpAll W F vs ds → vs[i]? = some v → ∃ d, ds[i]? = some d ∧ Rp W F v d
  | _, _, _, _, .nil, e => by simp at e
  | _, _, 0, _, .cons a _, e => by simp at e; subst e; exact ⟨_, rfl, a⟩
  | _, _, i + 1, _, .cons _ b, e => by
    obtain ⟨v, h1, h2⟩ := b.get' (i := i) (by simpa using e)
    exact ⟨v, by simpa using h1, h2⟩
theorem RpAll.take : ∀ {vs : List V} {ds : List D} (n : Nat), RpAll W F vs ds → RpAll W F (vs.take n) (ds.take n)
  | _, _, 0, _ => .nil
  | _, _, _ + 1, .nil => .nil
  | _, _, n + 1, .cons a b => .cons a (b.take n)
theorem RpAll.drop : ∀ {vs : List V} {ds : List D} (n : Nat), RpAll W F vs ds → RpAll W F (vs.drop n) (ds.drop n)
  | _, _, 0, r => r
  | _, _, _ + 1, .nil => .nil
  | _, _, n + 1, .cons _ b => b.drop n
theorem RpAll.set {x : V} {d : D} (r : Rp W F x d) : ∀ {vs : List V} {ds : List D} (i : Nat), RpAll W F vs ds → RpAll W F (vs.set i x) (ds.set i d)
  | _, _, _, .nil => .nil
  | _, _, 0, .cons _ t => .cons r t
  | _, _, i + 1, .cons q t => .cons q (RpAll.set r i t)
theorem RpAll.reverse {vs : List V} {ds : List D} (h : RpAll W F vs ds) : RpAll W F vs.reverse ds.reverse := by
  match vs, ds, h with
  | _, _, .nil => exact .nil
  | _, _, .cons a b => rw [List.reverse_cons, List.reverse_cons]; exact (RpAll.reverse b).append (.cons a .nil)
theorem RpAll.dropLast : ∀ {vs : List V} {ds : List D}, RpAll W F vs ds → RpAll W F vs.dropLast ds.dropLast
  | _, _, .nil => .nil
  | _, _, .cons a .nil => .nil
  | _, _, .cons a (.cons b c) => .cons a (RpAll.dropLast (.cons b c))
theorem RpAll.rep {vs : List V} {ds : List D} (h : RpAll W F vs ds) : ∀ k : Nat, RpAll W F (List.replicate k vs).flatten (List.replicate k ds).flatten
  | 0 => .nil
  | k + 1 => by rw [List.replicate_succ, List.replicate_succ, List.flatten_cons, List.flatten_cons]; exact h.append (h.rep k)
end
/-- the content of an owned object -/
inductive OB where
  | lst (ds : List D)
  | dic (kvs : List (D × D))
def OB.data : OB → D
  | .lst ds => .list ds
  | .dic kvs => .dict kvs
def OR (W : Wd) (F : Hp) (a : Addr) : HO → OB → Prop
  | u, .lst ds => ∃ xs, u = .lst xs ∧ RpAll W F xs ds
  | u, .dic kvs => ∃ xs, u = dicO W a xs ∧ RpKV W F xs kvs
theorem OR.mono {W : Wd} {F F' : Hp} (l : Le F F') {a : Addr} {u : HO} : ∀ {o : OB}, OR W F a u o → OR W F' a u o
  | .lst _, ⟨xs, e, r⟩ => ⟨xs, e, RpAll.mono l r⟩
  | .dic _, ⟨xs, e, r⟩ => ⟨xs, e, RpKV.mono l r⟩
theorem OR.mut {W : Wd} {F : Hp} {a : Addr} {u : HO} : ∀ {o : OB}, OR W F a u o → Mut (some u)
  | .lst _, ⟨xs, e, r⟩ => by subst e; trivial
  | .dic _, ⟨xs, e, r⟩ => by subst e; trivial
/-- frozen, it stands for its data -/
theorem OR.rp {W : Wd} {F : Hp} {a : Addr} {u : HO} (h : F a = some u) : ∀ {o : OB}, OR W F a u o → Rp W F (.ref a) o.data
  | .lst _, ⟨xs, e, r⟩ => by subst e; exact .lst h r
  | .dic _, ⟨xs, e, r⟩ => by subst e; exact .dic h r
/-- what a slot holds -/
inductive DV where
  | pure (d : D)
  | own (o : OB)
  | raw (v : V)
abbrev DEnv := List (Option DV)
/-- what an expression gives: data; a new object that nothing else names; the object that a slot owns; a value as it is -/
inductive RV where
  | pure (d : D)
  | tmp (o : OB)
  | slot (i : Nat)
  | raw (v : V)
/-- an exception: its class, its attributes -/
structure EX where
  cls : Addr
  fs : List (Str × D)
/-- the fixed ground of a judgement: what stood at the entry; L: what may be written of that; pin: slots that are never stored to -/
structure Bs where
  F : Hp
  H : Hp
  L : Addr → Prop
  pin : List (Nat × Option V)
def SV (W : Wd) (F H : Hp) (v : V) : DV → Prop
  | .pure d => Rp W F v d
  | .own ob => ∃ a u, v = .ref a ∧ F a = none ∧ H a = some u ∧ OR W F a u ob
  | .raw u => v = u
/-- slot i of the data environment, of the machine's -/
abbrev HasD (ρ : DEnv) (i : Nat) (dv : DV) : Prop := ρ[i]? = some (some dv)
abbrev HasV (σ : St) (i : Nat) (v : V) : Prop := σ[i]? = some (some v)
/-- it stands as it stood, or it is a frozen dict that a loop has walked -/
def Kept (W : Wd) (F H : Hp) (a : Addr) (u : HO) : Prop := H a = some u ∨ (F a = some u ∧ (∃ xs, u = dicO W a xs) ∧ ∃ o, H a = some (.frz o u))
theorem Kept.ne {W : Wd} {F H : Hp} {a p : Addr} {u : HO} (k : Kept W F H a u) (h : H p = none) : a ≠ p := by
  rcases k with q | ⟨_, _, o, q⟩
  · exact ne_of_none q h
  · exact ne_of_none q h
theorem Kept.upd {W : Wd} {F F' H : Hp} {a p : Addr} {u y : HO} (k : Kept W F H a u) (n : a ≠ p) (l : Le F F') : Kept W F' (upd H p y) a u := by
  rcases k with q | ⟨f, d, o, q⟩
  · exact .inl (by rw [upd_ne n]; exact q)
  · exact .inr ⟨l _ _ f, d, o, by rw [upd_ne n]; exact q⟩
theorem Kept.mono {W : Wd} {F F' H : Hp} {a : Addr} {u : HO} (k : Kept W F H a u) (l : Le F F') : Kept W F' H a u := by
  rcases k with q | ⟨f, d, o, q⟩
  · exact .inl q
  · exact .inr ⟨l _ _ f, d, o, q⟩
theorem Kept.ex {W : Wd} {F H : Hp} {a : Addr} {u : HO} (k : Kept W F H a u) : ∃ y, H a = some y := by
  rcases k with q | ⟨_, _, o, q⟩
  · exact ⟨_, q⟩
  · exact ⟨_, q⟩
theorem Kept.live {W : Wd} {F H : Hp} {a : Addr} {u : HO} (k : Kept W F H a u) (f : F a = none) : H a = Option.some u := by
  rcases k with q | ⟨f', _⟩
  · exact q
  · rw [f] at f'; cases f'
structure RE (W : Wd) (B : Bs) (F H : Hp) (σ : St) (ρ : DEnv) : Prop where
  len : σ.length = ρ.length
  fle : ∀ (a : Addr) (u : HO), F a = some u → Rd H a u
  nfz : ∀ (a : Addr) (o : Obj) (u : HO), F a ≠ some (.frz o u)
  sl : ∀ (i : Nat) (dv : DV), HasD ρ i dv → ∃ v, HasV σ i v ∧ SV W F H v dv
  dis : ∀ (i j : Nat) (a : Addr) (ob ob' : OB), i ≠ j → HasD ρ i (.own ob) → HasD ρ j (.own ob') → HasV σ i (.ref a) → HasV σ j (.ref a) → False
  ownb : ∀ (i : Nat) (a : Addr) (ob : OB), HasD ρ i (.own ob) → HasV σ i (.ref a) → B.L a ∨ B.H a = none
  bF : Le B.F F
  bH : ∀ (a : Addr) (u : HO), B.H a = some u → ¬ B.L a → Kept W F H a u
  bN : ∀ (a : Addr) (u : HO), B.H a = some u → ¬ B.L a → B.F a = none → F a = none
  bL : ∀ a : Addr, B.L a → ∃ u, H a = some u
  pin : ∀ p ∈ B.pin, σ[p.1]? = some p.2
def RVok (W : Wd) (B : Bs) (F H : Hp) (σ : St) (ρ : DEnv) (v : V) : RV → Prop
  | .pure d => Rp W F v d
  | .tmp ob => ∃ a u, v = .ref a ∧ F a = none ∧ H a = some u ∧ OR W F a u ob ∧ B.H a = none ∧ ∀ (i : Nat) (ob' : OB), HasD ρ i (.own ob') → ¬ HasV σ i (.ref a)
  | .slot i => HasV σ i v
  | .raw u => v = u
def EXok (W : Wd) (F H : Hp) (d : Addr) (x : EX) : Prop := ∃ fs : List (Str × V), H d = some (.xd fs) ∧ Paired (fun (p : Str × V) (q : Str × D) => p.1 = q.1 ∧ Rp W F p.2 q.2) fs x.fs
abbrev EK := EX → DEnv → Prop
abbrev TD := DEnv → (RV → DEnv → Prop) → EK → Prop
abbrev TDB := DEnv → (Bool → DEnv → Prop) → EK → Prop
abbrev TDA := DEnv → (List RV → DEnv → Prop) → EK → Prop
inductive Fl where
  | nx | bk | ct
  | rt (r : RV)
abbrev TDS := DEnv → (Fl → DEnv → Prop) → EK → Prop
def AX (W : Wd) (B : Bs) (F : Hp) (σ : St) (Wx : WX) : EK := fun x ρ' => ∀ d F' H', Le F F' → RE W B F' H' σ ρ' → EXok W F' H' d x → Wx (.ref x.cls) (some d) σ H'
def AXS (W : Wd) (B : Bs) (Wx : WX) : EK := fun x ρ' => ∀ d σ' F' H', RE W B F' H' σ' ρ' → EXok W F' H' d x → Wx (.ref x.cls) (some d) σ' H'
def AE (W : Wd) (Wx : WX) (B : Bs) (t : TD) : TE := fun σ H Q => ∃ F ρ, RE W B F H σ ρ ∧ t ρ (fun r ρ' => ∀ v F' H', Le F F' → RE W B F' H' σ ρ' → RVok W B F' H' σ ρ' v r → Q v H') (AX W B F σ Wx)
def AT (W : Wd) (Wx : WX) (B : Bs) (t : TDB) : TT := fun σ H Q => ∃ F ρ, RE W B F H σ ρ ∧ t ρ (fun b ρ' => ∀ F' H', Le F F' → RE W B F' H' σ ρ' → Q b H') (AX W B F σ Wx)
/-- arguments: new objects among them are frozen, so that the others' making cannot touch them -/
inductive RVs (W : Wd) (B : Bs) (F H : Hp) (σ : St) (ρ : DEnv) : List V → List RV → Prop
  | nil : RVs W B F H σ ρ [] []
  | cons {v : V} {r : RV} {vs : List V} {rs : List RV} : (∀ o, r ≠ .tmp o) → RVok W B F H σ ρ v r → RVs W B F H σ ρ vs rs → RVs W B F H σ ρ (v :: vs) (r :: rs)
def AA (W : Wd) (Wx : WX) (B : Bs) (t : TDA) : TA := fun σ H Q => ∃ F ρ, RE W B F H σ ρ ∧ t ρ (fun rs ρ' => ∀ vs F' H', Le F F' → RE W B F' H' σ ρ' → RVs W B F' H' σ ρ' vs rs → Q vs H') (AX W B F σ Wx)
def KS (W : Wd) (B : Bs) (D : Ends) : Fl → DEnv → Prop
  | .nx, ρ' => ∀ σ' F' H', RE W B F' H' σ' ρ' → D.nx σ' H'
  | .bk, ρ' => ∀ σ' F' H', RE W B F' H' σ' ρ' → D.bk σ' H'
  | .ct, ρ' => ∀ σ' F' H', RE W B F' H' σ' ρ' → D.ct σ' H'
  | .rt r, ρ' => ∀ v σ' F' H', RE W B F' H' σ' ρ' → RVok W B F' H' σ' ρ' v r → D.rt v H'
def AS (W : Wd) (Wx : WX) (B : Bs) (g : TDS) : TS := fun D σ H => ∃ F ρ, RE W B F H σ ρ ∧ g ρ (KS W B D) (AXS W B Wx)
/-- larger wishes -/
def Mono {α : Type} (t : DEnv → (α → DEnv → Prop) → EK → Prop) : Prop := ∀ ρ Q Q' E E', t ρ Q E → (∀ r ρ', Q r ρ' → Q' r ρ') → (∀ x ρ', E x ρ' → E' x ρ') → t ρ Q' E'
structure DE (X : Cx) (Wx : WX) (e : Expr) (t : TD) : Prop where
  run : ∀ B, PE X e (AE (wdOf X) Wx B t)
  mono : Mono t
structure DT (X : Cx) (Wx : WX) (e : Expr) (t : TDB) : Prop where
  run : ∀ B, PT X e (AT (wdOf X) Wx B t)
  mono : Mono t
structure DA (X : Cx) (Wx : WX) (es : List Expr) (t : TDA) : Prop where
  run : ∀ B, PA X es (AA (wdOf X) Wx B t)
  mono : Mono t
/-- ios: the slots that are never stored to -/
structure DS (X : Cx) (Wx : WX) (ios : List Nat) (st : Stmt) (g : TDS) : Prop where
  run : ∀ B, B.pin.map (·.1) = ios → PS X st (AS (wdOf X) Wx B g)
  mono : Mono g
structure DSs (X : Cx) (Wx : WX) (ios : List Nat) (sts : List Stmt) (g : TDS) : Prop where
  run : ∀ B, B.pin.map (·.1) = ios → PSs X sts (AS (wdOf X) Wx B g)
  mono : Mono g
theorem PE.imp {X : Cx} {e : Expr} {t t' : TE} (h : PE X e t') (f : ∀ σ H Q, t σ H Q → t' σ H Q) : PE X e t := ⟨fun pins s σ H Q I hw => h.run pins s σ H Q I (f σ H Q hw)⟩
theorem PT.imp {X : Cx} {e : Expr} {t t' : TT} (h : PT X e t') (f : ∀ σ H Q, t σ H Q → t' σ H Q) : PT X e t := ⟨fun pins s σ H Q I hw => h.run pins s σ H Q I (f σ H Q hw)⟩
theorem PW.imp {X : Cx} {e : Expr} {t t' : TT} (h : PW X e t') (f : ∀ σ H Q, t σ H Q → t' σ H Q) : PW X e t := ⟨fun wh pins s σ H Q I hw => h.run wh pins s σ H Q I (f σ H Q hw)⟩
theorem PA.imp {X : Cx} {es : List Expr} {t t' : TA} (h : PA X es t') (f : ∀ σ H Q, t σ H Q → t' σ H Q) : PA X es t := ⟨fun pos pins s σ H Q I hw => h.run pos pins s σ H Q I (f σ H Q hw)⟩
theorem PS.imp {X : Cx} {st : Stmt} {t t' : TS} (h : PS X st t') (f : ∀ D σ H, t D σ H → t' D σ H) : PS X st t := ⟨fun pins s σ H D I hw => h.run pins s σ H D I (f D σ H hw)⟩
theorem PSs.imp {X : Cx} {st : List Stmt} {t t' : TS} (h : PSs X st t') (f : ∀ D σ H, t D σ H → t' D σ H) : PSs X st t := ⟨fun pins s σ H D I hw => h.run pins s σ H D I (f D σ H hw)⟩
section
variable {W : Wd} {B : Bs} {F F' H H' : Hp} {σ : St} {ρ : DEnv}
theorem RE.sqL (I : RE W B F H σ ρ) {K : PySem.W.Frag} {a : Addr} {xs : List V} (h : SqL K F a xs) : SqL K H a xs := by
  rcases h with (h | ⟨o, h⟩) | h
  · exact .inl (I.fle _ _ h)
  · exact absurd h (I.nfz _ _ _)
  · exact .inr h
theorem RE.sqT (I : RE W B F H σ ρ) {K : PySem.W.Frag} {a : Addr} {xs : List V} (h : SqT K F a xs) : SqT K H a xs := by
  rcases h with (h | ⟨o, h⟩) | h
  · exact .inl (I.fle _ _ h)
  · exact absurd h (I.nfz _ _ _)
  · exact .inr h
theorem RE.fnone (I : RE W B F H σ ρ) {p : Addr} (h : H p = none) : F p = none := by
  cases e : F p with
  | none => rfl
  | some u =>
    rcases I.fle _ _ e with q | ⟨o, q⟩
    · rw [h] at q; cases q
    · rw [h] at q; cases q
theorem Rd.upd {H : Hp} {a p : Addr} {u o : HO} (h : H p = none) (r : Rd H a u) : Rd (L2.upd H p o) a u := by
  rcases r with r | ⟨z, r⟩
  · exact .inl (by rw [upd_ne (ne_of_none r h)]; exact r)
  · exact .inr ⟨z, by rw [upd_ne (ne_of_none r h)]; exact r⟩
theorem SV.mono {v : V} {H H' : Hp} (l : Le F F') (hk : ∀ a u, v = .ref a → F a = none → H a = some u → F' a = none ∧ H' a = some u) : ∀ {dv : DV}, SV W F H v dv → SV W F' H' v dv
  | .pure _, h => Rp.mono l h
  | .own _, ⟨a, u, e, f, h, r⟩ => ⟨a, u, e, (hk a u e f h).1, (hk a u e f h).2, OR.mono l r⟩
  | .raw _, h => h
/-- a new object laid, not frozen -/
theorem RE.laid (I : RE W B F H σ ρ) {p : Addr} {o : HO} (h : H p = none) : RE W B F (upd H p o) σ ρ where
  len := I.len
  fle := fun a u e => Rd.upd h (I.fle a u e)
  nfz := I.nfz
  sl := fun i dv e => let ⟨v, e1, s⟩ := I.sl i dv e; ⟨v, e1, SV.mono (Le.refl F) (fun a u _ f q => ⟨f, by rw [upd_ne (ne_of_none q h)]; exact q⟩) s⟩
  dis := I.dis
  ownb := I.ownb
  bF := I.bF
  bH := fun a u e n => have q := I.bH a u e n; q.upd (q.ne h) (Le.refl F)
  bN := I.bN
  bL := fun a e => let ⟨u, q⟩ := I.bL a e; ⟨u, by rw [upd_ne (ne_of_none q h)]; exact q⟩
  pin := I.pin
/-- a new object laid and frozen -/
theorem RE.laidF (I : RE W B F H σ ρ) {p : Addr} {o : HO} (h : H p = none) (hz : ∀ z u, o ≠ .frz z u) : RE W B (upd F p o) (upd H p o) σ ρ where
  len := I.len
  fle := fun a u e => by
    by_cases c : a = p
    · subst c; rw [upd_same] at e; cases e; exact .inl upd_same
    · rw [upd_ne c] at e; exact Rd.upd h (I.fle a u e)
  nfz := fun a z u e => by
    by_cases c : a = p
    · subst c; rw [upd_same] at e; cases e; exact hz _ _ rfl
    · rw [upd_ne c] at e; exact I.nfz a z u e
  sl := fun i dv e => let ⟨v, e1, s⟩ := I.sl i dv e; ⟨v, e1, SV.mono (Le.upd (I.fnone h)) (fun a u _ f q => ⟨by rw [upd_ne (ne_of_none q h)]; exact f, by rw [upd_ne (ne_of_none q h)]; exact q⟩) s⟩
  dis := I.dis
  ownb := I.ownb
  bF := Le.trans I.bF (Le.upd (I.fnone h))
  bH := fun a u e n => have q := I.bH a u e n; q.upd (q.ne h) (Le.upd (I.fnone h))
  bN := fun a u e n f => by have q := I.bH a u e n; rw [upd_ne (q.ne h)]; exact I.bN a u e n f
  bL := fun a e => let ⟨u, q⟩ := I.bL a e; ⟨u, by rw [upd_ne (ne_of_none q h)]; exact q⟩
  pin := I.pin
theorem OR.nofrz {W : Wd} {F : Hp} {a : Addr} {u : HO} : ∀ {o : OB}, OR W F a u o → ∀ z y, u ≠ .frz z y
  | .lst _, ⟨xs, e, r⟩ => by subst e; intro z y q; cases q
  | .dic _, ⟨xs, e, r⟩ => by subst e; intro z y q; cases q
/-- a tracked object that no slot owns is frozen -/
theorem RE.freeze (I : RE W B F H σ ρ) {a : Addr} {u : HO} (f : F a = none) (h : H a = some u) (hz : ∀ z y, u ≠ .frz z y) (hb : B.L a ∨ B.H a = none) (no : ∀ (i : Nat) (ob : OB), HasD ρ i (.own ob) → ¬ HasV σ i (.ref a)) : RE W B (upd F a u) H σ ρ where
  len := I.len
  fle := fun b y e => by
    by_cases c : b = a
    · subst c; rw [upd_same] at e; cases e; exact .inl h
    · rw [upd_ne c] at e; exact I.fle b y e
  nfz := fun b z y e => by
    by_cases c : b = a
    · subst c; rw [upd_same] at e; cases e; exact hz _ _ rfl
    · rw [upd_ne c] at e; exact I.nfz b z y e
  sl := fun i dv e => by
    obtain ⟨v, e1, s⟩ := I.sl i dv e
    refine ⟨v, e1, ?_⟩
    cases dv with
    | pure d => exact Rp.mono (Le.upd f) s
    | raw x => exact s
    | own ob =>
      obtain ⟨b, y, ev, f', h', r⟩ := s
      have c : b ≠ a := fun c => by subst c; subst ev; exact no i ob e e1
      exact ⟨b, y, ev, by rw [upd_ne c]; exact f', h', OR.mono (Le.upd f) r⟩
  dis := I.dis
  ownb := I.ownb
  bF := Le.trans I.bF (Le.upd f)
  bH := fun b y e n => (I.bH b y e n).mono (Le.upd f)
  bN := fun b y e n q => by
    have c : b ≠ a := fun c => by
      subst c
      rcases hb with z | z
      · exact n z
      · rw [e] at z; cases z
    rw [upd_ne c]
    exact I.bN b y e n q
  bL := I.bL
  pin := I.pin
/-- a slot forgotten or turned to what it is -/
theorem RE.slotTo (I : RE W B F H σ ρ) {i : Nat} {o : Option DV} (ho : ∀ dv, o = some dv → (∀ ob, dv ≠ .own ob) ∧ ∃ v, HasV σ i v ∧ SV W F H v dv) : RE W B F H σ (ρ.set i o) := by
  have key : ∀ {j : Nat} {dv : DV}, HasD (ρ.set i o) j dv → (j = i ∧ o = some dv) ∨ (j ≠ i ∧ HasD ρ j dv) := fun {j dv} e => by
    unfold HasD at e
    by_cases c : j = i
    · subst c
      by_cases l : j < ρ.length
      · rw [List.getElem?_set_self l] at e
        exact .inl ⟨rfl, Option.some.inj e⟩
      · rw [List.getElem?_eq_none (by simpa using Nat.le_of_not_lt l)] at e
        cases e
    · rw [List.getElem?_set_ne (Ne.symm c)] at e
      exact .inr ⟨c, e⟩
  refine ⟨by simpa using I.len, I.fle, I.nfz, fun j dv e => ?_, fun j k a ob ob' n e1 e2 => ?_, fun j a ob e => ?_, I.bF, I.bH, I.bN, I.bL, I.pin⟩
  · rcases key e with ⟨rfl, q⟩ | ⟨_, q⟩
    · exact (ho dv q).2
    · exact I.sl j dv q
  · rcases key e1 with ⟨rfl, q⟩ | ⟨_, q⟩
    · exact absurd rfl ((ho _ q).1 ob)
    · rcases key e2 with ⟨rfl, q2⟩ | ⟨_, q2⟩
      · exact absurd rfl ((ho _ q2).1 ob')
      · exact I.dis j k a ob ob' n q q2
  · rcases key e with ⟨rfl, q⟩ | ⟨_, q⟩
    · exact absurd rfl ((ho _ q).1 ob)
    · exact I.ownb j a ob q
/-- the object that slot i owns is frozen -/
theorem RE.freezeSlot (I : RE W B F H σ ρ) {i : Nat} {ob : OB} (hd : HasD ρ i (.own ob)) : ∃ F', Le F F' ∧ RE W B F' H σ (ρ.set i (some (.pure ob.data))) ∧ ∃ v, HasV σ i v ∧ Rp W F' v ob.data := by
  obtain ⟨v, hv, a, u, ev, f, h, r⟩ := I.sl i _ hd
  subst ev
  have I1 : RE W B F H σ (ρ.set i none) := I.slotTo fun dv q => by cases q
  have hl : i < ρ.length := (List.getElem?_eq_some_iff.mp hd).1
  have no : ∀ (j : Nat) (ob' : OB), HasD (ρ.set i none) j (.own ob') → ¬ HasV σ j (.ref a) := fun j ob' e q => by
    by_cases c : j = i
    · subst c
      unfold HasD at e
      rw [List.getElem?_set_self hl] at e
      cases e
    · unfold HasD at e
      rw [List.getElem?_set_ne (Ne.symm c)] at e
      exact I.dis i j a ob ob' (Ne.symm c) hd e hv q
  have I2 := I1.freeze f h r.nofrz (I.ownb i a ob hd hv) no
  have rp : Rp W (upd F a u) (.ref a) ob.data := OR.rp upd_same (OR.mono (Le.upd f) r)
  have I3 := I2.slotTo (i := i) (o := some (.pure ob.data)) fun dv q => by
    cases q
    exact ⟨(fun _ z => nomatch z), _, hv, rp⟩
  rw [List.set_set] at I3
  exact ⟨_, Le.upd f, I3, _, hv, rp⟩
/-- the object that slot i owns is written -/
theorem RE.write (I : RE W B F H σ ρ) {i : Nat} {ob ob' : OB} {a : Addr} {u : HO} (hd : HasD ρ i (.own ob)) (hv : HasV σ i (.ref a)) (r : OR W F a u ob') : RE W B F (upd H a u) σ (ρ.set i (some (.own ob'))) := by
  obtain ⟨v, hv', a0, u', ev, f, h, _⟩ := I.sl i _ hd
  unfold HasV at hv hv'
  rw [hv] at hv'
  cases hv'
  cases ev
  have hl : i < ρ.length := (List.getElem?_eq_some_iff.mp hd).1
  have key : ∀ {j : Nat} {dv : DV}, HasD (ρ.set i (some (.own ob'))) j dv → (j = i ∧ dv = .own ob') ∨ (j ≠ i ∧ HasD ρ j dv) := fun {j dv} e => by
    unfold HasD at e
    by_cases c : j = i
    · subst c
      rw [List.getElem?_set_self hl] at e
      exact .inl ⟨rfl, (Option.some.inj (Option.some.inj e)).symm⟩
    · rw [List.getElem?_set_ne (Ne.symm c)] at e
      exact .inr ⟨c, e⟩
  have old : ∀ {j : Nat} {dv : DV}, HasD (ρ.set i (some (.own ob'))) j dv → ∀ ob2, dv = .own ob2 → ∃ ob3, HasD ρ j (.own ob3) := fun {j dv} e ob2 z => by
    rcases key e with ⟨rfl, _⟩ | ⟨_, q⟩
    · exact ⟨ob, hd⟩
    · exact ⟨ob2, z ▸ q⟩
  refine ⟨by simpa using I.len, fun b y e => ?_, I.nfz, fun j dv e => ?_, fun j k b o1 o2 n e1 e2 => ?_, fun j b o e q => ?_, I.bF, fun b y e n => ?_, I.bN, fun b e => ?_, I.pin⟩
  · have c : b ≠ a := fun c => by subst c; rw [f] at e; cases e
    rcases I.fle b y e with q | ⟨z, q⟩
    · exact .inl (by rw [upd_ne c]; exact q)
    · exact .inr ⟨z, by rw [upd_ne c]; exact q⟩
  · rcases key e with ⟨rfl, rfl⟩ | ⟨c, q⟩
    · exact ⟨_, hv, a, u, rfl, f, upd_same, r⟩
    · obtain ⟨v, e1, s⟩ := I.sl j dv q
      refine ⟨v, e1, ?_⟩
      cases dv with
      | pure d => exact s
      | raw x => exact s
      | own o3 =>
        obtain ⟨b, y, ev, f', h', r'⟩ := s
        have cb : b ≠ a := fun cb => by subst cb; subst ev; exact I.dis i j b ob o3 (Ne.symm c) hd q hv e1
        exact ⟨b, y, ev, f', by rw [upd_ne cb]; exact h', r'⟩
  · obtain ⟨o3, q1⟩ := old e1 _ rfl
    obtain ⟨o4, q2⟩ := old e2 _ rfl
    exact I.dis j k b o3 o4 n q1 q2
  · obtain ⟨o3, q1⟩ := old e _ rfl
    exact I.ownb j b o3 q1 q
  · have c : b ≠ a := fun c => by
      subst c
      rcases I.ownb i b ob hd hv with z | z
      · exact n z
      · rw [e] at z; cases z
    exact (I.bH b y e n).upd c (Le.refl F)
  · by_cases c : b = a
    · subst c; exact ⟨u, upd_same⟩
    · rw [upd_ne c]; exact I.bL b e
/-- a slot stored to -/
theorem RE.store (I : RE W B F H σ ρ) {i : Nat} {v : V} {dv : DV} (np : i ∉ B.pin.map (·.1)) (s : SV W F H v dv) (hl : i < σ.length)
    (ho : ∀ ob, dv = .own ob → ∀ a, v = .ref a → (B.L a ∨ B.H a = none) ∧ ∀ (j : Nat) (ob' : OB), j ≠ i → HasD ρ j (.own ob') → ¬ HasV σ j (.ref a)) : RE W B F H (σ.set i (some v)) (ρ.set i (some dv)) := by
  have hl' : i < ρ.length := I.len ▸ hl
  have key : ∀ {j : Nat} {dw : DV}, HasD (ρ.set i (some dv)) j dw → (j = i ∧ dw = dv) ∨ (j ≠ i ∧ HasD ρ j dw) := fun {j dw} e => by
    unfold HasD at e
    by_cases c : j = i
    · subst c
      rw [List.getElem?_set_self hl'] at e
      exact .inl ⟨rfl, (Option.some.inj (Option.some.inj e)).symm⟩
    · rw [List.getElem?_set_ne (Ne.symm c)] at e
      exact .inr ⟨c, e⟩
  have kv : ∀ {j : Nat} {w : V}, HasV (σ.set i (some v)) j w → (j = i ∧ w = v) ∨ (j ≠ i ∧ HasV σ j w) := fun {j w} e => by
    unfold HasV at e
    by_cases c : j = i
    · subst c
      rw [List.getElem?_set_self hl] at e
      exact .inl ⟨rfl, (Option.some.inj (Option.some.inj e)).symm⟩
    · rw [List.getElem?_set_ne (Ne.symm c)] at e
      exact .inr ⟨c, e⟩
  refine ⟨by simpa using I.len, I.fle, I.nfz, fun j dw e => ?_, fun j k a o1 o2 n e1 e2 e3 e4 => ?_, fun j a o e q => ?_, I.bF, I.bH, I.bN, I.bL, fun p hp => ?_⟩
  · rcases key e with ⟨rfl, rfl⟩ | ⟨c, q⟩
    · exact ⟨v, List.getElem?_set_self hl, s⟩
    · obtain ⟨w, e1, s1⟩ := I.sl j dw q
      exact ⟨w, (List.getElem?_set_ne (Ne.symm c)).trans e1, s1⟩
  · rcases key e1 with ⟨rfl, z1⟩ | ⟨c1, q1⟩
    · rcases kv e3 with ⟨_, zv⟩ | ⟨c, _⟩
      · rcases key e2 with ⟨rfl, _⟩ | ⟨c2, q2⟩
        · exact n rfl
        · rcases kv e4 with ⟨rfl, _⟩ | ⟨_, y4⟩
          · exact n rfl
          · exact (ho o1 z1.symm a zv.symm).2 k o2 c2 q2 y4
      · exact c rfl
    · rcases kv e3 with ⟨rfl, _⟩ | ⟨_, y3⟩
      · exact c1 rfl
      · rcases key e2 with ⟨rfl, z2⟩ | ⟨c2, q2⟩
        · rcases kv e4 with ⟨_, zv⟩ | ⟨c, _⟩
          · exact (ho o2 z2.symm a zv.symm).2 j o1 c1 q1 y3
          · exact c rfl
        · rcases kv e4 with ⟨rfl, _⟩ | ⟨_, y4⟩
          · exact c2 rfl
          · exact I.dis j k a o1 o2 n q1 q2 y3 y4
  · rcases key e with ⟨rfl, z⟩ | ⟨c1, q1⟩
    · rcases kv q with ⟨_, zv⟩ | ⟨c, _⟩
      · exact (ho o z.symm a zv.symm).1
      · exact absurd rfl c
    · rcases kv q with ⟨rfl, _⟩ | ⟨_, y⟩
      · exact absurd rfl c1
      · exact I.ownb j a o q1 y
  · have c : p.1 ≠ i := fun c => np (c ▸ List.mem_map_of_mem hp)
    exact (List.getElem?_set_ne (Ne.symm c)).trans (I.pin p hp)
/-- a slot emptied -/
theorem RE.wipe (I : RE W B F H σ ρ) {i : Nat} (np : i ∉ B.pin.map (·.1)) : RE W B F H (σ.set i none) (ρ.set i none) := by
  have key : ∀ {j : Nat} {dw : DV}, HasD (ρ.set i none) j dw → j ≠ i ∧ HasD ρ j dw := fun {j dw} e => by
    unfold HasD at e
    by_cases c : j = i
    · subst c
      by_cases l : j < ρ.length
      · rw [List.getElem?_set_self l] at e; cases e
      · rw [List.getElem?_eq_none (by simpa using Nat.le_of_not_lt l)] at e; cases e
    · rw [List.getElem?_set_ne (Ne.symm c)] at e
      exact ⟨c, e⟩
  have kv : ∀ {j : Nat} {w : V}, j ≠ i → HasV (σ.set i none) j w → HasV σ j w := fun {j w} c e => by
    unfold HasV at e
    rw [List.getElem?_set_ne (Ne.symm c)] at e
    exact e
  refine ⟨by simpa using I.len, I.fle, I.nfz, fun j dw e => ?_, fun j k a o1 o2 n e1 e2 e3 e4 => ?_, fun j a o e q => ?_, I.bF, I.bH, I.bN, I.bL, fun p hp => ?_⟩
  · obtain ⟨c, q⟩ := key e
    obtain ⟨w, e1, s1⟩ := I.sl j dw q
    exact ⟨w, (List.getElem?_set_ne (Ne.symm c)).trans e1, s1⟩
  · exact I.dis j k a o1 o2 n (key e1).2 (key e2).2 (kv (key e1).1 e3) (kv (key e2).1 e4)
  · exact I.ownb j a o (key e).2 (kv (key e).1 q)
  · have c : p.1 ≠ i := fun c => np (c ▸ List.mem_map_of_mem hp)
    exact (List.getElem?_set_ne (Ne.symm c)).trans (I.pin p hp)
end
/-- the data of a result -/
def rvData (ρ : DEnv) : RV → Option D
  | .pure d => some d
  | .tmp o => some o.data
  | .slot i => (match ρ[i]? with
    | some (some (.pure d)) => some d
    | some (some (.own o)) => some o.data
    | _ => none)
  | .raw _ => none
/-- the value v may be read as the data d now -/
inductive View (W : Wd) (F H : Hp) : V → D → Prop
  | rp {v : V} {d : D} : Rp W F v d → View W F H v d
  | own {a : Addr} {u : HO} {o : OB} : F a = none → H a = some u → OR W F a u o → View W F H (.ref a) o.data
section
variable {W : Wd} {B : Bs} {F F' H H' : Hp} {σ : St} {ρ : DEnv} {v : V} {r : RV} {d : D}
theorem view_of (I : RE W B F H σ ρ) (h : RVok W B F H σ ρ v r) (e : rvData ρ r = some d) : View W F H v d := by
  cases r with
  | pure d' => cases e; exact .rp h
  | tmp o =>
    obtain ⟨a, u, ev, f, hh, q, _⟩ := h
    cases e
    subst ev
    exact .own f hh q
  | slot i =>
    cases q : ρ[i]? with
    | none => simp only [rvData, q] at e; cases e
    | some x =>
      cases x with
      | none => simp only [rvData, q] at e; cases e
      | some dv =>
        obtain ⟨v', hv', s⟩ := I.sl i dv q
        have hv : HasV σ i v := h
        unfold HasV at hv hv'
        rw [hv] at hv'
        cases hv'
        cases dv with
        | pure d' => simp only [rvData, q] at e; cases e; exact .rp s
        | own o =>
          simp only [rvData, q] at e
          cases e
          obtain ⟨a, u, ev, f, hh, r⟩ := s
          subst ev
          exact .own f hh r
        | raw x => simp only [rvData, q] at e; cases e
  | raw x => cases e
theorem View.list (I : RE W B F H σ ρ) {ds : List D} (h : View W F H v (.list ds)) : ∃ a xs, v = .ref a ∧ Rd H a (.lst xs) ∧ RpAll W F xs ds := by
  generalize e : (PyData.list ds : D) = z at h
  cases h with
  | rp h =>
    subst e
    cases h with
    | lst hs ha => exact ⟨_, _, rfl, I.fle _ _ hs, ha⟩
  | own f hh r =>
    rename_i a u o
    cases o with
    | lst ds' =>
      cases e
      obtain ⟨xs, eu, ra⟩ := r
      subst eu
      exact ⟨_, _, rfl, .inl hh, ra⟩
    | dic _ => cases e
theorem View.tup (I : RE W B F H σ ρ) {ds : List D} (h : View W F H v (.tuple ds)) : ∃ a xs, v = .ref a ∧ SqT W.K H a xs ∧ RpAll W F xs ds ∧ Rp W F v (.tuple ds) := by
  generalize e : (PyData.tuple ds : D) = z at h
  cases h with
  | rp h =>
    subst e
    have h' := h
    cases h with
    | tup hs ha => exact ⟨_, _, rfl, I.sqT hs, ha, h'⟩
  | own f hh r =>
    rename_i a u o
    cases o with
    | lst _ => cases e
    | dic _ => cases e
theorem View.dict (I : RE W B F H σ ρ) {kvs : List (D × D)} (h : View W F H v (.dict kvs)) : ∃ a xs, v = .ref a ∧ Rd H a (dicO W a xs) ∧ RpKV W F xs kvs := by
  generalize e : (PyData.dict kvs : D) = z at h
  cases h with
  | rp h =>
    subst e
    cases h with
    | dic hs ha => exact ⟨_, _, rfl, I.fle _ _ hs, ha⟩
  | own f hh r =>
    rename_i a u o
    cases o with
    | lst _ => cases e
    | dic kvs' =>
      cases e
      obtain ⟨xs, eu, ra⟩ := r
      subst eu
      exact ⟨_, _, rfl, .inl hh, ra⟩
theorem View.int {i : Int} (h : View W F H v (.int i)) : v = .int i := by
  generalize e : (PyData.int i : D) = z at h
  cases h with
  | rp h => subst e; cases h; rfl
  | own f hh r => rename_i a u o; cases o <;> cases e
theorem View.bool {i : Bool} (h : View W F H v (.bool i)) : v = .bl i := by
  generalize e : (PyData.bool i : D) = z at h
  cases h with
  | rp h => subst e; cases h; rfl
  | own f hh r => rename_i a u o; cases o <;> cases e
theorem View.str {i : Str} (h : View W F H v (.str i)) : v = .str i := by
  generalize e : (PyData.str i : D) = z at h
  cases h with
  | rp h => subst e; cases h; rfl
  | own f hh r => rename_i a u o; cases o <;> cases e
theorem View.non (h : View W F H v .none) : v = .non := by
  generalize e : (PyData.none : D) = z at h
  cases h with
  | rp h => subst e; cases h; rfl
  | own f hh r => rename_i a u o; cases o <;> cases e
/-- a new object as a result is frozen -/
theorem RVok.frz (I : RE W B F H σ ρ) (h : RVok W B F H σ ρ v r) : ∃ F' r', Le F F' ∧ RE W B F' H σ ρ ∧ RVok W B F' H σ ρ v r' ∧ r' = (match r with | .tmp o => .pure o.data | x => x) := by
  cases r with
  | tmp o =>
    obtain ⟨a, u, ev, f, hh, q, hb, no⟩ := h
    subst ev
    exact ⟨upd F a u, .pure o.data, Le.upd f, I.freeze f hh q.nofrz (.inr hb) no, OR.rp upd_same (OR.mono (Le.upd f) q), rfl⟩
  | pure d => exact ⟨F, _, Le.refl F, I, h, rfl⟩
  | slot i => exact ⟨F, _, Le.refl F, I, h, rfl⟩
  | raw x => exact ⟨F, _, Le.refl F, I, h, rfl⟩
theorem RVok.keep {ρ' : DEnv} (h : RVok W B F H σ ρ v r) (nt : ∀ o, r ≠ .tmp o) (l : Le F F') : RVok W B F' H' σ ρ' v r := by
  cases r with
  | tmp o => exact absurd rfl (nt o)
  | pure d => exact Rp.mono l h
  | slot i => exact h
  | raw x => exact h
end
def frzR : RV → RV
  | .tmp o => .pure o.data
  | x => x
theorem frzR_nt (r : RV) (o : OB) : frzR r ≠ .tmp o := by cases r <;> intro h <;> cases h
end DL
set_option Elab.async false
set_option linter.all false
set_option maxRecDepth 100000
set_option maxHeartbeats 4000000
namespace DL
open PySem PySem.Spec L2
open PyProof.Rows hiding St
section
variable {X : Cx} {Wx : WX} {a b c e : Expr} {pos : Pos} {ta tb t : TD}
theorem AX.le {W : Wd} {B : Bs} {F F' : Hp} {σ : L2.St} {x : EX} {ρ : DEnv} (l : Le F F') (h : AX W B F σ Wx x ρ) : AX W B F' σ Wx x ρ := fun d F2 H2 l2 I ok => h d F2 H2 (l.trans l2) I ok
/-- the usual end: the transformer's wish is met -/
theorem AE.of {W : Wd} {B : Bs} {F H : Hp} {σ : L2.St} {ρ : DEnv} {t : TD} {Q : VK} (m : Mono t) (I : RE W B F H σ ρ) {Qd : RV → DEnv → Prop} {E : EK} (h : t ρ Qd E)
    (q : ∀ r ρ', Qd r ρ' → ∀ v F' H', Le F F' → RE W B F' H' σ ρ' → RVok W B F' H' σ ρ' v r → Q v H') (qe : ∀ x ρ', E x ρ' → AX W B F σ Wx x ρ') : AE W Wx B t σ H Q :=
  ⟨F, ρ, I, m ρ _ _ _ _ h (fun r ρ' hq => q r ρ' hq) qe⟩
def dVar (i : Nat) : TD := fun ρ Q _ => match ρ[i]? with
  | some (some (.pure d)) => Q (.pure d) ρ
  | some (some (.own _)) => Q (.slot i) ρ
  | some (some (.raw v)) => Q (.raw v) ρ
  | _ => False
theorem dVar.mono (i : Nat) : Mono (dVar i) := fun ρ Q Q' E E' h hq _ => by
  unfold dVar at h ⊢
  split at h <;> first | exact hq _ _ h | exact h
theorem de_of {i : Nat} (h : PE X e (tVar i)) : DE X Wx e (dVar i) := by
  refine ⟨fun B => PE.imp h fun σ H Q hh => ?_, dVar.mono i⟩
  obtain ⟨F, ρ, I, hv⟩ := hh
  unfold dVar at hv
  split at hv
  · rename_i d eq
    obtain ⟨v, e1, s⟩ := I.sl i _ eq
    exact ⟨v, e1, hv v F H (Le.refl F) I s⟩
  · rename_i o eq
    obtain ⟨v, e1, s⟩ := I.sl i _ eq
    exact ⟨v, e1, hv v F H (Le.refl F) I e1⟩
  · rename_i x eq
    obtain ⟨v, e1, s⟩ := I.sl i _ eq
    exact ⟨v, e1, hv v F H (Le.refl F) I s⟩
  · exact hv.elim
def dC (d : D) : TD := fun ρ Q _ => Q (.pure d) ρ
theorem dC.mono (d : D) : Mono (dC d) := fun _ _ _ _ _ h hq _ => hq _ _ h
theorem de_c {v : V} {d : D} (h : PE X e (tC v)) (r : ∀ F, Rp (wdOf X) F v d) : DE X Wx e (dC d) := by
  refine ⟨fun B => PE.imp h fun σ H Q hh => ?_, dC.mono d⟩
  obtain ⟨F, ρ, I, hv⟩ := hh
  exact hv v F H (Le.refl F) I (r F)
theorem de_int {i j pos} : DE X Wx (.Constant (.int i) j pos) (dC (.int i)) := de_c pe_int fun _ => .int i
theorem de_bl {b j pos} : DE X Wx (.Constant (.bool b) j pos) (dC (.bool b)) := de_c pe_bl fun _ => .bl b
theorem de_non {j pos} : DE X Wx (.Constant .none j pos) (dC .none) := de_c pe_non fun _ => .non
theorem de_str {x j pos} : DE X Wx (.Constant (.str x) j pos) (dC (.str x)) := de_c pe_str fun _ => .str x
def dRaw (v : V) : TD := fun ρ Q _ => Q (.raw v) ρ
theorem dRaw.mono (v : V) : Mono (dRaw v) := fun _ _ _ _ _ h hq _ => hq _ _ h
theorem de_raw {v : V} (h : PE X e (tC v)) : DE X Wx e (dRaw v) := by
  refine ⟨fun B => PE.imp h fun σ H Q hh => ?_, dRaw.mono v⟩
  obtain ⟨F, ρ, I, hv⟩ := hh
  exact hv v F H (Le.refl F) I rfl
def dNil : TDA := fun ρ Q _ => Q [] ρ
def dCons (t : TD) (u : TDA) : TDA := fun ρ Q E => t ρ (fun r ρ1 => u ρ1 (fun rs ρ2 => Q (frzR r :: rs) ρ2) E) E
theorem dNil.mono : Mono dNil := fun _ _ _ _ _ h hq _ => hq _ _ h
theorem dCons.mono {u : TDA} (m : Mono t) (n : Mono u) : Mono (dCons t u) := fun ρ Q Q' E E' h hq he =>
  m _ _ _ _ _ h (fun r ρ1 h1 => n _ _ _ _ _ h1 (fun rs ρ2 h2 => hq _ _ h2) he) he
theorem da_nil : DA X Wx [] dNil := by
  refine ⟨fun B => PA.imp pa_nil fun σ H Q hh => ?_, dNil.mono⟩
  obtain ⟨F, ρ, I, hv⟩ := hh
  exact hv [] F H (Le.refl F) I .nil
theorem da_cons {es : List Expr} {u : TDA} (h : DE X Wx e t) (hs : DA X Wx es u) (hst : starEach (e :: es) X.env = (false, eval e X.env) :: starEach es X.env := by rfl) : DA X Wx (e :: es) (dCons t u) := by
  refine ⟨fun B => PA.imp (pa_cons (h.run B) (hs.run B) hst) fun σ H Q hh => ?_, dCons.mono h.mono hs.mono⟩
  obtain ⟨F, ρ, I, hv⟩ := hh
  refine ⟨F, ρ, I, h.mono _ _ _ _ _ hv (fun r ρ1 h1 v F1 H1 l1 I1 ok1 => ?_) fun _ _ z => z⟩
  obtain ⟨F2, r', l2, I2, ok2, er⟩ := ok1.frz I1
  have er : r' = frzR r := by rw [er]; cases r <;> rfl
  subst er
  refine ⟨F2, ρ1, I2, hs.mono _ _ _ _ _ h1 (fun rs ρ2 h2 vs F3 H3 l3 I3 ok3 => ?_) fun _ _ z => AX.le (l1.trans l2) z⟩
  exact h2 (v :: vs) F3 H3 (l1.trans (l2.trans l3)) I3 (.cons (frzR_nt r) (ok2.keep (frzR_nt r) l3) ok3)
/-- the data of a result, as something to keep -/
def keepR (r : RV) (ρ : DEnv) (Q : D → DEnv → Prop) : Prop := match r with
  | .pure d => Q d ρ
  | .tmp o => Q o.data ρ
  | .slot i => (match ρ[i]? with
    | some (some (.pure d)) => Q d ρ
    | some (some (.own o)) => Q o.data (ρ.set i (some (.pure o.data)))
    | _ => False)
  | .raw _ => False
theorem keepR.mono {r : RV} {ρ : DEnv} {Q Q' : D → DEnv → Prop} (h : keepR r ρ Q) (hq : ∀ d ρ', Q d ρ' → Q' d ρ') : keepR r ρ Q' := by
  cases r with
  | pure d => exact hq _ _ h
  | tmp o => exact hq _ _ h
  | slot i =>
    unfold keepR at h ⊢
    dsimp only at h ⊢
    split at h <;> first | exact hq _ _ h | exact h
  | raw x => exact h
theorem keep_of {W : Wd} {B : Bs} {F H : Hp} {σ : L2.St} {ρ : DEnv} {v : V} {r : RV} {Q : D → DEnv → Prop} (I : RE W B F H σ ρ) (ok : RVok W B F H σ ρ v r) (h : keepR r ρ Q) :
    ∃ F' ρ' d, Le F F' ∧ RE W B F' H σ ρ' ∧ Rp W F' v d ∧ Q d ρ' := by
  cases r with
  | pure d => exact ⟨F, ρ, d, Le.refl F, I, ok, h⟩
  | tmp o =>
    obtain ⟨a, u, ev, f, hh, q, hb, no⟩ := ok
    subst ev
    exact ⟨L2.upd F a u, ρ, o.data, Le.upd f, I.freeze f hh q.nofrz (.inr hb) no, OR.rp upd_same (OR.mono (Le.upd f) q), h⟩
  | slot i =>
    have hv : HasV σ i v := ok
    unfold keepR at h
    dsimp only at h
    split at h
    · rename_i d eq
      obtain ⟨v', hv', s⟩ := I.sl i _ eq
      unfold HasV at hv hv'
      rw [hv] at hv'
      cases hv'
      exact ⟨F, ρ, d, Le.refl F, I, s, h⟩
    · rename_i o eq
      obtain ⟨F', l, I', v', hv', s⟩ := I.freezeSlot (i := i) (ob := o) eq
      unfold HasV at hv hv'
      rw [hv] at hv'
      cases hv'
      exact ⟨F', _, o.data, l, I', s, h⟩
    · exact h.elim
  | raw x => exact h.elim
/-- several values kept, from the left -/
def keepAll : List RV → DEnv → (List D → DEnv → Prop) → Prop
  | [], ρ, Q => Q [] ρ
  | r :: rs, ρ, Q => keepR r ρ fun d ρ1 => keepAll rs ρ1 fun ds ρ2 => Q (d :: ds) ρ2
theorem keepAll.mono : ∀ {rs : List RV} {ρ : DEnv} {Q Q' : List D → DEnv → Prop}, keepAll rs ρ Q → (∀ d ρ', Q d ρ' → Q' d ρ') → keepAll rs ρ Q'
  | [], _, _, _, h, hq => hq _ _ h
  | _ :: _, _, _, _, h, hq => keepR.mono h fun _ _ h1 => keepAll.mono h1 fun _ _ h2 => hq _ _ h2
theorem RVs.keep {W : Wd} {B : Bs} {F F' H H' : Hp} {σ : L2.St} {ρ ρ' : DEnv} (l : Le F F') : ∀ {vs : List V} {rs : List RV}, RVs W B F H σ ρ vs rs → RVs W B F' H' σ ρ' vs rs
  | _, _, .nil => .nil
  | _, _, .cons nt ok r => .cons nt (ok.keep nt l) (r.keep l)
theorem keepAll_of {W : Wd} {B : Bs} {H : Hp} {σ : L2.St} : ∀ {F : Hp} {ρ : DEnv} {vs : List V} {rs : List RV} {Q : List D → DEnv → Prop}, RE W B F H σ ρ → RVs W B F H σ ρ vs rs → keepAll rs ρ Q →
    ∃ F' ρ' ds, Le F F' ∧ RE W B F' H σ ρ' ∧ RpAll W F' vs ds ∧ Q ds ρ'
  | F, ρ, _, _, _, I, .nil, h => ⟨F, ρ, [], Le.refl F, I, .nil, h⟩
  | F, ρ, _, _, _, I, .cons nt ok r, h => by
    obtain ⟨F1, ρ1, d, l1, I1, rp, h1⟩ := keep_of I ok h
    obtain ⟨F2, ρ2, ds, l2, I2, rps, h2⟩ := keepAll_of I1 (r.keep l1) h1
    exact ⟨F2, ρ2, d :: ds, l1.trans l2, I2, .cons (Rp.mono l2 rp) rps, h2⟩
def dTup (u : TDA) : TD := fun ρ Q E => u ρ (fun rs ρ1 => keepAll rs ρ1 fun ds ρ2 => ds.length ≤ sizeLine ∧ Q (.pure (.tuple ds)) ρ2) E
def dLst (u : TDA) : TD := fun ρ Q E => u ρ (fun rs ρ1 => keepAll rs ρ1 fun ds ρ2 => ds.length ≤ sizeLine ∧ Q (.tmp (.lst ds)) ρ2) E
theorem dTup.mono {u : TDA} (m : Mono u) : Mono (dTup u) := fun ρ Q Q' E E' h hq he => m _ _ _ _ _ h (fun rs ρ1 h1 => keepAll.mono h1 fun ds ρ2 h2 => ⟨h2.1, hq _ _ h2.2⟩) he
theorem dLst.mono {u : TDA} (m : Mono u) : Mono (dLst u) := fun ρ Q Q' E E' h hq he => m _ _ _ _ _ h (fun rs ρ1 h1 => keepAll.mono h1 fun ds ρ2 h2 => ⟨h2.1, hq _ _ h2.2⟩) he
theorem rp_newtup {W : Wd} {B : Bs} {F H : Hp} {σ : L2.St} {ρ : DEnv} {vs : List V} {ds : List D} {p : Addr} (I : RE W B F H σ ρ) (h : H p = none) (r : RpAll W F vs ds) :
    Le F (L2.upd F p (.tup vs)) ∧ RE W B (L2.upd F p (.tup vs)) (L2.upd H p (.tup vs)) σ ρ ∧ Rp W (L2.upd F p (.tup vs)) (.ref p) (.tuple ds) :=
  have l : Le F (L2.upd F p (.tup vs)) := Le.upd (I.fnone h)
  ⟨l, I.laidF h (fun _ _ z => nomatch z), .tup (SqT.of upd_same) (RpAll.mono l r)⟩
theorem RE.bnone {W : Wd} {B : Bs} {F H : Hp} {σ : L2.St} {ρ : DEnv} {p : Addr} (I : RE W B F H σ ρ) (h : H p = none) : B.H p = none := by
  cases e : B.H p with
  | none => rfl
  | some u =>
    by_cases c : B.L p
    · obtain ⟨y, q⟩ := I.bL p c
      rw [h] at q
      cases q
    · obtain ⟨y, q⟩ := (I.bH p u e c).ex
      rw [h] at q
      cases q
theorem ok_newobj {W : Wd} {B : Bs} {F H : Hp} {σ : L2.St} {ρ : DEnv} {u : HO} {o : OB} {p : Addr} (I : RE W B F H σ ρ) (h : H p = none) (r : OR W F p u o) :
    RE W B F (L2.upd H p u) σ ρ ∧ RVok W B F (L2.upd H p u) σ ρ (.ref p) (.tmp o) :=
  ⟨I.laid h, p, u, rfl, I.fnone h, upd_same, r, I.bnone h, fun i ob hd hv => by
    obtain ⟨v, e1, a, y, ev, f, hh, _⟩ := I.sl i _ hd
    unfold HasV at hv e1
    rw [hv] at e1
    cases e1
    cases ev
    rw [h] at hh
    cases hh⟩
end
end DL
set_option Elab.async false
set_option linter.all false
set_option maxRecDepth 100000
set_option maxHeartbeats 4000000
namespace DL
open PySem PySem.Spec L2
open PyProof.Rows hiding St
section
variable {X : Cx} {pins : List (Addr × Obj)} {σ : L2.St} {H : Hp} {s : Shared}
theorem rdL (I : Inv X pins σ H s) {l : Addr} {xs : List V} (h : Rd H l (.lst xs)) : xs.length ≤ sizeLine ∧ ∃ (its : List Value) (n : Nat), Vals xs its ∧ s.heap.get? l = some { cls := .type "list", data := .seq its.toArray n } := h.ok I.hok
def rCatR : R2 := fun x y H Q => ∃ l b xs zs, x = .ref l ∧ y = .ref b ∧ Rd H l (.lst xs) ∧ Rd H b (.lst zs) ∧ xs.length + zs.length ≤ sizeLine ∧ ∀ p, H p = none → Q (.ref p) (L2.upd H p (.lst (xs ++ zs)))
theorem op_catR : OpR X (binaryOp .Add) rCatR := by
  intro pins s σ H x y v u Q I rx ry h
  obtain ⟨l, b, xs, zs, rfl, rfl, hH, hB, hz, q⟩ := h
  cases rx
  cases ry
  obtain ⟨z, its, n, r, e⟩ := rdL I hH
  obtain ⟨z2, its2, n2, r2, e2⟩ := rdL I hB
  have hl := r.length
  have hl2 := r2.length
  refine PySem.P.add_list e e2 ?_ (by rw [List.size_toArray, List.size_toArray]; omega)
  have ea : its.toArray ++ its2.toArray = (its ++ its2).toArray := by simp
  rw [ea]
  exact ⟨.ref _, _, I.lnew (t' := s.toks) (r.append r2) (by rw [List.length_append]; omega), rfl, q _ I.fresh⟩
def rRepR : R2 := fun x y H Q => ∃ l k xs, x = .ref l ∧ y = .int k ∧ Rd H l (.lst xs) ∧ -(2 ^ 63) ≤ k ∧ k < 2 ^ 63 ∧ xs.length * k.toNat ≤ sizeLine ∧
  ∀ p, H p = none → Q (.ref p) (L2.upd H p (.lst (List.replicate k.toNat xs).flatten))
theorem op_repR : OpR X (binaryOp .Mult) rRepR := by
  intro pins s σ H x y v u Q I rx ry h
  obtain ⟨l, k, xs, rfl, rfl, hH, h1, h2, hz, q⟩ := h
  cases rx
  obtain ⟨t, rfl⟩ := ry
  obtain ⟨z, its, n, r, e⟩ := rdL I hH
  have hl := r.length
  have hlen : its.toArray.size * k.toNat ≤ sizeLine := by rw [List.size_toArray, ← hl]; exact hz
  have hcap : ¬ its.toArray.size * k.toNat > (2 ^ 63 - 1) / 8 := by
    have : (sizeLine : Nat) ≤ (2 ^ 63 - 1) / 8 := by decide
    omega
  have hfit : ¬ (!Builtin.List.listFitsIndex k) = true := by
    rw [fitsIndex_both h1 h2]
    exact Bool.false_ne_true
  have hlong : ¬ Builtin.List.listTooLong (its.toArray.size * k.toNat) = true := by
    rw [notLongL hlen]
    exact Bool.false_ne_true
  have hnew : List.foldl (fun x1 x2 => x1 ++ x2) #[] (List.replicate (if its.toArray.isEmpty = true then 0 else k.toNat) its.toArray) = (List.replicate k.toNat its).flatten.toArray := by
    have f0 : ∀ m : Nat, List.foldl (fun x1 x2 => x1 ++ x2) #[] (List.replicate m its.toArray) = (List.replicate m its).flatten.toArray := fun m => by
      have := foldl_rep its m []
      rw [List.nil_append] at this
      exact this
    rw [f0]
    cases its with
    | nil => simp
    | cons a r' => rw [if_neg (by simp)]
  refine wpAny_binaryOp_repeat_ref (T := "list") (U := "int") (by decide) ⟨_, e, rfl⟩ (fun s' => typeIs_int s' k t) noFill_list_mul F.fills_int_mul F.slot_int_rmul repeat_list F.slot_int_index.lookup
    (call_meets F.slot_int_rmul (typeIs_int s k t) F.entry_int_rmul (F.args_int_rmul_2 _ _) (int___rmul___int_list k t l its.toArray n)
      ⟨e, rfl, ⟨_, e, rfl⟩, call_meets F.slot_list_mul ⟨_, e, rfl⟩ F.entry_list_mul (F.args_list_mul_2 _ _) (AutoListH.list___mul___list_int_3 l its.toArray n k t hfit hcap hlong) ⟨e, ?_⟩⟩)
  rw [hnew]
  exact ⟨.ref _, _, I.lnew (t' := s.toks) (r.rep k.toNat) (by rw [PyProof.Rows.lm_len_rep_flat, Nat.mul_comm]; exact hz), rfl, q _ I.fresh⟩
end
section
variable {X : Cx} {Wx : WX} {a b c e : Expr} {pos : Pos} {ta tb t : TD}
abbrev G2 := D → D → (RV → Prop) → Prop
abbrev G1 := D → (RV → Prop) → Prop
/-- what the operation's rule asks is met by the data rule -/
structure GOp (X : Cx) (f : Value → Value → Sem Value) (g : G2) : Prop where
  ex : ∃ r : R2, OpR X f r ∧ ∀ (B : Bs) (F H : Hp) (σ : L2.St) (ρ : DEnv) (x y : V) (a b : D) (Q : RV → Prop) (Q' : VK), RE (wdOf X) B F H σ ρ → View (wdOf X) F H x a → View (wdOf X) F H y b → g a b Q →
    (∀ rr v F' H', Q rr → Le F F' → RE (wdOf X) B F' H' σ ρ → RVok (wdOf X) B F' H' σ ρ v rr → Q' v H') → r x y H Q'
  mono : ∀ a b (Q Q' : RV → Prop), g a b Q → (∀ r, Q r → Q' r) → g a b Q'
def dOp (g : G2) (ta tb : TD) : TD := fun ρ Q E => ta ρ (fun ra ρ1 => tb ρ1 (fun rb ρ2 => ∃ x y, rvData ρ2 (frzR ra) = some x ∧ rvData ρ2 rb = some y ∧ g x y fun r => Q r ρ2) E) E
theorem dOp.mono {g : G2} (mg : ∀ a b (Q Q' : RV → Prop), g a b Q → (∀ r, Q r → Q' r) → g a b Q') (m : Mono ta) (n : Mono tb) : Mono (dOp g ta tb) := fun ρ Q Q' E E' h hq he =>
  m _ _ _ _ _ h (fun r ρ1 h1 => n _ _ _ _ _ h1 (fun rb ρ2 ⟨x, y, e1, e2, h2⟩ => ⟨x, y, e1, e2, mg _ _ _ _ h2 fun r q => hq _ _ q⟩) he) he
theorem View.frz {W : Wd} {F F' H H' : Hp} {v : V} {d : D} (l : Le F F') (h : Rp W F v d) : View W F' H' v d := .rp (Rp.mono l h)
/-- the two operands have come -/
theorem two_of {B : Bs} {σ : L2.St} {H : Hp} {R : V → V → Hp → Prop} {g : G2} (ha : DE X Wx a ta) (hb : DE X Wx b tb) {Qd : RV → DEnv → Prop} {F : Hp} {ρ : DEnv} (I : RE (wdOf X) B F H σ ρ)
    (hv : dOp g ta tb ρ Qd (AX (wdOf X) B F σ Wx))
    (k : ∀ F2 H2 ρ2 x y da db, Le F F2 → RE (wdOf X) B F2 H2 σ ρ2 → View (wdOf X) F2 H2 x da → View (wdOf X) F2 H2 y db → (g da db fun r => Qd r ρ2) → R x y H2) :
    AE (wdOf X) Wx B ta σ H fun x H1 => AE (wdOf X) Wx B tb σ H1 fun y H2 => R x y H2 := by
  refine ⟨F, ρ, I, ha.mono _ _ _ _ _ hv (fun ra ρ1 h1 v F1 H1 l1 I1 ok1 => ?_) fun _ _ z => z⟩
  obtain ⟨F2, r', l2, I2, ok2, er⟩ := ok1.frz I1
  have er : r' = frzR ra := by rw [er]; cases ra <;> rfl
  subst er
  refine ⟨F2, ρ1, I2, hb.mono _ _ _ _ _ h1 (fun rb ρ2 ⟨x, y, e1, e2, h2⟩ u F3 H3 l3 I3 ok3 => ?_) fun _ _ z => AX.le (l1.trans l2) z⟩
  exact k F3 H3 ρ2 v u x y (l1.trans (l2.trans l3)) I3 (view_of I3 (ok2.keep (frzR_nt ra) l3) e1) (view_of I3 ok3 e2) h2
theorem de_bin {op : Operator} {g : G2} (hg : GOp X (binaryOp op) g) (ha : DE X Wx a ta) (hb : DE X Wx b tb) : DE X Wx (.BinOp a op b pos) (dOp g ta tb) := by
  obtain ⟨r, ho, hs⟩ := hg.ex
  refine ⟨fun B => PE.imp (pe_op ho (ha.run B) (hb.run B)) fun σ H Q hh => ?_, dOp.mono hg.mono ha.mono hb.mono⟩
  obtain ⟨F, ρ, I, hv⟩ := hh
  refine two_of ha hb I hv fun F2 H2 ρ2 x y da db l I2 vx vy h2 => hs B F2 H2 σ ρ2 x y da db _ Q I2 vx vy h2 fun rr v F' H' q l' I' ok => q v F' H' (l.trans l') I' ok
def gAdd : G2 := fun a b Q => match a, b with
  | .int i, .int j => Q (.pure (.int (i + j)))
  | .tuple xs, .tuple ys => xs.length + ys.length ≤ sizeLine ∧ Q (.pure (.tuple (xs ++ ys)))
  | .list xs, .list ys => xs.length + ys.length ≤ sizeLine ∧ Q (.tmp (.lst (xs ++ ys)))
  | .str x, .str y => x.length + y.length ≤ sizeLine ∧ Q (.pure (.str (x ++ y)))
  | _, _ => False
theorem g_add : GOp X (binaryOp .Add) gAdd where
  mono := fun a b Q Q' h hq => by
    unfold gAdd at h ⊢
    split at h <;> first | exact hq _ h | exact ⟨h.1, hq _ h.2⟩ | exact h.elim
  ex := by
    refine ⟨_, op_add.or (op_catA.or (op_catR.or op_add_str)), fun B F H σ ρ x y a b Q Q' I vx vy h k => ?_⟩
    unfold gAdd at h
    split at h
    · rename_i i j
      exact .inl ⟨i, j, vx.int, vy.int, k _ _ _ _ h (Le.refl F) I (Rp.int _)⟩
    · rename_i xs ys
      obtain ⟨p, us, ep, hp, rp, rx⟩ := vx.tup I
      obtain ⟨q, ws, eq, hq, rq, ry⟩ := vy.tup I
      have l1 := rp.length
      have l2 := rq.length
      refine .inr (.inl ⟨p, q, us, ws, ep, eq, hp, hq, by omega, fun e => ?_, fun _ e => ?_, fun _ _ n hn => ?_⟩)
      · subst e
        cases rp
        exact k _ _ _ _ h.2 (Le.refl F) I (by rw [← eq]; exact ry)
      · subst e
        cases rq
        exact k _ _ _ _ h.2 (Le.refl F) I (by rw [← ep, List.append_nil]; exact rx)
      · obtain ⟨l, I', r⟩ := rp_newtup I hn (rp.append rq)
        exact k _ _ _ _ h.2 l I' r
    · rename_i xs ys
      obtain ⟨p, us, ep, hp, rp⟩ := vx.list I
      obtain ⟨q, ws, eq, hq, rq⟩ := vy.list I
      have l1 := rp.length
      have l2 := rq.length
      refine .inr (.inr (.inl ⟨p, q, us, ws, ep, eq, hp, hq, by omega, fun n hn => ?_⟩))
      obtain ⟨I', r⟩ := ok_newobj I hn (u := .lst (us ++ ws)) (o := .lst (xs ++ ys)) ⟨_, rfl, rp.append rq⟩
      exact k _ _ _ _ h.2 (Le.refl F) I' r
    · rename_i i j
      exact .inr (.inr (.inr ⟨i, j, vx.str, vy.str, h.1, k _ _ _ _ h.2 (Le.refl F) I (Rp.str _)⟩))
    · exact h.elim
def gSub : G2 := fun a b Q => match a, b with
  | .int i, .int j => Q (.pure (.int (i - j)))
  | _, _ => False
theorem g_sub : GOp X (binaryOp .Sub) gSub where
  mono := fun a b Q Q' h hq => by
    unfold gSub at h ⊢
    split at h <;> first | exact hq _ h | exact h.elim
  ex := by
    refine ⟨_, op_sub, fun B F H σ ρ x y a b Q Q' I vx vy h k => ?_⟩
    unfold gSub at h
    split at h
    · rename_i i j
      exact ⟨i, j, vx.int, vy.int, k _ _ _ _ h (Le.refl F) I (Rp.int _)⟩
    · exact h.elim
def gMul : G2 := fun a b Q => match a, b with
  | .int i, .int j => CMulW i j ∧ Q (.pure (.int (i * j)))
  | .tuple xs, .int k => xs ≠ [] ∧ 2 ≤ k ∧ k ≤ 1000 ∧ xs.length ≤ 1000 ∧ Q (.pure (.tuple (List.replicate k.toNat xs).flatten))
  | .list xs, .int k => -(2 ^ 63) ≤ k ∧ k < 2 ^ 63 ∧ xs.length * k.toNat ≤ sizeLine ∧ Q (.tmp (.lst (List.replicate k.toNat xs).flatten))
  | _, _ => False
theorem g_mul : GOp X (binaryOp .Mult) gMul where
  mono := fun a b Q Q' h hq => by
    unfold gMul at h ⊢
    split at h
    · exact ⟨h.1, hq _ h.2⟩
    · obtain ⟨h1, h2, h3, h4, h⟩ := h
      exact ⟨h1, h2, h3, h4, hq _ h⟩
    · obtain ⟨h1, h2, h3, h⟩ := h
      exact ⟨h1, h2, h3, hq _ h⟩
    · exact h.elim
  ex := by
    refine ⟨_, op_mulW.or (op_repT.or op_repR), fun B F H σ ρ x y a b Q Q' I vx vy h k => ?_⟩
    unfold gMul at h
    split at h
    · rename_i i j
      exact .inl ⟨i, j, vx.int, vy.int, h.1, k _ _ _ _ h.2 (Le.refl F) I (Rp.int _)⟩
    · rename_i xs i
      obtain ⟨h1, h2, h3, h4, h⟩ := h
      obtain ⟨p, us, ep, hp, rp, rx⟩ := vx.tup I
      have l1 := rp.length
      refine .inr (.inl ⟨p, i, us, ep, vy.int, hp, fun e => ?_, h2, h3, by omega, fun n hn => ?_⟩)
      · subst e; cases rp; exact h1 rfl
      · obtain ⟨l, I', r⟩ := rp_newtup I hn (rp.rep i.toNat)
        exact k _ _ _ _ h l I' r
    · rename_i xs i
      obtain ⟨h1, h2, h3, h⟩ := h
      obtain ⟨p, us, ep, hp, rp⟩ := vx.list I
      have l1 := rp.length
      refine .inr (.inr ⟨p, i, us, ep, vy.int, hp, h1, h2, by rw [l1]; exact h3, fun n hn => ?_⟩)
      obtain ⟨I', r⟩ := ok_newobj I hn (u := .lst (List.replicate i.toNat us).flatten) (o := .lst (List.replicate i.toNat xs).flatten) ⟨_, rfl, rp.rep i.toNat⟩
      exact k _ _ _ _ h (Le.refl F) I' r
    · exact h.elim
def gII (C : Int → Int → Prop) (f : Int → Int → Int) : G2 := fun a b Q => match a, b with
  | .int i, .int j => C i j ∧ Q (.pure (.int (f i j)))
  | _, _ => False
theorem g_ii {op : Operator} {C : Int → Int → Prop} {f : Int → Int → Int} (ho : OpR X (binaryOp op) (rI C fun i j => .int (f i j))) : GOp X (binaryOp op) (gII C f) where
  mono := fun a b Q Q' h hq => by
    unfold gII at h ⊢
    split at h <;> first | exact ⟨h.1, hq _ h.2⟩ | exact h.elim
  ex := by
    refine ⟨_, ho, fun B F H σ ρ x y a b Q Q' I vx vy h k => ?_⟩
    unfold gII at h
    split at h
    · rename_i i j
      exact ⟨i, j, vx.int, vy.int, h.1, k _ _ _ _ h.2 (Le.refl F) I (Rp.int _)⟩
    · exact h.elim
abbrev gDiv : G2 := gII CDivW fun i j => i / j
theorem g_div : GOp X (binaryOp .FloorDiv) gDiv := g_ii op_fdivW
abbrev gMod : G2 := gII (fun _ j => 0 < j) fun i j => i % j
theorem g_mod : GOp X (binaryOp .Mod) gMod := g_ii op_mod
abbrev gPow : G2 := gII CPow fun i j => i ^ j.toNat
theorem g_pow : GOp X (binaryOp .Pow) gPow := g_ii op_pow
def dUn (g : G1) (ta : TD) : TD := fun ρ Q E => ta ρ (fun ra ρ1 => ∃ x, rvData ρ1 ra = some x ∧ g x fun r => Q r ρ1) E
def gNeg : G1 := fun a Q => match a with
  | .int i => Q (.pure (.int (-i)))
  | _ => False
theorem dUn.mono {g : G1} (mg : ∀ a (Q Q' : RV → Prop), g a Q → (∀ r, Q r → Q' r) → g a Q') (m : Mono ta) : Mono (dUn g ta) := fun ρ Q Q' E E' h hq he =>
  m _ _ _ _ _ h (fun r ρ1 ⟨x, e, h1⟩ => ⟨x, e, mg _ _ _ h1 fun r q => hq _ _ q⟩) he
theorem de_neg (ha : DE X Wx a ta) : DE X Wx (.UnaryOp .USub a pos) (dUn gNeg ta) := by
  refine ⟨fun B => PE.imp (pe_un un_neg (ha.run B)) fun σ H Q hh => ?_, dUn.mono (fun a Q Q' h hq => ?_) ha.mono⟩
  · obtain ⟨F, ρ, I, hv⟩ := hh
    refine ⟨F, ρ, I, ha.mono _ _ _ _ _ hv (fun r ρ1 ⟨x, e, h1⟩ v F1 H1 l1 I1 ok1 => ?_) fun _ _ z => z⟩
    have vw := view_of I1 ok1 e
    cases x with
    | int i => exact ⟨i, vw.int, h1 _ F1 H1 l1 I1 (Rp.int _)⟩
    | _ => exact h1.elim
  · cases a with
    | int i => exact hq _ h
    | _ => exact h.elim
end
end DL
set_option Elab.async false
set_option linter.all false
set_option maxRecDepth 100000
set_option maxHeartbeats 4000000
namespace DL
open PySem PySem.Spec L2
open PyProof.Rows hiding St
section
variable {W : Wd} {B : Bs} {F H : Hp} {σ : L2.St} {ρ : DEnv}
mutual
theorem Rp.dp (I : RE W B F H σ ρ) : ∀ {v : V} {d : D}, Rp W F v d → d.canLay0 = true → Dp W.K H v d
  | _, _, .non, _ => .non
  | _, _, .bl b, _ => .bl b
  | _, _, .int i, _ => .int i
  | _, _, .str x, _ => .str x
  | _, _, .lst h r, c => .lst (.inl (I.fle _ _ h)) (RpAll.dp I r (by simpa [PyData.canLay0] using c))
  | _, _, .tup h r, c => .tup (I.sqT h) (RpAll.dp I r (by simpa [PyData.canLay0] using c))
  | _, _, .dic h r, c => by simp [PyData.canLay0] at c
theorem RpAll.dp (I : RE W B F H σ ρ) : ∀ {vs : List V} {ds : List D}, RpAll W F vs ds → PyData.canLayAll0 ds = true → DpAll W.K H vs ds
  | _, _, .nil, _ => .nil
  | _, _, .cons a b, c => by
    have c' := Bool.and_eq_true_iff.mp (show (PyData.canLay0 _ && PyData.canLayAll0 _) = true from c)
    exact .cons (Rp.dp I a c'.1) (RpAll.dp I b c'.2)
end
theorem View.dp (I : RE W B F H σ ρ) {v : V} {d : D} (h : View W F H v d) (c : d.canLay0 = true) : Dp W.K H v d := by
  cases h with
  | rp h => exact Rp.dp I h c
  | own f hh r =>
    rename_i a u o
    cases o with
    | lst ds =>
      obtain ⟨xs, e, ra⟩ := r
      subst e
      exact .lst (.inl (.inl hh)) (RpAll.dp I ra (by simpa [OB.data, PyData.canLay0] using c))
    | dic kvs => simp [OB.data, PyData.canLay0] at c
end
section
variable {X : Cx} {Wx : WX} {a b c e : Expr} {rest : List Expr} {pos : Pos} {ta tb tc t : TD} {ua ub : TDB}
abbrev GC := D → D → (Bool → Prop) → Prop
/-- a comparison that changes nothing -/
structure GCmp (X : Cx) (op : CmpOp) (g : GC) : Prop where
  ex : ∃ r : R2, OpR X (compareOp op) r ∧ ∀ (B : Bs) (F H : Hp) (σ : L2.St) (ρ : DEnv) (x y : V) (a b : D) (Q : Bool → Prop) (Q' : VK), RE (wdOf X) B F H σ ρ → View (wdOf X) F H x a → View (wdOf X) F H y b → g a b Q →
    (∀ k, Q k → Q' (.bl k) H) → r x y H Q'
  mono : ∀ a b (Q Q' : Bool → Prop), g a b Q → (∀ r, Q r → Q' r) → g a b Q'
def gB (g : GC) : G2 := fun a b Q => g a b fun k => Q (.pure (.bool k))
def dCmp (g : GC) (ta tb : TD) : TD := dOp (gB g) ta tb
def dCmpT (g : GC) (ta tb : TD) : TDB := fun ρ Q E => ta ρ (fun ra ρ1 => tb ρ1 (fun rb ρ2 => ∃ x y, rvData ρ2 (frzR ra) = some x ∧ rvData ρ2 rb = some y ∧ g x y fun r => Q r ρ2) E) E
theorem GCmp.gmono {op : CmpOp} {g : GC} (hg : GCmp X op g) : ∀ a b (Q Q' : RV → Prop), gB g a b Q → (∀ r, Q r → Q' r) → gB g a b Q' := fun a b Q Q' h hq => hg.mono _ _ _ _ h fun k => hq _
theorem dCmpT.mono {g : GC} (mg : ∀ a b (Q Q' : Bool → Prop), g a b Q → (∀ r, Q r → Q' r) → g a b Q') (m : Mono ta) (n : Mono tb) : Mono (dCmpT g ta tb) := fun ρ Q Q' E E' h hq he =>
  m _ _ _ _ _ h (fun r ρ1 h1 => n _ _ _ _ _ h1 (fun rb ρ2 ⟨x, y, e1, e2, h2⟩ => ⟨x, y, e1, e2, mg _ _ _ _ h2 fun r q => hq _ _ q⟩) he) he
theorem de_cmp {op : CmpOp} {g : GC} (hg : GCmp X op g) (ha : DE X Wx a ta) (hb : DE X Wx b tb) (hm : behindInMarks op b = false) : DE X Wx (.Compare a [op] [b] pos) (dCmp g ta tb) := by
  obtain ⟨r, ho, hs⟩ := hg.ex
  refine ⟨fun B => PE.imp (pe_cmpR ho (ha.run B) (hb.run B) hm) fun σ H Q hh => ?_, dOp.mono hg.gmono ha.mono hb.mono⟩
  obtain ⟨F, ρ, I, hv⟩ := hh
  refine two_of ha hb I hv fun F2 H2 ρ2 x y da db l I2 vx vy h2 => hs B F2 H2 σ ρ2 x y da db _ Q I2 vx vy h2 fun k q => q _ F2 H2 l I2 (Rp.bl k)
theorem dt_cmp {op : CmpOp} {g : GC} (hg : GCmp X op g) (ha : DE X Wx a ta) (hb : DE X Wx b tb) (hm : behindInMarks op b = false) : DT X Wx (.Compare a [op] [b] pos) (dCmpT g ta tb) := by
  obtain ⟨r, ho, hs⟩ := hg.ex
  refine ⟨fun B => PT.imp (pt_cmpR ho (ha.run B) (hb.run B) hm) fun σ H Q hh => ?_, dCmpT.mono hg.mono ha.mono hb.mono⟩
  obtain ⟨F, ρ, I, hv⟩ := hh
  refine ⟨F, ρ, I, ha.mono _ _ _ _ _ hv (fun ra ρ1 h1 v F1 H1 l1 I1 ok1 => ?_) fun _ _ z => z⟩
  obtain ⟨F2, r', l2, I2, ok2, er⟩ := ok1.frz I1
  have er : r' = frzR ra := by rw [er]; cases ra <;> rfl
  subst er
  refine ⟨F2, ρ1, I2, hb.mono _ _ _ _ _ h1 (fun rb ρ2 ⟨x, y, e1, e2, h2⟩ u F3 H3 l3 I3 ok3 => ?_) fun _ _ z => AX.le (l1.trans l2) z⟩
  exact hs B F3 H3 σ ρ2 v u x y _ _ I3 (view_of I3 (ok2.keep (frzR_nt ra) l3) e1) (view_of I3 ok3 e2) h2 fun k q => ⟨k, rfl, q F3 H3 (l1.trans (l2.trans l3)) I3⟩
/-- a op b op' c -/
def dChainT (g g' : GC) (ta tb tc : TD) : TDB := fun ρ Q E => ta ρ (fun ra ρ1 => tb ρ1 (fun rb ρ2 => ∃ x y, rvData ρ2 (frzR ra) = some x ∧ rvData ρ2 (frzR rb) = some y ∧ g x y fun k =>
  if k = true then tc ρ2 (fun rc ρ3 => ∃ y' z, rvData ρ3 (frzR rb) = some y' ∧ rvData ρ3 rc = some z ∧ g' y' z fun r => Q r ρ3) E else Q false ρ2) E) E
def dChain (g g' : GC) (ta tb tc : TD) : TD := fun ρ Q E => dChainT g g' ta tb tc ρ (fun k ρ' => Q (.pure (.bool k)) ρ') E
theorem dChainT.mono {g g' : GC} (mg : ∀ a b (Q Q' : Bool → Prop), g a b Q → (∀ r, Q r → Q' r) → g a b Q') (mg' : ∀ a b (Q Q' : Bool → Prop), g' a b Q → (∀ r, Q r → Q' r) → g' a b Q') (m : Mono ta) (n : Mono tb) (o : Mono tc) :
    Mono (dChainT g g' ta tb tc) := fun ρ Q Q' E E' h hq he =>
  m _ _ _ _ _ h (fun r ρ1 h1 => n _ _ _ _ _ h1 (fun rb ρ2 ⟨x, y, e1, e2, h2⟩ => ⟨x, y, e1, e2, mg _ _ _ _ h2 fun k q => by
    cases k with
    | false => exact hq _ _ q
    | true => exact o _ _ _ _ _ q (fun rc ρ3 ⟨y', z, e3, e4, h4⟩ => ⟨y', z, e3, e4, mg' _ _ _ _ h4 fun r q => hq _ _ q⟩) he⟩) he) he
theorem de_chain {op op' : CmpOp} {g g' : GC} (hg : GCmp X op g) (hg' : GCmp X op' g') (ha : DE X Wx a ta) (hb : DE X Wx b tb) (hc : DE X Wx c tc) (hm : lastMarks [op, op'] [b, c] = false := by with_unfolding_all rfl) :
    DE X Wx (.Compare a [op, op'] [b, c] pos) (dChain g g' ta tb tc) := by
  obtain ⟨r, ho, hs⟩ := hg.ex
  obtain ⟨r', ho', hs'⟩ := hg'.ex
  refine ⟨fun B => PE.imp (pe_chain ho ho' (ha.run B) (hb.run B) (hc.run B) hm) fun σ H Q hh => ?_, fun ρ Q Q' E E' h hq he => dChainT.mono hg.mono hg'.mono ha.mono hb.mono hc.mono _ _ _ _ _ h (fun k ρ' => hq _ _) he⟩
  obtain ⟨F, ρ, I, hv⟩ := hh
  refine ⟨F, ρ, I, ha.mono _ _ _ _ _ hv (fun ra ρ1 h1 v F1 H1 l1 I1 ok1 => ?_) fun _ _ z => z⟩
  obtain ⟨F2, r2, l2, I2, ok2, er⟩ := ok1.frz I1
  have er : r2 = frzR ra := by rw [er]; cases ra <;> rfl
  subst er
  refine ⟨F2, ρ1, I2, hb.mono _ _ _ _ _ h1 (fun rb ρ2 ⟨x, y, e1, e2, h2⟩ u F3 H3 l3 I3 ok3 => ?_) fun _ _ z => AX.le (l1.trans l2) z⟩
  obtain ⟨F4, r4, l4, I4, ok4, er4⟩ := ok3.frz I3
  have er4 : r4 = frzR rb := by rw [er4]; cases rb <;> rfl
  subst er4
  have ll := l1.trans (l2.trans (l3.trans l4))
  refine hs B F4 H3 σ ρ2 v u x y _ _ I4 (view_of I4 (ok2.keep (frzR_nt ra) (l3.trans l4)) e1) (view_of I4 ok4 e2) h2 fun k q => ⟨k, rfl, ?_⟩
  cases k with
  | false =>
    rw [if_neg Bool.false_ne_true] at q ⊢
    exact q _ F4 H3 ll I4 (Rp.bl false)
  | true =>
    rw [if_pos rfl] at q ⊢
    refine ⟨F4, ρ2, I4, hc.mono _ _ _ _ _ q (fun rc ρ3 ⟨y', z, e3, e4, h4⟩ w F5 H5 l5 I5 ok5 => ?_) fun _ _ z => AX.le ll z⟩
    exact hs' B F5 H5 σ ρ3 u w y' z _ _ I5 (view_of I5 (ok4.keep (frzR_nt rb) l5) e3) (view_of I5 ok5 e4) h4 fun k q => q _ F5 H5 (ll.trans l5) I5 (Rp.bl k)
/-- a value as a test -/
def dTest (ta : TD) : TDB := fun ρ Q E => ta ρ (fun r ρ1 => ∃ k, rvData ρ1 r = some (.bool k) ∧ Q k ρ1) E
theorem dTest.mono (m : Mono ta) : Mono (dTest ta) := fun ρ Q Q' E E' h hq he => m _ _ _ _ _ h (fun r ρ1 ⟨k, e, q⟩ => ⟨k, e, hq _ _ q⟩) he
theorem dt_val (ha : DE X Wx a ta) (he : ∀ whole, isTrue a X.env whole = (do let v ← whole; standAt a.pos; holding [v] (truthy v)) := by intro _; rfl) : DT X Wx a (dTest ta) := by
  refine ⟨fun B => PT.imp (pt_val (ha.run B) he) fun σ H Q hh => ?_, dTest.mono ha.mono⟩
  obtain ⟨F, ρ, I, hv⟩ := hh
  refine ⟨F, ρ, I, ha.mono _ _ _ _ _ hv (fun r ρ1 ⟨k, e, q⟩ v F1 H1 l1 I1 ok1 => ?_) fun _ _ z => z⟩
  exact ⟨k, (view_of I1 ok1 e).bool, q F1 H1 l1 I1⟩
/-- a value's truth -/
def truthD : D → Option Bool
  | .none => some false
  | .bool b => some b
  | .int i => some (i != 0)
  | .list xs => some (!xs.isEmpty)
  | .tuple xs => some (!xs.isEmpty)
  | _ => none
def dTruth (ta : TD) : TDB := fun ρ Q E => ta ρ (fun r ρ1 => ∃ d k, rvData ρ1 r = some d ∧ truthD d = some k ∧ Q k ρ1) E
theorem RpAll.isEmpty {W : Wd} {F : Hp} {vs : List V} {ds : List D} (h : RpAll W F vs ds) : ds.isEmpty = vs.isEmpty := by cases h <;> rfl
theorem dt_truth (ha : DE X Wx a ta) (he : ∀ whole, isTrue a X.env whole = (do let v ← whole; standAt a.pos; holding [v] (truthy v)) := by intro _; rfl) : DT X Wx a (dTruth ta) := by
  refine ⟨fun B => PT.imp (pt_truth (ha.run B) he) fun σ H Q hh => ?_, fun ρ Q Q' E E' h hq hE => ha.mono _ _ _ _ _ h (fun r ρ1 ⟨d, k, e, e2, q⟩ => ⟨d, k, e, e2, hq _ _ q⟩) hE⟩
  obtain ⟨F, ρ, I, hv⟩ := hh
  refine ⟨F, ρ, I, ha.mono _ _ _ _ _ hv (fun r ρ1 ⟨d, k, e, e2, q⟩ v F1 H1 l1 I1 ok1 => ?_) fun _ _ z => z⟩
  refine ⟨k, ?_, q F1 H1 l1 I1⟩
  have vw := view_of I1 ok1 e
  cases d with
  | none => rw [vw.non]; cases e2; rfl
  | bool b => rw [vw.bool]; cases e2; rfl
  | int i => rw [vw.int]; cases e2; rfl
  | list xs =>
    obtain ⟨p, us, ep, hp, rp⟩ := vw.list I1
    subst ep
    cases e2
    exact .inl ⟨us, .inl hp, by rw [rp.isEmpty]⟩
  | tuple xs =>
    obtain ⟨p, us, ep, hp, rp, _⟩ := vw.tup I1
    subst ep
    cases e2
    exact .inr (.inl ⟨us, hp, by rw [rp.isEmpty]⟩)
  | str _ => cases e2
  | dict _ => cases e2
structure DW (X : Cx) (Wx : WX) (e : Expr) (t : TDB) : Prop where
  run : ∀ B, PW X e (AT (wdOf X) Wx B t)
  mono : Mono t
theorem DW.dt (h : DW X Wx e ua) : DT X Wx e ua := ⟨fun B => (h.run B).pt, h.mono⟩
def dAnd (t u : TDB) : TDB := fun ρ Q E => t ρ (fun k ρ1 => if k = true then u ρ1 Q E else Q false ρ1) E
def dOr (t u : TDB) : TDB := fun ρ Q E => t ρ (fun k ρ1 => if k = true then Q true ρ1 else u ρ1 Q E) E
def dNot (t : TDB) : TDB := fun ρ Q E => t ρ (fun k ρ1 => Q (!k) ρ1) E
theorem dAnd.mono (m : Mono ua) (n : Mono ub) : Mono (dAnd ua ub) := fun ρ Q Q' E E' h hq he => m _ _ _ _ _ h (fun k ρ1 h1 => by
  cases k with
  | true => exact n _ _ _ _ _ h1 hq he
  | false => exact hq _ _ h1) he
theorem dOr.mono (m : Mono ua) (n : Mono ub) : Mono (dOr ua ub) := fun ρ Q Q' E E' h hq he => m _ _ _ _ _ h (fun k ρ1 h1 => by
  cases k with
  | true => exact hq _ _ h1
  | false => exact n _ _ _ _ _ h1 hq he) he
theorem dNot.mono (m : Mono ua) : Mono (dNot ua) := fun ρ Q Q' E E' h hq he => m _ _ _ _ _ h (fun k ρ1 h1 => hq _ _ h1) he
theorem dw_and1 (ha : DT X Wx a ua) : DW X Wx (.BoolOp .And [a] pos) ua := ⟨fun B => pw_and1 (ha.run B), ha.mono⟩
theorem dw_or1 (ha : DT X Wx a ua) : DW X Wx (.BoolOp .Or [a] pos) ua := ⟨fun B => pw_or1 (ha.run B), ha.mono⟩
theorem at_bind {B : Bs} {u : TDB} {σ : L2.St} {H : Hp} {R : Bool → Hp → Prop} {F : Hp} {ρ : DEnv} {Qd : Bool → DEnv → Prop} {E : EK} (m : Mono u) (I : RE (wdOf X) B F H σ ρ) (h : u ρ Qd E) (hq : ∀ k ρ1 F1 H1, Qd k ρ1 → Le F F1 → RE (wdOf X) B F1 H1 σ ρ1 → R k H1)
    (he : ∀ x ρ', E x ρ' → AX (wdOf X) B F σ Wx x ρ') : AT (wdOf X) Wx B u σ H R := ⟨F, ρ, I, m _ _ _ _ _ h (fun k ρ1 h1 F1 H1 l1 I1 => hq k ρ1 F1 H1 h1 l1 I1) he⟩
theorem dw_and (ha : DT X Wx a ua) (hb : DW X Wx (.BoolOp .And (b :: rest) pos) ub) : DW X Wx (.BoolOp .And (a :: b :: rest) pos) (dAnd ua ub) := by
  refine ⟨fun B => PW.imp (pw_and (ha.run B) (hb.run B)) fun σ H Q hh => ?_, dAnd.mono ha.mono hb.mono⟩
  obtain ⟨F, ρ, I, hv⟩ := hh
  refine at_bind ha.mono I hv (fun k ρ1 F1 H1 h1 l1 I1 => ?_) fun _ _ z => z
  cases k with
  | true => exact ⟨F1, ρ1, I1, hb.mono _ _ _ _ _ h1 (fun k ρ2 q F2 H2 l2 I2 => q F2 H2 (l1.trans l2) I2) fun _ _ z => AX.le l1 z⟩
  | false => exact h1 F1 H1 l1 I1
theorem dw_or (ha : DT X Wx a ua) (hb : DW X Wx (.BoolOp .Or (b :: rest) pos) ub) : DW X Wx (.BoolOp .Or (a :: b :: rest) pos) (dOr ua ub) := by
  refine ⟨fun B => PW.imp (pw_or (ha.run B) (hb.run B)) fun σ H Q hh => ?_, dOr.mono ha.mono hb.mono⟩
  obtain ⟨F, ρ, I, hv⟩ := hh
  refine at_bind ha.mono I hv (fun k ρ1 F1 H1 h1 l1 I1 => ?_) fun _ _ z => z
  cases k with
  | false => exact ⟨F1, ρ1, I1, hb.mono _ _ _ _ _ h1 (fun k ρ2 q F2 H2 l2 I2 => q F2 H2 (l1.trans l2) I2) fun _ _ z => AX.le l1 z⟩
  | true => exact h1 F1 H1 l1 I1
theorem dt_not (ha : DT X Wx a ua) : DT X Wx (.UnaryOp .Not a pos) (dNot ua) := by
  refine ⟨fun B => PT.imp (pt_not (ha.run B)) fun σ H Q hh => ?_, dNot.mono ha.mono⟩
  obtain ⟨F, ρ, I, hv⟩ := hh
  exact at_bind ha.mono I hv (fun k ρ1 F1 H1 h1 l1 I1 => h1 F1 H1 l1 I1) fun _ _ z => z
def dAndV (ta tb : TD) : TD := fun ρ Q E => ta ρ (fun r ρ1 => ∃ k, rvData ρ1 r = some (.bool k) ∧ if k = true then tb ρ1 Q E else Q (.pure (.bool false)) ρ1) E
def dOrV (ta tb : TD) : TD := fun ρ Q E => ta ρ (fun r ρ1 => ∃ k, rvData ρ1 r = some (.bool k) ∧ if k = true then Q (.pure (.bool true)) ρ1 else tb ρ1 Q E) E
def dNotV (ta : TD) : TD := fun ρ Q E => ta ρ (fun r ρ1 => ∃ k, rvData ρ1 r = some (.bool k) ∧ Q (.pure (.bool (!k))) ρ1) E
theorem dAndV.mono (m : Mono ta) (n : Mono tb) : Mono (dAndV ta tb) := fun ρ Q Q' E E' h hq he => m _ _ _ _ _ h (fun r ρ1 ⟨k, e, h1⟩ => ⟨k, e, by
  cases k with
  | true => exact n _ _ _ _ _ h1 hq he
  | false => exact hq _ _ h1⟩) he
theorem dOrV.mono (m : Mono ta) (n : Mono tb) : Mono (dOrV ta tb) := fun ρ Q Q' E E' h hq he => m _ _ _ _ _ h (fun r ρ1 ⟨k, e, h1⟩ => ⟨k, e, by
  cases k with
  | true => exact hq _ _ h1
  | false => exact n _ _ _ _ _ h1 hq he⟩) he
theorem dNotV.mono (m : Mono ta) : Mono (dNotV ta) := fun ρ Q Q' E E' h hq he => m _ _ _ _ _ h (fun r ρ1 ⟨k, e, h1⟩ => ⟨k, e, hq _ _ h1⟩) he
theorem de_one {op} (h : DE X Wx a t) : DE X Wx (.BoolOp op [a] pos) t := ⟨fun B => pe_one (h.run B), h.mono⟩
theorem de_and (ha : DE X Wx a ta) (hb : DE X Wx (.BoolOp .And (b :: rest) pos) tb) : DE X Wx (.BoolOp .And (a :: b :: rest) pos) (dAndV ta tb) := by
  refine ⟨fun B => PE.imp (pe_and (ha.run B) (hb.run B)) fun σ H Q hh => ?_, dAndV.mono ha.mono hb.mono⟩
  obtain ⟨F, ρ, I, hv⟩ := hh
  refine ⟨F, ρ, I, ha.mono _ _ _ _ _ hv (fun r ρ1 ⟨k, e, h1⟩ v F1 H1 l1 I1 ok1 => ⟨k, (view_of I1 ok1 e).bool, ?_⟩) fun _ _ z => z⟩
  cases k with
  | true =>
    rw [if_pos rfl] at h1 ⊢
    exact ⟨F1, ρ1, I1, hb.mono _ _ _ _ _ h1 (fun r ρ2 q v F2 H2 l2 I2 ok2 => q v F2 H2 (l1.trans l2) I2 ok2) fun _ _ z => AX.le l1 z⟩
  | false =>
    rw [if_neg Bool.false_ne_true] at h1 ⊢
    exact h1 _ F1 H1 l1 I1 (Rp.bl false)
theorem de_or (ha : DE X Wx a ta) (hb : DE X Wx (.BoolOp .Or (b :: rest) pos) tb) : DE X Wx (.BoolOp .Or (a :: b :: rest) pos) (dOrV ta tb) := by
  refine ⟨fun B => PE.imp (pe_or (ha.run B) (hb.run B)) fun σ H Q hh => ?_, dOrV.mono ha.mono hb.mono⟩
  obtain ⟨F, ρ, I, hv⟩ := hh
  refine ⟨F, ρ, I, ha.mono _ _ _ _ _ hv (fun r ρ1 ⟨k, e, h1⟩ v F1 H1 l1 I1 ok1 => ⟨k, (view_of I1 ok1 e).bool, ?_⟩) fun _ _ z => z⟩
  cases k with
  | false =>
    rw [if_neg Bool.false_ne_true] at h1 ⊢
    exact ⟨F1, ρ1, I1, hb.mono _ _ _ _ _ h1 (fun r ρ2 q v F2 H2 l2 I2 ok2 => q v F2 H2 (l1.trans l2) I2 ok2) fun _ _ z => AX.le l1 z⟩
  | true =>
    rw [if_pos rfl] at h1 ⊢
    exact h1 _ F1 H1 l1 I1 (Rp.bl true)
theorem de_not (ha : DE X Wx a ta) : DE X Wx (.UnaryOp .Not a pos) (dNotV ta) := by
  refine ⟨fun B => PE.imp (pe_not (ha.run B)) fun σ H Q hh => ?_, dNotV.mono ha.mono⟩
  obtain ⟨F, ρ, I, hv⟩ := hh
  exact ⟨F, ρ, I, ha.mono _ _ _ _ _ hv (fun r ρ1 ⟨k, e, h1⟩ v F1 H1 l1 I1 ok1 => ⟨k, (view_of I1 ok1 e).bool, h1 _ F1 H1 l1 I1 (Rp.bl _)⟩) fun _ _ z => z⟩
/-- a if t else b -/
def dIf (u : TDB) (ta tb : TD) : TD := fun ρ Q E => u ρ (fun k ρ1 => if k = true then ta ρ1 Q E else tb ρ1 Q E) E
theorem dIf.mono (o : Mono ua) (m : Mono ta) (n : Mono tb) : Mono (dIf ua ta tb) := fun ρ Q Q' E E' h hq he => o _ _ _ _ _ h (fun k ρ1 h1 => by
  cases k with
  | true => exact m _ _ _ _ _ h1 hq he
  | false => exact n _ _ _ _ _ h1 hq he) he
theorem de_if (hc : DT X Wx c ua) (ha : DE X Wx a ta) (hb : DE X Wx b tb) : DE X Wx (.IfExp c a b pos) (dIf ua ta tb) := by
  refine ⟨fun B => PE.imp (pe_ifExp (hc.run B) (ha.run B) (hb.run B)) fun σ H Q hh => ?_, dIf.mono hc.mono ha.mono hb.mono⟩
  obtain ⟨F, ρ, I, hv⟩ := hh
  refine at_bind hc.mono I hv (fun k ρ1 F1 H1 h1 l1 I1 => ?_) fun _ _ z => z
  cases k with
  | true => exact ⟨F1, ρ1, I1, ha.mono _ _ _ _ _ h1 (fun r ρ2 q v F2 H2 l2 I2 ok2 => q v F2 H2 (l1.trans l2) I2 ok2) fun _ _ z => AX.le l1 z⟩
  | false => exact ⟨F1, ρ1, I1, hb.mono _ _ _ _ _ h1 (fun r ρ2 q v F2 H2 l2 I2 ok2 => q v F2 H2 (l1.trans l2) I2 ok2) fun _ _ z => AX.le l1 z⟩
def gCI (p : Int → Int → Bool) : GC := fun a b Q => match a, b with
  | .int i, .int j => Q (p i j)
  | _, _ => False
theorem gCI.mono (p : Int → Int → Bool) : ∀ a b (Q Q' : Bool → Prop), gCI p a b Q → (∀ r, Q r → Q' r) → gCI p a b Q' := fun a b Q Q' h hq => by
  unfold gCI at h ⊢
  split at h <;> first | exact hq _ h | exact h.elim
theorem g_ci {op : CmpOp} {p : Int → Int → Bool} (ho : OpR X (compareOp op) (rI0 fun i j => .bl (p i j))) : GCmp X op (gCI p) where
  mono := gCI.mono p
  ex := by
    refine ⟨_, ho, fun B F H σ ρ x y a b Q Q' I vx vy h k => ?_⟩
    unfold gCI at h
    split at h
    · rename_i i j
      exact ⟨i, j, vx.int, vy.int, k _ h⟩
    · exact h.elim
abbrev gLt := gCI fun i j => decide (i < j)
abbrev gLe := gCI fun i j => decide (i ≤ j)
abbrev gGt := gCI fun i j => decide (j < i)
abbrev gGe := gCI fun i j => decide (j ≤ i)
theorem g_lt : GCmp X .Lt gLt := g_ci op_lt
theorem g_le : GCmp X .LtE gLe := g_ci op_le
theorem g_gt : GCmp X .Gt gGt := g_ci op_gt
theorem g_ge : GCmp X .GtE gGe := g_ci op_ge
def gEq : GC := fun a b Q => SeqAt.shaped a = true ∧ SeqAt.shaped b = true ∧ Q (PyData.eqv a b)
def gNe : GC := fun a b Q => SeqAt.shaped a = true ∧ SeqAt.shaped b = true ∧ Q (!PyData.eqv a b)
theorem g_eq (hu : X.A.units + 64 < cLine) : GCmp X .Eq gEq where
  mono := fun a b Q Q' h hq => ⟨h.1, h.2.1, hq _ h.2.2⟩
  ex := ⟨_, op_eqD hu, fun B F H σ ρ x y a b Q Q' I vx vy h k => ⟨a, b, vx.dp I (SeqAt.canLay_of_shaped h.1), vy.dp I (SeqAt.canLay_of_shaped h.2.1), h.1, h.2.1, k _ h.2.2⟩⟩
theorem g_ne (hu : X.A.units + 64 < cLine) : GCmp X .NotEq gNe where
  mono := fun a b Q Q' h hq => ⟨h.1, h.2.1, hq _ h.2.2⟩
  ex := ⟨_, op_neD hu, fun B F H σ ρ x y a b Q Q' I vx vy h k => ⟨a, b, vx.dp I (SeqAt.canLay_of_shaped h.1), vy.dp I (SeqAt.canLay_of_shaped h.2.1), h.1, h.2.1, k _ h.2.2⟩⟩
/-- in a list -/
def gIn (neg : Bool) : GC := fun a b Q => match b with
  | .list ds => SeqAt.shaped a = true ∧ SeqAt.shaped (.list ds) = true ∧ Q (if neg then !(ds.any fun z => PyData.eqv z a) else ds.any fun z => PyData.eqv z a)
  | _ => False
theorem gIn.mono (neg : Bool) : ∀ a b (Q Q' : Bool → Prop), gIn neg a b Q → (∀ r, Q r → Q' r) → gIn neg a b Q' := fun a b Q Q' h hq => by
  unfold gIn at h ⊢
  split at h
  · exact ⟨h.1, h.2.1, hq _ h.2.2⟩
  · exact h.elim
theorem g_in (hu : X.A.units + 65 < cLine) : GCmp X .In (gIn false) where
  mono := gIn.mono false
  ex := by
    refine ⟨_, op_inD hu, fun B F H σ ρ x y a b Q Q' I vx vy h k => ?_⟩
    unfold gIn at h
    split at h
    · exact ⟨_, _, vx.dp I (SeqAt.canLay_of_shaped h.1), vy.dp I (SeqAt.canLay_of_shaped h.2.1), h.1, h.2.1, k _ h.2.2⟩
    · exact h.elim
theorem g_notin (hu : X.A.units + 65 < cLine) : GCmp X .NotIn (gIn true) where
  mono := gIn.mono true
  ex := by
    refine ⟨_, op_notInD hu, fun B F H σ ρ x y a b Q Q' I vx vy h k => ?_⟩
    unfold gIn at h
    split at h
    · exact ⟨_, _, vx.dp I (SeqAt.canLay_of_shaped h.1), vy.dp I (SeqAt.canLay_of_shaped h.2.1), h.1, h.2.1, k _ h.2.2⟩
    · exact h.elim
/-- is None -/
def isNoneD : D → Bool
  | .none => true
  | _ => false
theorem View.isN {W : Wd} {F H : Hp} {v : V} {d : D} (h : View W F H v d) : decide (v = .non) = isNoneD d := by
  cases d with
  | none => rw [h.non]; rfl
  | bool b => rw [h.bool]; rfl
  | int i => rw [h.int]; rfl
  | str x => rw [h.str]; rfl
  | list xs =>
    generalize e : (PyData.list xs : D) = z at h
    cases h with
    | rp h => subst e; cases h; rfl
    | own f hh r => rw [← e]; rfl
  | tuple xs =>
    generalize e : (PyData.tuple xs : D) = z at h
    cases h with
    | rp h => subst e; cases h; rfl
    | own f hh r => rw [← e]; rfl
  | dict xs =>
    generalize e : (PyData.dict xs : D) = z at h
    cases h with
    | rp h => subst e; cases h; rfl
    | own f hh r => rw [← e]; rfl
def gIs : GC := fun a b Q => match b with
  | .none => Q (isNoneD a)
  | .bool y => (match a with
    | .bool x => Q (decide (x = y))
    | _ => False)
  | _ => False
def gIsNot : GC := fun a b Q => match b with
  | .none => Q (!isNoneD a)
  | _ => False
theorem op_is_bl : OpR X (compareOp .Is) (fun x y H Q => ∃ a b, x = .bl a ∧ y = .bl b ∧ Q (.bl (decide (a = b))) H) := by
  intro pins s σ H x y v u Q I rx ry h
  obtain ⟨a, b, rfl, rfl, q⟩ := h
  cases rx
  cases ry
  show wpAny _ _ (do return Value.bool (← isSame (.bool a) (.bool b))) _ _ _
  refine wpAny_bind (wpAny_of_eq (show isSame (.bool a) (.bool b) = pure (a == b) from ?_) (wpAny_pure ⟨.bl (decide (a = b)), H, I, ?_, q⟩))
  · cases a <;> cases b <;> rfl
  · cases a <;> cases b <;> rfl
theorem g_is : GCmp X .Is gIs where
  mono := fun a b Q Q' h hq => by
    unfold gIs at h ⊢
    split at h
    · exact hq _ h
    · split at h <;> first | exact hq _ h | exact h.elim
    · exact h.elim
  ex := by
    refine ⟨_, op_isN.or op_is_bl, fun B F H σ ρ x y a b Q Q' I vx vy h k => ?_⟩
    unfold gIs at h
    split at h
    · exact .inl ⟨vy.non, by rw [vx.isN]; exact k _ h⟩
    · split at h
      · exact .inr ⟨_, _, vx.bool, vy.bool, k _ h⟩
      · exact h.elim
    · exact h.elim
theorem g_isnot : GCmp X .IsNot gIsNot where
  mono := fun a b Q Q' h hq => by
    unfold gIsNot at h ⊢
    split at h
    · exact hq _ h
    · exact h.elim
  ex := by
    refine ⟨_, op_notN, fun B F H σ ρ x y a b Q Q' I vx vy h k => ?_⟩
    unfold gIsNot at h
    split at h
    · exact ⟨vy.non, by rw [vx.isN]; exact k _ h⟩
    · exact h.elim
end
end DL
set_option Elab.async false
set_option linter.all false
set_option maxRecDepth 100000
set_option maxHeartbeats 4000000
namespace DL
open PySem PySem.Spec L2
open PyProof.Rows hiding St
/-- a def over data: arguments (data, or values as they are), what follows; i: the first argument is an object that is written -/
abbrev SpP := List DV → (RV → Prop) → Prop
abbrev SpI := OB → List DV → (RV → OB → Prop) → Prop
def noOwn : DV → Prop
  | .own _ => False
  | _ => True
/-- the ground of a call -/
abbrev bP (F H : Hp) : Bs := ⟨F, H, fun _ => False, []⟩
abbrev bI (F H : Hp) (a : Addr) : Bs := ⟨F, H, fun b => b = a, [(0, some (.ref a))]⟩
def spP (W : Wd) (S : SpP) : Sp := fun vs H Q _ => ∃ F dvs, (∀ d ∈ dvs, noOwn d) ∧ RE W (bP F H) F H (vs.map some) (dvs.map some) ∧
  S dvs fun r => ∀ v F' H', Le F F' → RE W (bP F H) F' H' [] [] → RVok W (bP F H) F' H' [] [] v r → Q v H'
def spI (W : Wd) (S : SpI) : Sp := fun vs H Q _ => ∃ F a ob dvs, (∀ d ∈ dvs, noOwn d) ∧ RE W (bI F H a) F H (vs.map some) (some (.own ob) :: dvs.map some) ∧
  S ob dvs fun r ob' => ∀ v F' H', Le F F' → RE W (bI F H a) F' H' [some (.ref a)] [some (.own ob')] → RVok W (bI F H a) F' H' [some (.ref a)] [some (.own ob')] v r → Q v H'
def MonoP (S : SpP) : Prop := ∀ d (Q Q' : RV → Prop), S d Q → (∀ r, Q r → Q' r) → S d Q'
def MonoI (S : SpI) : Prop := ∀ o d (Q Q' : RV → OB → Prop), S o d Q → (∀ r o, Q r o → Q' r o) → S o d Q'
section
variable {W : Wd} {B : Bs} {F F' H H' : Hp} {σ : L2.St} {ρ : DEnv}
/-- what stood in H stands in H', seen from a ground's own ground -/
theorem Kept.then {W : Wd} {F F' H H' : Hp} {a : Addr} {u : HO} (k : Kept W F H a u) (l : Le F F') (nz : ∀ (a : Addr) (o : Obj) (u : HO), F' a ≠ some (.frz o u)) (j : ∀ y, H a = some y → Kept W F' H' a y) : Kept W F' H' a u := by
  rcases k with q | ⟨f, d, o, q⟩
  · exact j u q
  · rcases j _ q with z | ⟨z, _⟩
    · exact .inr ⟨l _ _ f, d, o, z⟩
    · exact absurd z (nz _ _ _)
/-- behind a call that wrote nothing that stood -/
theorem RE.after (I : RE W B F H σ ρ) (J : RE W (bP F H) F' H' [] []) : RE W B F' H' σ ρ where
  len := I.len
  fle := J.fle
  nfz := J.nfz
  sl := fun i dv e => let ⟨v, e1, s⟩ := I.sl i dv e; ⟨v, e1, SV.mono J.bF (fun a u _ f q => have fn := J.bN a u q (fun z => z) f; ⟨fn, (J.bH a u q fun z => z).live fn⟩) s⟩
  dis := I.dis
  ownb := I.ownb
  bF := I.bF.trans J.bF
  bH := fun a u e n => (I.bH a u e n).then J.bF J.nfz fun y q => J.bH a y q fun z => z
  bN := fun a u e n f => by
    obtain ⟨y, q⟩ := (I.bH a u e n).ex
    exact J.bN a y q (fun z => z) (I.bN a u e n f)
  bL := fun a e => let ⟨u, q⟩ := I.bL a e; (J.bH a u q fun z => z).ex
  pin := I.pin
theorem RVok.after (I : RE W B F H σ ρ) {v : V} {r : RV} (ok : RVok W (bP F H) F' H' [] [] v r) (ns : ∀ i, r ≠ .slot i) : RVok W B F' H' σ ρ v r := by
  cases r with
  | pure d => exact ok
  | raw x => exact ok
  | slot i => exact absurd rfl (ns i)
  | tmp o =>
    obtain ⟨a, u, ev, f, hh, q, hb, _⟩ := ok
    have hb : H a = none := hb
    refine ⟨a, u, ev, f, hh, q, I.bnone hb, fun i ob hd hv => ?_⟩
    obtain ⟨v', e1, a', u', ev', _, hh', _⟩ := I.sl i _ hd
    unfold HasV at hv e1
    rw [hv] at e1
    cases e1
    cases ev'
    rw [hb] at hh'
    cases hh'
/-- the owned dicts of the one are owned in the other -/
def dicKept : DEnv → DEnv → Prop
  | some (.own (.dic kvs)) :: r, y :: s => y = some (.own (.dic kvs)) ∧ dicKept r s
  | _ :: r, _ :: s => dicKept r s
  | _, _ => True
theorem dicKept.at : ∀ {ρ ρ' : DEnv} {i : Nat} {kvs : List (D × D)}, ρ.length = ρ'.length → dicKept ρ ρ' → HasD ρ i (.own (.dic kvs)) → HasD ρ' i (.own (.dic kvs))
  | [], _, _, _, _, _, e => by unfold HasD at e; simp at e
  | x :: r, [], _, _, l, _, _ => by simp at l
  | x :: r, y :: s, 0, kvs, l, k, e => by
    unfold HasD at e ⊢
    simp only [List.getElem?_cons_zero, Option.some.injEq] at e ⊢
    subst e
    exact k.1
  | x :: r, y :: s, i + 1, kvs, l, k, e => by
    have k' : dicKept r s := by
      unfold dicKept at k
      split at k
      · rename_i h1 h2; cases h1; cases h2; exact k.2
      · rename_i h1 h2; cases h1; cases h2; exact k
      · rename_i h1 h2; exact absurd rfl (h2 _ _ _ _ rfl)
    exact dicKept.at (ρ := r) (ρ' := s) (by simpa using l) k' e
/-- the frozen part as it was: all that stood stands -/
theorem RE.back {F2 : Hp} {ρ2 : DEnv} (I : RE W B F H σ ρ) (I2 : RE W B F2 H σ ρ2) (J : RE W (bP F2 H) F' H' [] []) (dk : dicKept ρ ρ2) : RE W B F H' σ ρ := by
  have k : ∀ a u, H a = some u → H' a = some u ∨ ((∃ xs, u = dicO W a xs) ∧ (∃ o, H' a = some (.frz o u)) ∧ F' a = some u) := fun a u e => by
    rcases J.bH a u e (fun z => z) with q | ⟨f, d, q⟩
    · exact .inl q
    · exact .inr ⟨d, q, f⟩
  have fl : ∀ a u, F a = some u → Rd H' a u := fun a u e => by
    rcases I.fle a u e with q | ⟨o, q⟩
    · rcases k _ _ q with z | ⟨_, z, _⟩
      · exact .inl z
      · exact .inr z
    · rcases k _ _ q with z | ⟨⟨xs, z⟩, _⟩
      · exact .inr ⟨o, z⟩
      · cases z
  refine ⟨I.len, fl, I.nfz, fun i dv e => ?_, I.dis, I.ownb, I.bF, fun a u e n => ?_, I.bN, fun a e => ?_, I.pin⟩
  · obtain ⟨v, e1, s⟩ := I.sl i dv e
    refine ⟨v, e1, ?_⟩
    cases dv with
    | pure d => exact s
    | raw x => exact s
    | own ob =>
      obtain ⟨a, u, ev, f, hh, r⟩ := s
      refine ⟨a, u, ev, f, ?_, r⟩
      rcases k _ _ hh with q | ⟨⟨xs, z⟩, _, fz⟩
      · exact q
      · cases ob with
        | lst ds => obtain ⟨ys, y, _⟩ := r; rw [y] at z; cases z
        | dic kvs =>
          have e2 := dicKept.at (by rw [← I.len, ← I2.len]) dk e
          obtain ⟨v2, e3, a2, u2, ev2, f2, hh2, _⟩ := I2.sl i _ e2
          unfold HasV at e1 e3
          rw [e1] at e3
          cases e3
          rw [ev] at ev2
          cases ev2
          have := J.bN a u hh (fun z => z) f2
          rw [fz] at this
          cases this
  · rcases I.bH a u e n with q | ⟨f, d, o, q⟩
    · rcases k _ _ q with z | ⟨d, z, f'⟩
      · exact .inl z
      · cases fa : F a with
        | none =>
          have b0 : B.F a = none := by
            cases eb : B.F a with
            | none => rfl
            | some y => rw [I.bF a y eb] at fa; cases fa
          rw [J.bN a u q (fun z => z) (I2.bN a u e n b0)] at f'
          cases f'
        | some y =>
          obtain ⟨xs, ed⟩ := d
          have ey : y = u := by
            rcases I.fle a y fa with w | ⟨o', w⟩
            · rw [q] at w
              exact (Option.some.inj w).symm
            · rw [q] at w
              have w := Option.some.inj w
              rw [ed] at w
              cases w
          exact .inr ⟨ey ▸ fa, ⟨xs, ed⟩, z⟩
    · rcases k _ _ q with z | ⟨⟨xs, z⟩, _⟩
      · exact .inr ⟨f, d, o, z⟩
      · cases z
  · obtain ⟨u, q⟩ := I.bL a e
    rcases k _ _ q with z | ⟨_, ⟨o, z⟩, _⟩
    · exact ⟨_, z⟩
    · exact ⟨_, z⟩
/-- arguments as an environment of their own -/
theorem RE.args {B' : Bs} (I : RE W B F H σ ρ) {vs : List V} {dvs : List DV} (hb : B' = bP F H) (hl : vs.length = dvs.length) (no : ∀ d ∈ dvs, noOwn d) (h : ∀ (i : Nat) (dv : DV), dvs[i]? = some dv → ∃ v, vs[i]? = some v ∧ SV W F H v dv) : RE W B' F H (vs.map some) (dvs.map some) := by
  subst hb
  have key : ∀ {i : Nat} {dv : DV}, HasD (dvs.map some) i dv → dvs[i]? = some dv := fun {i dv} e => by
    unfold HasD at e
    rw [List.getElem?_map] at e
    cases q : dvs[i]? with
    | none => rw [q] at e; cases e
    | some z => rw [q] at e; exact Option.some.inj e
  have nx : ∀ {i : Nat} {ob : OB}, ¬ HasD (dvs.map some) i (.own ob) := fun {i ob} e => no _ (List.mem_of_getElem? (key e))
  exact ⟨by simpa using hl, I.fle, I.nfz, fun i dv e => let ⟨v, e1, s⟩ := h i dv (key e); ⟨v, by unfold HasV; rw [List.getElem?_map, e1]; rfl, s⟩, fun i j a o1 o2 _ e => absurd e nx, fun i a o e => absurd e nx,
    Le.refl F, fun a u e _ => .inl e, fun a u _ _ f => f, fun a z => z.elim, fun p hp => nomatch hp⟩
/-- values that are kept, or as they are -/
def argD (r : RV) (ρ : DEnv) (Q : DV → DEnv → Prop) : Prop := match r with
  | .raw v => Q (.raw v) ρ
  | r => keepR r ρ fun d ρ' => Q (.pure d) ρ'
def argsD : List RV → DEnv → (List DV → DEnv → Prop) → Prop
  | [], ρ, Q => Q [] ρ
  | r :: rs, ρ, Q => argD r ρ fun d ρ1 => argsD rs ρ1 fun ds ρ2 => Q (d :: ds) ρ2
theorem argD.mono {r : RV} {ρ : DEnv} {Q Q' : DV → DEnv → Prop} (h : argD r ρ Q) (hq : ∀ d ρ', Q d ρ' → Q' d ρ') : argD r ρ Q' := by
  cases r with
  | raw v => exact hq _ _ h
  | pure d => exact hq _ _ h
  | tmp o => exact hq _ _ h
  | slot i => exact keepR.mono (r := .slot i) h fun d ρ' => hq _ _
theorem argsD.mono : ∀ {rs : List RV} {ρ : DEnv} {Q Q' : List DV → DEnv → Prop}, argsD rs ρ Q → (∀ d ρ', Q d ρ' → Q' d ρ') → argsD rs ρ Q'
  | [], _, _, _, h, hq => hq _ _ h
  | _ :: _, _, _, _, h, hq => argD.mono h fun _ _ h1 => argsD.mono h1 fun _ _ h2 => hq _ _ h2
theorem argD_of {v : V} {r : RV} {Q : DV → DEnv → Prop} (I : RE W B F H σ ρ) (ok : RVok W B F H σ ρ v r) (h : argD r ρ Q) : ∃ F' ρ' d, Le F F' ∧ RE W B F' H σ ρ' ∧ noOwn d ∧ SV W F' H v d ∧ Q d ρ' := by
  have main : keepR r ρ (fun d ρ' => Q (.pure d) ρ') → ∃ F' ρ' d, Le F F' ∧ RE W B F' H σ ρ' ∧ noOwn d ∧ SV W F' H v d ∧ Q d ρ' := fun h => by
    obtain ⟨F', ρ', d, l, I', rp, q⟩ := keep_of I ok h
    exact ⟨F', ρ', .pure d, l, I', trivial, rp, q⟩
  cases r with
  | raw x => exact ⟨F, ρ, .raw x, Le.refl F, I, trivial, ok, h⟩
  | pure d => exact main h
  | tmp o => exact main h
  | slot i => exact main h
theorem SV.noMono {v : V} {d : DV} (l : Le F F') (n : noOwn d) (h : SV W F H v d) : SV W F' H' v d := by
  cases d with
  | pure d => exact Rp.mono l h
  | raw x => exact h
  | own o => exact n.elim
theorem argsD_of : ∀ {F : Hp} {ρ : DEnv} {vs : List V} {rs : List RV} {Q : List DV → DEnv → Prop}, RE W B F H σ ρ → RVs W B F H σ ρ vs rs → argsD rs ρ Q →
    ∃ F' ρ' ds, Le F F' ∧ RE W B F' H σ ρ' ∧ (∀ d ∈ ds, noOwn d) ∧ vs.length = ds.length ∧ (∀ (i : Nat) (dv : DV), ds[i]? = some dv → ∃ v, vs[i]? = some v ∧ SV W F' H v dv) ∧ Q ds ρ'
  | F, ρ, _, _, _, I, .nil, h => ⟨F, ρ, [], Le.refl F, I, (fun _ z => nomatch z), rfl, (fun i dv e => by simp at e), h⟩
  | F, ρ, _, _, _, I, .cons nt ok r, h => by
    obtain ⟨F1, ρ1, d, l1, I1, n1, s1, h1⟩ := argD_of I ok h
    obtain ⟨F2, ρ2, ds, l2, I2, n2, len, s2, h2⟩ := argsD_of I1 (r.keep l1) h1
    refine ⟨F2, ρ2, d :: ds, l1.trans l2, I2, fun x hx => ?_, congrArg Nat.succ len, fun i dv e => ?_, h2⟩
    · rcases List.mem_cons.mp hx with e | hx
      · exact e ▸ n1
      · exact n2 x hx
    · cases i with
      | zero =>
        simp at e
        subst e
        exact ⟨_, rfl, SV.noMono l2 n1 s1⟩
      | succ i => exact s2 i dv (by simpa using e)
end
section
variable {X : Cx} {Wx : WX} {e : Expr} {es : List Expr} {pos p : Pos} {t : TD} {u : TDA} {CX : CXT} {k : Nat} {f : Addr} {fd : FuncData} {ps : List Str} {x : Str}
def noSlot : RV → Prop
  | .slot _ => False
  | _ => True
/-- a call: arguments are kept -/
def dCallP (S : SpP) (u : TDA) : TD := fun ρ Q E => u ρ (fun rs ρ1 => argsD rs ρ1 fun ds ρ2 => S ds fun r => noSlot r ∧ Q r ρ2) E
theorem dCallP.mono {S : SpP} (ms : MonoP S) (m : Mono u) : Mono (dCallP S u) := fun ρ Q Q' E E' h hq he =>
  m _ _ _ _ _ h (fun rs ρ1 h1 => argsD.mono h1 fun ds ρ2 h2 => ms _ _ _ h2 fun r q => ⟨q.1, hq _ _ q.2⟩) he
/-- what the callee's promise asks -/
theorem callP_of {B : Bs} {F F1 H1 : Hp} {σ : L2.St} {ρ1 : DEnv} {S : SpP} {vs : List V} {rs : List RV} {Qd : RV → DEnv → Prop} {Q : VK} {E : XK} (l1 : Le F F1) (I1 : RE (wdOf X) B F1 H1 σ ρ1) (ok : RVs (wdOf X) B F1 H1 σ ρ1 vs rs) (ms : MonoP S)
    (h : argsD rs ρ1 fun ds ρ2 => S ds fun r => noSlot r ∧ Qd r ρ2) (q : ∀ r ρ', Qd r ρ' → ∀ v F' H', Le F F' → RE (wdOf X) B F' H' σ ρ' → RVok (wdOf X) B F' H' σ ρ' v r → Q v H') : spP (wdOf X) S vs H1 Q E := by
  obtain ⟨F2, ρ2, ds, l2, I2, no, len, sv, h2⟩ := argsD_of I1 ok h
  refine ⟨F2, ds, no, I2.args rfl len no sv, ms _ _ _ h2 fun r hr v F' H' l J okr => ?_⟩
  have ns : ∀ i, r ≠ .slot i := fun i e => by subst e; exact hr.1
  exact q r ρ2 hr.2 v F' H' (l1.trans (l2.trans l)) (I2.after J) (RVok.after I2 okr ns)
theorem de_call {S : SpP} (ms : MonoP S) (Fk : FnOk X.prog X.w X.K X.mg X.base CX k f fd ps (spP (wdOf X) S)) (hr : Room k X.A) (hg : Gl X x) (hm : X.mg x = some (.ref f)) (hk : PySem.W.keepIn X.K (.ref f) = true) (hb : Binds X.K fd ps [])
    (hx : Passes CX X E0) (ha : DA X Wx (e :: es) u) (hdb : (x == ("__debug__" : Str)) = false := by decide) (he : starEach (e :: es) X.env = (false, eval e X.env) :: starEach es X.env := by rfl)
    (hpl : (backTo pos (starEach es X.env)).any (·.1) = false := by rfl) : DE X Wx (.Call (.Name x p) (e :: es) [] pos) (dCallP S u) := by
  refine ⟨fun B => PE.imp (pe_call Fk hr hg hm hk hb .nil hx (ha.run B) hdb he hpl) fun σ H Q hh => ?_, dCallP.mono ms ha.mono⟩
  obtain ⟨F, ρ, I, hv⟩ := hh
  refine ⟨F, ρ, I, ha.mono _ _ _ _ _ hv (fun rs ρ1 h1 vs F1 H1 l1 I1 ok1 => ?_) fun _ _ z => z⟩
  show spP (wdOf X) S (vs ++ []) H1 Q E0
  rw [List.append_nil]
  exact callP_of l1 I1 ok1 ms h1 fun r ρ' q => q
theorem de_call0 {S : SpP} (ms : MonoP S) (Fk : FnOk X.prog X.w X.K X.mg X.base CX k f fd ps (spP (wdOf X) S)) (hr : Room k X.A) (hg : Gl X x) (hm : X.mg x = some (.ref f)) (hk : PySem.W.keepIn X.K (.ref f) = true) (hb : Binds X.K fd ps [])
    (hx : Passes CX X E0) (hdb : (x == ("__debug__" : Str)) = false := by decide) : DE X Wx (.Call (.Name x p) [] [] pos) (dCallP S dNil) := by
  refine ⟨fun B => PE.imp (pe_call0 Fk hr hg hm hk hb .nil hx hdb) fun σ H Q hh => ?_, dCallP.mono ms dNil.mono⟩
  obtain ⟨F, ρ, I, hv⟩ := hh
  unfold dCallP dNil at hv
  dsimp only at hv
  exact callP_of (E := E0) (rs := []) (vs := []) (Le.refl F) I .nil ms hv fun r ρ' q => q
def scalD : D → Bool
  | .none => true
  | .bool _ => true
  | .int _ => true
  | .str _ => true
  | _ => false
theorem Rp.scal {W : Wd} {F F' : Hp} {v : V} {d : D} (c : scalD d = true) (h : Rp W F v d) : Rp W F' v d := by
  cases h with
  | non => exact .non
  | bl b => exact .bl b
  | int i => exact .int i
  | str x => exact .str x
  | lst _ _ => cases c
  | tup _ _ => cases c
  | dic _ _ => cases c
def dCallB (S : SpP) (u : TDA) : TD := fun ρ Q E => u ρ (fun rs ρ1 => argsD rs ρ1 fun ds ρ2 => S ds fun r => ∃ d, r = .pure d ∧ scalD d = true ∧ dicKept ρ1 ρ2 ∧ Q (.pure d) ρ1) E
theorem dCallB.mono {S : SpP} (ms : MonoP S) (m : Mono u) : Mono (dCallB S u) := fun ρ Q Q' E E' h hq he =>
  m _ _ _ _ _ h (fun rs ρ1 h1 => argsD.mono h1 fun ds ρ2 h2 => ms _ _ _ h2 fun r ⟨d, e, c, dk, q⟩ => ⟨d, e, c, dk, hq _ _ q⟩) he
theorem de_callB {S : SpP} (ms : MonoP S) (Fk : FnOk X.prog X.w X.K X.mg X.base CX k f fd ps (spP (wdOf X) S)) (hr : Room k X.A) (hg : Gl X x) (hm : X.mg x = some (.ref f)) (hk : PySem.W.keepIn X.K (.ref f) = true) (hb : Binds X.K fd ps [])
    (hx : Passes CX X E0) (ha : DA X Wx (e :: es) u) (hdb : (x == ("__debug__" : Str)) = false := by decide) (he : starEach (e :: es) X.env = (false, eval e X.env) :: starEach es X.env := by rfl)
    (hpl : (backTo pos (starEach es X.env)).any (·.1) = false := by rfl) : DE X Wx (.Call (.Name x p) (e :: es) [] pos) (dCallB S u) := by
  refine ⟨fun B => PE.imp (pe_call Fk hr hg hm hk hb .nil hx (ha.run B) hdb he hpl) fun σ H Q hh => ?_, dCallB.mono ms ha.mono⟩
  obtain ⟨F, ρ, I, hv⟩ := hh
  refine ⟨F, ρ, I, ha.mono _ _ _ _ _ hv (fun rs ρ1 h1 vs F1 H1 l1 I1 ok1 => ?_) fun _ _ z => z⟩
  show spP (wdOf X) S (vs ++ []) H1 Q E0
  rw [List.append_nil]
  obtain ⟨F2, ρ2, ds, l2, I2, no, len, sv, h2⟩ := argsD_of I1 ok1 h1
  refine ⟨F2, ds, no, I2.args rfl len no sv, ms _ _ _ h2 fun r hr v F' H' l J okr => ?_⟩
  obtain ⟨d, e1, c, dk, q⟩ := hr
  subst e1
  exact q v F1 H' l1 (I1.back I2 J dk) (Rp.scal c okr)
def dCallI (S : SpI) (i : Nat) (u : TDA) : TD := fun ρ Q E => (∃ ob0, HasD ρ i (.own ob0)) ∧ u ρ (fun rs ρ1 => argsD rs ρ1 fun ds ρ2 => ∃ ob, HasD ρ2 i (.own ob) ∧ S ob ds fun r ob' => noSlot r ∧ Q r (ρ2.set i (some (.own ob')))) E
theorem dCallI.mono {S : SpI} {i : Nat} (ms : MonoI S) (m : Mono u) : Mono (dCallI S i u) := fun ρ Q Q' E E' h hq he =>
  ⟨h.1, m _ _ _ _ _ h.2 (fun rs ρ1 h1 => argsD.mono h1 fun ds ρ2 ⟨ob, hd, h2⟩ => ⟨ob, hd, ms _ _ _ _ h2 fun r o q => ⟨q.1, hq _ _ q.2⟩⟩) he⟩
theorem RE.afterI {W : Wd} {B : Bs} {F F' H H' : Hp} {σ : L2.St} {ρ : DEnv} (I : RE W B F H σ ρ) {i : Nat} {a : Addr} {ob ob' : OB} (hd : HasD ρ i (.own ob)) (hv : HasV σ i (.ref a)) (J : RE W (bI F H a) F' H' [some (.ref a)] [some (.own ob')]) : RE W B F' H' σ (ρ.set i (some (.own ob'))) := by
  have hl : i < ρ.length := (List.getElem?_eq_some_iff.mp hd).1
  have key : ∀ {j : Nat} {dv : DV}, HasD (ρ.set i (some (.own ob'))) j dv → (j = i ∧ dv = .own ob') ∨ (j ≠ i ∧ HasD ρ j dv) := fun {j dv} e => by
    unfold HasD at e
    by_cases c : j = i
    · subst c
      rw [List.getElem?_set_self hl] at e
      exact .inl ⟨rfl, (Option.some.inj (Option.some.inj e)).symm⟩
    · rw [List.getElem?_set_ne (Ne.symm c)] at e
      exact .inr ⟨c, e⟩
  have old : ∀ {j : Nat} {o2 : OB}, HasD (ρ.set i (some (.own ob'))) j (.own o2) → ∃ ob3, HasD ρ j (.own ob3) := fun {j o2} e => by
    rcases key e with ⟨rfl, _⟩ | ⟨_, q⟩
    · exact ⟨ob, hd⟩
    · exact ⟨o2, q⟩
  refine ⟨by simpa using I.len, J.fle, J.nfz, fun j dv e => ?_, fun j k b o1 o2 n e1 e2 => ?_, fun j b o e q => ?_, I.bF.trans J.bF, fun b y e n => ?_, fun b y e n f => ?_, fun b e => ?_, I.pin⟩
  · rcases key e with ⟨rfl, rfl⟩ | ⟨c, q⟩
    · obtain ⟨v, e1, s⟩ := J.sl 0 _ rfl
      cases (show some (some (V.ref a)) = some (some v) from e1)
      exact ⟨_, hv, s⟩
    · obtain ⟨v, e1, s⟩ := I.sl j dv q
      refine ⟨v, e1, ?_⟩
      cases dv with
      | pure d => exact Rp.mono J.bF s
      | raw x => exact s
      | own o3 =>
        obtain ⟨b, y, ev, f', h', r'⟩ := s
        have cb : b ≠ a := fun cb => by subst cb; subst ev; exact I.dis i j b ob o3 (Ne.symm c) hd q hv e1
        have fn := J.bN b y h' cb f'
        exact ⟨b, y, ev, fn, (J.bH b y h' cb).live fn, OR.mono J.bF r'⟩
  · obtain ⟨o3, q1⟩ := old e1
    obtain ⟨o4, q2⟩ := old e2
    exact I.dis j k b o3 o4 n q1 q2
  · obtain ⟨o3, q1⟩ := old e
    exact I.ownb j b o3 q1 q
  · have c : b ≠ a := fun c => by
      subst c
      rcases I.ownb i b ob hd hv with z | z
      · exact n z
      · rw [e] at z; cases z
    exact (I.bH b y e n).then J.bF J.nfz fun z q => J.bH b z q c
  · have c : b ≠ a := fun c => by
      subst c
      rcases I.ownb i b ob hd hv with z | z
      · exact n z
      · rw [e] at z; cases z
    obtain ⟨z, q⟩ := (I.bH b y e n).ex
    exact J.bN b z q c (I.bN b y e n f)
  · obtain ⟨y, q⟩ := I.bL b e
    by_cases c : b = a
    · subst c; exact J.bL b rfl
    · exact (J.bH b y q c).ex
theorem RVok.afterI {W : Wd} {B : Bs} {F F' H H' : Hp} {σ : L2.St} {ρ : DEnv} (I : RE W B F H σ ρ) {i : Nat} {a : Addr} {ob ob' : OB} (hd : HasD ρ i (.own ob)) {v : V} {r : RV} (ok : RVok W (bI F H a) F' H' [some (.ref a)] [some (.own ob')] v r) (ns : ∀ i, r ≠ .slot i) : RVok W B F' H' σ (ρ.set i (some (.own ob'))) v r := by
  cases r with
  | pure d => exact ok
  | raw x => exact ok
  | slot i => exact absurd rfl (ns i)
  | tmp o =>
    obtain ⟨b, u, ev, f, hh, q, hb, _⟩ := ok
    have hb : H b = none := hb
    refine ⟨b, u, ev, f, hh, q, I.bnone hb, fun j o2 hd2 hv => ?_⟩
    obtain ⟨o3, hd3⟩ : ∃ o3, HasD ρ j (.own o3) := by
      by_cases c : j = i
      · subst c; exact ⟨ob, hd⟩
      · unfold HasD at hd2; rw [List.getElem?_set_ne (Ne.symm c)] at hd2; exact ⟨o2, hd2⟩
    obtain ⟨v', e1, a', u', ev', _, hh', _⟩ := I.sl j _ hd3
    unfold HasV at hv e1
    rw [hv] at e1
    cases e1
    cases ev'
    rw [hb] at hh'
    cases hh'
theorem RE.argsI {W : Wd} {B : Bs} {F H : Hp} {σ : L2.St} {ρ : DEnv} (I : RE W B F H σ ρ) {i : Nat} {a : Addr} {ob : OB} (hd : HasD ρ i (.own ob)) (hv : HasV σ i (.ref a)) {vs : List V} {dvs : List DV} (hl : vs.length = dvs.length) (no : ∀ d ∈ dvs, noOwn d)
    (h : ∀ (i : Nat) (dv : DV), dvs[i]? = some dv → ∃ v, vs[i]? = some v ∧ SV W F H v dv) : RE W (bI F H a) F H ((.ref a :: vs).map some) (some (.own ob) :: dvs.map some) := by
  have key : ∀ {i : Nat} {dv : DV}, HasD (dvs.map some) i dv → dvs[i]? = some dv := fun {i dv} e => by
    unfold HasD at e
    rw [List.getElem?_map] at e
    cases q : dvs[i]? with
    | none => rw [q] at e; cases e
    | some z => rw [q] at e; exact Option.some.inj e
  have nx : ∀ {j : Nat} {ob' : OB}, HasD (some (.own ob) :: dvs.map some) j (.own ob') → j = 0 := fun {j ob'} e => by
    cases j with
    | zero => rfl
    | succ j => exact absurd (key (i := j) e) fun z => no _ (List.mem_of_getElem? z)
  obtain ⟨v, e1, a', u, ev, f, hh, r⟩ := I.sl i _ hd
  unfold HasV at hv e1
  rw [hv] at e1
  cases e1
  cases ev
  refine ⟨by simpa using hl, I.fle, I.nfz, fun j dv e => ?_, fun j k b o1 o2 n e1 e2 => absurd ((nx e1).trans (nx e2).symm) n, fun j b o e q => ?_, Le.refl F, fun a u e _ => .inl e, fun a u _ _ f => f, fun b e => ⟨u, e ▸ hh⟩, fun p hp => ?_⟩
  · cases j with
    | zero =>
      have e : some (some (DV.own ob)) = some (some dv) := e
      cases e
      exact ⟨_, rfl, a, u, rfl, f, hh, r⟩
    | succ j =>
      obtain ⟨v, e1, s⟩ := h j dv (key e)
      exact ⟨v, by unfold HasV; rw [List.getElem?_map, List.getElem?_cons_succ, e1]; rfl, s⟩
  · have e0 := nx e
    subst e0
    have q : some (some (V.ref a)) = some (some (V.ref b)) := q
    cases q
    exact .inl rfl
  · have e : p = (0, some (.ref a)) := by simpa using hp
    subst e
    rfl
theorem de_callI {S : SpI} (ms : MonoI S) {i : Nat} (Fk : FnOk X.prog X.w X.K X.mg X.base CX k f fd ps (spI (wdOf X) S)) (hr : Room k X.A) (hg : Gl X x) (hm : X.mg x = some (.ref f)) (hk : PySem.W.keepIn X.K (.ref f) = true) (hb : Binds X.K fd ps [])
    (hx : Passes CX X E0) (h0 : PE X e (tVar i)) (ha : DA X Wx es u) (hdb : (x == ("__debug__" : Str)) = false := by decide) (he : starEach (e :: es) X.env = (false, eval e X.env) :: starEach es X.env := by rfl)
    (hpl : (backTo pos (starEach es X.env)).any (·.1) = false := by rfl) : DE X Wx (.Call (.Name x p) (e :: es) [] pos) (dCallI S i u) := by
  refine ⟨fun B => PE.imp (pe_call Fk hr hg hm hk hb .nil hx (pa_cons h0 (ha.run B) he) hdb he hpl) fun σ H Q hh => ?_, dCallI.mono ms ha.mono⟩
  obtain ⟨F, ρ, I, hv⟩ := hh
  obtain ⟨⟨ob0, hd0⟩, hv⟩ := hv
  obtain ⟨x, hx0, _⟩ := I.sl i _ hd0
  refine ⟨x, hx0, F, ρ, I, ha.mono _ _ _ _ _ hv (fun rs ρ1 h1 vs F1 H1 l1 I1 ok1 => ?_) fun _ _ z => z⟩
  show spI (wdOf X) S ((x :: vs) ++ []) H1 Q E0
  rw [List.append_nil]
  obtain ⟨F2, ρ2, ds, l2, I2, no, len, sv, ob, hd, h2⟩ := argsD_of I1 ok1 h1
  obtain ⟨v, e1, a, y, ev, f, hh, r⟩ := I2.sl i _ hd
  unfold HasV at hx0 e1
  rw [hx0] at e1
  cases e1
  subst ev
  refine ⟨F2, a, ob, ds, no, I2.argsI hd hx0 len no sv, ms _ _ _ _ h2 fun r ob' hr v F' H' l J okr => ?_⟩
  have ns : ∀ i, r ≠ .slot i := fun i e => by subst e; exact hr.1
  exact hr.2 v F' H' (l1.trans (l2.trans l)) (I2.afterI hd hx0 J) (RVok.afterI I2 hd okr ns)
end
end DL
set_option Elab.async false
set_option linter.all false
set_option maxRecDepth 100000
set_option maxHeartbeats 4000000
namespace DL
open PySem PySem.Spec L2
open PyProof.Rows hiding St
section
variable {X : Cx} {Wx : WX} {ios : List Nat} {st : Stmt} {rest : List Stmt} {g h : TDS} {e tg iter : Expr} {t : TD} {u : TDB} {pos : Pos}
theorem AXS.of {W : Wd} {B : Bs} {F : Hp} {σ : L2.St} {x : EX} {ρ' : DEnv} (k : AXS W B Wx x ρ') : AX W B F σ Wx x ρ' := fun d F' H' _ I ok => k d σ F' H' I ok
def dNext : TDS := fun ρ Q _ => Q .nx ρ
def dSeq (g h : TDS) : TDS := fun ρ Q E => g ρ (fun fl ρ1 => match fl with
  | .nx => h ρ1 Q E
  | .bk => Q .bk ρ1
  | .ct => Q .ct ρ1
  | .rt r => Q (.rt r) ρ1) E
theorem dNext.mono : Mono dNext := fun _ _ _ _ _ k hq _ => hq _ _ k
theorem dSeq.mono (m : Mono g) (n : Mono h) : Mono (dSeq g h) := fun ρ Q Q' E E' k hq he => m _ _ _ _ _ k (fun fl ρ1 k1 => by
  cases fl with
  | nx => exact n _ _ _ _ _ k1 hq he
  | bk => exact hq _ _ k1
  | ct => exact hq _ _ k1
  | rt r => exact hq _ _ k1) he
theorem dss_nil : DSs X Wx ios [] dNext := by
  refine ⟨fun B hb => PSs.imp pss_nil fun D σ H hh => ?_, dNext.mono⟩
  obtain ⟨F, ρ, I, hv⟩ := hh
  exact hv σ F H I
theorem dss_cons (h1 : DS X Wx ios st g) (h2 : DSs X Wx ios rest h) : DSs X Wx ios (st :: rest) (dSeq g h) := by
  refine ⟨fun B hb => PSs.imp (pss_cons (h1.run B hb) (h2.run B hb)) fun D σ H hh => ?_, dSeq.mono h1.mono h2.mono⟩
  obtain ⟨F, ρ, I, hv⟩ := hh
  refine ⟨F, ρ, I, h1.mono _ _ _ _ _ hv (fun fl ρ1 k1 => ?_) fun _ _ z => z⟩
  cases fl with
  | nx => exact fun σ' F' H' I' => ⟨F', ρ1, I', k1⟩
  | bk => exact k1
  | ct => exact k1
  | rt r => exact k1
theorem dss_one (h1 : DS X Wx ios st g) : DSs X Wx ios [st] g := by
  refine ⟨fun B hb => PSs.imp (pss_one (h1.run B hb)) fun D σ H hh => hh, h1.mono⟩
def dBrk : TDS := fun ρ Q _ => Q .bk ρ
def dCnt : TDS := fun ρ Q _ => Q .ct ρ
theorem ds_pass : DS X Wx ios (.Pass pos) dNext := by
  refine ⟨fun B hb => PS.imp ps_pass fun D σ H hh => ?_, dNext.mono⟩
  obtain ⟨F, ρ, I, hv⟩ := hh
  exact hv σ F H I
theorem ds_break : DS X Wx ios (.Break pos) dBrk := by
  refine ⟨fun B hb => PS.imp ps_break fun D σ H hh => ?_, fun _ _ _ _ _ k hq _ => hq _ _ k⟩
  obtain ⟨F, ρ, I, hv⟩ := hh
  exact hv σ F H I
theorem ds_cont : DS X Wx ios (.Continue pos) dCnt := by
  refine ⟨fun B hb => PS.imp ps_continue fun D σ H hh => ?_, fun _ _ _ _ _ k hq _ => hq _ _ k⟩
  obtain ⟨F, ρ, I, hv⟩ := hh
  exact hv σ F H I
def dNever : TDS := fun _ _ _ => False
theorem ds_never : DS X Wx ios st dNever := ⟨fun B hb => PS.imp ps_never fun D σ H hh => by obtain ⟨F, ρ, I, hv⟩ := hh; exact hv.elim, fun _ _ _ _ _ k _ _ => k.elim⟩
/-- an expression whose value is dropped -/
def dDrop (t : TD) : TDS := fun ρ Q E => t ρ (fun _ ρ1 => Q .nx ρ1) E
theorem dDrop.mono (m : Mono t) : Mono (dDrop t) := fun ρ Q Q' E E' k hq he => m _ _ _ _ _ k (fun r ρ1 => hq _ _) he
theorem ds_expr (he : DE X Wx e t) (hs : swapsWith e none pos.line X.env = pure false := by rfl) : DS X Wx ios (.Expr e pos) (dDrop t) := by
  refine ⟨fun B hb => PS.imp (ps_expr (he.run B) hs) fun D σ H hh => ?_, dDrop.mono he.mono⟩
  obtain ⟨F, ρ, I, hv⟩ := hh
  exact ⟨F, ρ, I, he.mono _ _ _ _ _ hv (fun r ρ1 k v F1 H1 l1 I1 ok1 => k σ F1 H1 I1) fun _ _ z => z.of⟩
def dRet (t : TD) : TDS := fun ρ Q E => t ρ (fun r ρ1 => Q (.rt r) ρ1) E
theorem dRet.mono (m : Mono t) : Mono (dRet t) := fun ρ Q Q' E E' k hq he => m _ _ _ _ _ k (fun r ρ1 => hq _ _) he
theorem ds_ret (he : DE X Wx e t) : DS X Wx ios (.Return (some e) pos) (dRet t) := by
  refine ⟨fun B hb => PS.imp (ps_ret (he.run B)) fun D σ H hh => ?_, dRet.mono he.mono⟩
  obtain ⟨F, ρ, I, hv⟩ := hh
  exact ⟨F, ρ, I, he.mono _ _ _ _ _ hv (fun r ρ1 k v F1 H1 l1 I1 ok1 => k v σ F1 H1 I1 ok1) fun _ _ z => z.of⟩
def dRetN : TDS := fun ρ Q _ => Q (.rt (.pure .none)) ρ
theorem ds_retN : DS X Wx ios (.Return none pos) dRetN := by
  refine ⟨fun B hb => PS.imp ps_retN fun D σ H hh => ?_, fun _ _ _ _ _ k hq _ => hq _ _ k⟩
  obtain ⟨F, ρ, I, hv⟩ := hh
  exact hv .non σ F H I Rp.non
def dIfS (u : TDB) (g h : TDS) : TDS := fun ρ Q E => u ρ (fun k ρ1 => if k = true then g ρ1 Q E else h ρ1 Q E) E
theorem dIfS.mono (o : Mono u) (m : Mono g) (n : Mono h) : Mono (dIfS u g h) := fun ρ Q Q' E E' k hq he => o _ _ _ _ _ k (fun b ρ1 k1 => by
  cases b with
  | true => exact m _ _ _ _ _ k1 hq he
  | false => exact n _ _ _ _ _ k1 hq he) he
theorem ds_if {c : Expr} {a b : List Stmt} (hc : DT X Wx c u) (ha : DSs X Wx ios a g) (hb : DSs X Wx ios b h) : DS X Wx ios (.If c a b pos) (dIfS u g h) := by
  refine ⟨fun B hB => PS.imp (ps_if (hc.run B) (ha.run B hB) (hb.run B hB)) fun D σ H hh => ?_, dIfS.mono hc.mono ha.mono hb.mono⟩
  obtain ⟨F, ρ, I, hv⟩ := hh
  refine ⟨F, ρ, I, hc.mono _ _ _ _ _ hv (fun k ρ1 k1 F1 H1 l1 I1 => ?_) fun _ _ z => z.of⟩
  cases k with
  | true => exact ⟨F1, ρ1, I1, k1⟩
  | false => exact ⟨F1, ρ1, I1, k1⟩
abbrev TDG := RV → DEnv → (DEnv → Prop) → Prop
def AG (W : Wd) (B : Bs) (g : TDG) : TG := fun v σ H Q => ∃ F ρ r, RE W B F H σ ρ ∧ RVok W B F H σ ρ v r ∧ g r ρ fun ρ' => ∀ σ' F' H', RE W B F' H' σ' ρ' → Q σ' H'
structure DG (X : Cx) (ios : List Nat) (tg : Expr) (g : TDG) : Prop where
  run : ∀ B, B.pin.map (·.1) = ios → PG X tg (AG (wdOf X) B g)
  mono : ∀ r ρ (Q Q' : DEnv → Prop), g r ρ Q → (∀ ρ', Q ρ' → Q' ρ') → g r ρ Q'
theorem PG.imp {X : Cx} {tg : Expr} {t t' : TG} (h : PG X tg t') (f : ∀ v σ H Q, t v σ H Q → t' v σ H Q) : PG X tg t := ⟨fun pins s σ H v u Q I r hw => h.run pins s σ H v u Q I r (f v σ H Q hw)⟩
theorem PGs.imp {X : Cx} {tg : List Expr} {t t' : TGs} (h : PGs X tg t') (f : ∀ v σ H Q, t v σ H Q → t' v σ H Q) : PGs X tg t := ⟨fun pins s σ H v u Q I r hw => h.run pins s σ H v u Q I r (f v σ H Q hw)⟩
theorem pg_or {X : Cx} {tg : Expr} {t t' : TG} (h : PG X tg t) (h' : PG X tg t') : PG X tg fun v σ H Q => t v σ H Q ∨ t' v σ H Q :=
  ⟨fun pins s σ H v u Q I r hw => hw.elim (h.run pins s σ H v u Q I r) (h'.run pins s σ H v u Q I r)⟩
/-- a name: what is stored -/
def putR (i : Nat) (r : RV) (ρ : DEnv) (Q : DEnv → Prop) : Prop := match r with
  | .tmp o => Q (ρ.set i (some (.own o)))
  | .raw v => Q (ρ.set i (some (.raw v)))
  | r => keepR r ρ fun d ρ' => Q (ρ'.set i (some (.pure d)))
theorem putR.mono {i : Nat} {r : RV} {ρ : DEnv} {Q Q' : DEnv → Prop} (h : putR i r ρ Q) (hq : ∀ ρ', Q ρ' → Q' ρ') : putR i r ρ Q' := by
  cases r with
  | raw v => exact hq _ h
  | pure d => exact hq _ h
  | tmp o => exact hq _ h
  | slot j =>
    have h : keepR (.slot j) ρ fun d ρ' => Q (ρ'.set i (some (.pure d))) := h
    exact keepR.mono (r := .slot j) h fun d ρ' => hq _
theorem RE.put {W : Wd} {B : Bs} {F H : Hp} {σ : L2.St} {ρ : DEnv} (I : RE W B F H σ ρ) {i : Nat} {v : V} {dv : DV} (np : i ∉ B.pin.map (·.1)) (s : SV W F H v dv)
    (ho : ∀ ob, dv = .own ob → ∀ a, v = .ref a → (B.L a ∨ B.H a = none) ∧ ∀ (j : Nat) (ob' : OB), j ≠ i → HasD ρ j (.own ob') → ¬ HasV σ j (.ref a)) : RE W B F H (σ.set i (some v)) (ρ.set i (some dv)) := by
  by_cases hl : i < σ.length
  · exact I.store np s hl ho
  · rw [List.set_eq_of_length_le (Nat.le_of_not_lt hl), List.set_eq_of_length_le (by rw [← I.len]; exact Nat.le_of_not_lt hl)]
    exact I
theorem put_of {W : Wd} {B : Bs} {F H : Hp} {σ : L2.St} {ρ : DEnv} {i : Nat} {v : V} {r : RV} {Q : DEnv → Prop} (I : RE W B F H σ ρ) (np : i ∉ B.pin.map (·.1)) (ok : RVok W B F H σ ρ v r) (h : putR i r ρ Q) :
    ∃ F' ρ', RE W B F' H (σ.set i (some v)) ρ' ∧ Q ρ' := by
  have main : ∀ {r : RV}, RVok W B F H σ ρ v r → (keepR r ρ fun d ρ' => Q (ρ'.set i (some (.pure d)))) → ∃ F' ρ', RE W B F' H (σ.set i (some v)) ρ' ∧ Q ρ' := fun {r} ok h => by
    obtain ⟨F', ρ', d, l, I', rp, q⟩ := keep_of I ok h
    exact ⟨F', _, I'.put np (dv := .pure d) rp (fun ob z => by cases z), q⟩
  cases r with
  | raw x => exact ⟨F, _, I.put np (dv := .raw x) ok (fun ob z => by cases z), h⟩
  | pure d => exact main ok h
  | slot j => exact main ok h
  | tmp o =>
    obtain ⟨a, u, ev, f, hh, q, hb, no⟩ := ok
    refine ⟨F, _, I.put np (dv := .own o) ⟨a, u, ev, f, hh, q⟩ fun ob z b eb => ?_, h⟩
    rw [ev] at eb
    cases eb
    exact ⟨.inr hb, fun j ob' _ hd => no j ob' hd⟩
def dgName (ios : List Nat) (i : Nat) : TDG := fun r ρ Q => i ∉ ios ∧ putR i r ρ Q
theorem dg_of {i : Nat} (h : PG X tg (gName i)) : DG X ios tg (dgName ios i) := by
  refine ⟨fun B hb => PG.imp h fun v σ H Q hh => ?_, fun r ρ Q Q' k hq => ⟨k.1, putR.mono k.2 hq⟩⟩
  obtain ⟨F, ρ, r, I, ok, ni, hv⟩ := hh
  obtain ⟨F', ρ', I', q⟩ := put_of I (hb ▸ ni) ok hv
  exact q _ F' H I'
/-- several targets, each gets data -/
abbrev TDGs := List D → DEnv → (DEnv → Prop) → Prop
def AGs (W : Wd) (B : Bs) (g : TDGs) : TGs := fun vs σ H Q => ∃ F ρ ds, RE W B F H σ ρ ∧ RpAll W F vs ds ∧ g ds ρ fun ρ' => ∀ σ' F' H', RE W B F' H' σ' ρ' → Q σ' H'
structure DGs (X : Cx) (ios : List Nat) (tgs : List Expr) (g : TDGs) : Prop where
  run : ∀ B, B.pin.map (·.1) = ios → PGs X tgs (AGs (wdOf X) B g)
  mono : ∀ ds ρ (Q Q' : DEnv → Prop), g ds ρ Q → (∀ ρ', Q ρ' → Q' ρ') → g ds ρ Q'
def dgNil : TDGs := fun ds ρ Q => ds = [] ∧ Q ρ
def dgCons (g : TDG) (h : TDGs) : TDGs := fun ds ρ Q => match ds with
  | d :: r => g (.pure d) ρ fun ρ' => h r ρ' Q
  | [] => False
theorem dgs_nil : DGs X ios [] dgNil := by
  refine ⟨fun B hb => PGs.imp pgs_nil fun v σ H Q hh => ?_, fun ds ρ Q Q' k hq => ⟨k.1, hq _ k.2⟩⟩
  obtain ⟨F, ρ, ds, I, rp, e, q⟩ := hh
  subst e
  cases rp
  exact ⟨rfl, q σ F H I⟩
theorem RE.reF {W : Wd} {B : Bs} {F H : Hp} {σ : L2.St} {ρ : DEnv} (I : RE W B F H σ ρ) : RE W { B with F := F } F H σ ρ :=
  ⟨I.len, I.fle, I.nfz, I.sl, I.dis, I.ownb, Le.refl F, I.bH, fun _ _ _ _ f => f, I.bL, I.pin⟩
theorem RE.unF {W : Wd} {B : Bs} {F F' H H' : Hp} {σ σ' : L2.St} {ρ ρ' : DEnv} (I : RE W B F H σ ρ) (J : RE W { B with F := F } F' H' σ' ρ') : RE W B F' H' σ' ρ' :=
  ⟨J.len, J.fle, J.nfz, J.sl, J.dis, J.ownb, I.bF.trans J.bF, J.bH, fun a u e n f => J.bN a u e n (I.bN a u e n f), J.bL, J.pin⟩
theorem dgs_cons {es : List Expr} {g : TDG} {h : TDGs} (h1 : DG X ios e g) (h2 : DGs X ios es h) (hs : (assignEach (e :: es) X.env).map (·.2) = assign e X.env :: (assignEach es X.env).map (·.2) := by rfl) : DGs X ios (e :: es) (dgCons g h) := by
  refine ⟨fun B hb => ?_, fun ds ρ Q Q' k hq => ?_⟩
  · -- the second's wish leans on the frozen part behind the first: the ground is taken anew
    refine ⟨fun pins s σ H vs us Q I0 r hh => ?_⟩
    obtain ⟨F, ρ, ds, I, rp, hv⟩ := hh
    refine (PGs.imp (pgs_cons (h1.run { B with F := F } hb) (h2.run B hb) hs) (t := fun vs' σ' H' Q' => vs' = vs ∧ σ' = σ ∧ H' = H ∧ Q' = Q) fun v' σ' H' Q' hh => ?_).run pins s σ H vs us Q I0 r ⟨rfl, rfl, rfl, rfl⟩
    obtain ⟨rfl, rfl, rfl, rfl⟩ := hh
    cases rp with
    | nil => exact hv.elim
    | cons a b =>
      refine ⟨_, _, rfl, F, ρ, .pure _, I.reF, a, h1.mono _ _ _ _ hv fun ρ' k σ2 F2 H2 I2 => ?_⟩
      exact ⟨F2, ρ', _, I.unF I2, RpAll.mono I2.bF b, k⟩
  · unfold dgCons at k ⊢
    split at k
    · exact h1.mono _ _ _ _ k fun ρ' k' => h2.mono _ _ _ _ k' hq
    · exact k.elim
/-- (a, b, ..) = a tuple or a list of that length -/
def dgTup (n : Nat) (g : TDGs) : TDG := fun r ρ Q => keepR r ρ fun d ρ' => match d with
  | .tuple ds => ds.length = n ∧ g ds ρ' Q
  | .list ds => ds.length = n ∧ g ds ρ' Q
  | _ => False
theorem dg_tup {es : List Expr} {k : Nat} {h : TDGs} {n : Nat} (hc : X.calm = true) (hg : DGs X ios es h) (hn : (assignEach es X.env).length = n := by rfl) (hst : (assignEach es X.env).findIdx? (·.1) = none := by rfl) :
    DG X ios (.Tuple es k pos) (dgTup n h) := by
  refine ⟨fun B hb => PG.imp (pg_or (pg_tup hc (hg.run B hb) hn hst) (pg_lst hc (hg.run B hb) hn hst)) fun v σ H Q hh => ?_, fun r ρ Q Q' kk hq => keepR.mono kk fun d ρ' k' => ?_⟩
  · obtain ⟨F, ρ, r, I, ok, hv⟩ := hh
    obtain ⟨F', ρ', d, l, I', rp, q⟩ := keep_of I ok hv
    split at q
    · rename_i ds
      cases rp with
      | tup hs ra => exact .inl ⟨_, _, rfl, I'.sqT hs, by rw [ra.length]; exact q.1, F', ρ', ds, I', ra, q.2⟩
    · rename_i ds
      cases rp with
      | lst hs ra => exact .inr ⟨_, _, rfl, .inl (I'.fle _ _ hs), by rw [ra.length]; exact q.1, F', ρ', ds, I', ra, q.2⟩
    · exact q.elim
  · split at k'
    · exact ⟨k'.1, hg.mono _ _ _ _ k'.2 hq⟩
    · exact ⟨k'.1, hg.mono _ _ _ _ k'.2 hq⟩
    · exact k'.elim
def dAsg (t : TD) (g : TDG) : TDS := fun ρ Q E => t ρ (fun r ρ1 => g r ρ1 fun ρ2 => Q .nx ρ2) E
theorem dAsg.mono {g : TDG} (m : Mono t) (mg : ∀ r ρ (Q Q' : DEnv → Prop), g r ρ Q → (∀ ρ', Q ρ' → Q' ρ') → g r ρ Q') : Mono (dAsg t g) := fun ρ Q Q' E E' k hq he => m _ _ _ _ _ k (fun r ρ1 k1 => mg _ _ _ _ k1 fun ρ2 => hq _ _) he
theorem ds_asg {g : TDG} (he : DE X Wx e t) (hg : DG X ios tg g) (hs : swapsWithSole [tg] e pos.line X.env = pure false := by rfl) (hw : swappedStores [tg] e X.env = pure none := by rfl)
    (h1 : (assignEach [tg] X.env).map (·.2) = [assign tg X.env] := by rfl) : DS X Wx ios (.Assign [tg] e pos) (dAsg t g) := by
  refine ⟨fun B hb => PS.imp (ps_asg (he.run B) (hg.run B hb) hs hw h1) fun D σ H hh => ?_, dAsg.mono he.mono hg.mono⟩
  obtain ⟨F, ρ, I, hv⟩ := hh
  exact ⟨F, ρ, I, he.mono _ _ _ _ _ hv (fun r ρ1 k v F1 H1 l1 I1 ok1 => ⟨F1, ρ1, r, I1, ok1, k⟩) fun _ _ z => z.of⟩
/-- name = e, by the rule of the store -/
theorem ds_set {i : Nat} (he : DE X Wx e t) (h : ∀ te, PE X e te → PS X st (tAsg te (gName i))) : DS X Wx ios st (dAsg t (dgName ios i)) := by
  refine ⟨fun B hb => PS.imp (h _ (he.run B)) fun D σ H hh => ?_, dAsg.mono he.mono fun r ρ Q Q' k hq => ⟨k.1, putR.mono k.2 hq⟩⟩
  obtain ⟨F, ρ, I, hv⟩ := hh
  refine ⟨F, ρ, I, he.mono _ _ _ _ _ hv (fun r ρ1 k v F1 H1 l1 I1 ok1 => ?_) fun _ _ z => z.of⟩
  obtain ⟨F', ρ', I', q⟩ := put_of I1 (hb ▸ k.1) ok1 k.2
  exact q _ F' H1 I'
/-- a, b = x, y -/
def dPar (ios : List Nat) (i j : Nat) (u : TDA) : TDS := fun ρ Q E => i ∉ ios ∧ j ∉ ios ∧ u ρ (fun rs ρ1 => match rs with
  | [r, r'] => putR i r ρ1 fun ρ2 => putR j r' ρ2 fun ρ3 => Q .nx ρ3
  | _ => False) E
theorem RVok.storeKeep {W : Wd} {B : Bs} {F F' H H' : Hp} {σ : L2.St} {ρ ρ' : DEnv} {v w : V} {r : RV} {i : Nat} (l : Le F F') (nt : ∀ o, r ≠ .tmp o) (hi : r ≠ .slot i) (ok : RVok W B F H σ ρ v r) : RVok W B F' H' (σ.set i (some w)) ρ' v r := by
  cases r with
  | tmp o => exact absurd rfl (nt o)
  | pure d => exact Rp.mono l ok
  | raw x => exact ok
  | slot j =>
    have c : i ≠ j := fun c => hi (by rw [c])
    show HasV _ _ _
    unfold HasV
    rw [List.getElem?_set_ne c]
    exact ok
theorem ds_par {i j : Nat} {ua : TDA} (ha : ∀ B : Bs, PS X st (tPar i j (AA (wdOf X) Wx B ua))) (m : Mono ua) : DS X Wx ios st (fun ρ Q E => i ∉ ios ∧ j ∉ ios ∧ ua ρ (fun rs ρ1 => match rs with
  | [r, r'] => r' ≠ .slot i ∧ putR i r ρ1 fun ρ2 => putR j r' ρ2 fun ρ3 => Q .nx ρ3
  | _ => False) E) := by
  refine ⟨fun B hb => PS.imp (ha B) fun D σ H hh => ?_, fun ρ Q Q' E E' k hq he => ⟨k.1, k.2.1, m _ _ _ _ _ k.2.2 (fun rs ρ1 k1 => ?_) he⟩⟩
  · obtain ⟨F, ρ, I, ni, nj, hv⟩ := hh
    refine ⟨F, ρ, I, m _ _ _ _ _ hv (fun rs ρ1 k vs F1 H1 l1 I1 ok1 => ?_) fun _ _ z => z.of⟩
    cases ok1 with
    | nil => exact k.elim
    | cons nt ok r =>
      cases r with
      | nil => exact k.elim
      | cons nt' ok' r =>
        cases r with
        | cons _ _ _ => exact k.elim
        | nil =>
          rename_i v r1 w r2
          have k : r2 ≠ .slot i ∧ putR i r1 ρ1 fun ρ2 => putR j r2 ρ2 fun ρ3 => KS (wdOf X) B D .nx ρ3 := k
          -- the ground is taken anew, so that what is frozen stays so
          obtain ⟨F2, ρ2, I2, q2⟩ := put_of I1.reF (hb ▸ ni) (r := r1) (show RVok (wdOf X) { B with F := F1 } F1 H1 σ ρ1 v r1 from by cases r1 <;> first | exact ok | exact absurd rfl (nt _)) k.2
          have ok2 : RVok (wdOf X) B F2 H1 (σ.set i (some v)) ρ2 w r2 := RVok.storeKeep I2.bF nt' k.1 ok'
          obtain ⟨F3, ρ3, I3, q3⟩ := put_of (I1.unF I2) (hb ▸ nj) ok2 q2
          exact ⟨v, w, rfl, q3 _ F3 H1 I3⟩
  · split at k1
    · exact ⟨k1.1, putR.mono k1.2 fun ρ2 k2 => putR.mono k2 fun ρ3 => hq _ _⟩
    · exact k1.elim
def dWhile (u : TDB) (g : TDS) : TDS := fun ρ Q E => ∃ Wd : Nat → DEnv → Prop, (∃ m, Wd m ρ) ∧ ∀ m ρ, Wd m ρ → u ρ (fun b ρ1 => if b = true then g ρ1 (fun fl ρ2 => match fl with
  | .nx => ∃ m', m' < m ∧ Wd m' ρ2
  | .ct => ∃ m', m' < m ∧ Wd m' ρ2
  | .bk => Q .nx ρ2
  | .rt r => Q (.rt r) ρ2) E else Q .nx ρ1) E
theorem dWhile.mono (o : Mono u) (m : Mono g) : Mono (dWhile u g) := fun ρ Q Q' E E' ⟨Wd, w0, k⟩ hq he => ⟨Wd, w0, fun n ρ w => o _ _ _ _ _ (k n ρ w) (fun b ρ1 k1 => by
  cases b with
  | false => exact hq _ _ k1
  | true => exact m _ _ _ _ _ k1 (fun fl ρ2 k2 => by
      cases fl with
      | nx => exact k2
      | ct => exact k2
      | bk => exact hq _ _ k2
      | rt r => exact hq _ _ k2) he) he⟩
theorem ds_while {c : Expr} {body : List Stmt} (hp : PassesOwn (model X.prog X.w) X.A X.env X.xe) (hc : DT X Wx c u) (hb : DSs X Wx ios body g) : DS X Wx ios (.While c body [] pos) (dWhile u g) := by
  refine ⟨fun B hB => PS.imp (ps_while hp (hc.run B) (hb.run B hB)) fun D σ H hh => ?_, dWhile.mono hc.mono hb.mono⟩
  obtain ⟨F, ρ, I, Wd, ⟨m0, w0⟩, k⟩ := hh
  refine ⟨fun m σ H => ∃ F ρ, RE (wdOf X) B F H σ ρ ∧ Wd m ρ, ⟨m0, F, ρ, I, w0⟩, fun m σ1 H1 ⟨F1, ρ1, I1, w1⟩ => ?_⟩
  refine ⟨F1, ρ1, I1, hc.mono _ _ _ _ _ (k m ρ1 w1) (fun b ρ2 k2 F2 H2 l2 I2 => ?_) fun _ _ z => z.of⟩
  cases b with
  | false => exact k2 σ1 F2 H2 I2
  | true =>
    rw [if_pos rfl] at k2 ⊢
    refine ⟨fun σ' H' => ∃ m', m' < m ∧ ∃ F ρ, RE (wdOf X) B F H' σ' ρ ∧ Wd m' ρ, fun σ' H' z => z, F2, ρ2, I2, hb.mono _ _ _ _ _ k2 (fun fl ρ3 k3 => ?_) fun _ _ z => z⟩
    cases fl with
    | nx => obtain ⟨m', lm, w3⟩ := k3; exact fun σ' F' H' I' => ⟨m', lm, F', ρ3, I', w3⟩
    | ct => obtain ⟨m', lm, w3⟩ := k3; exact fun σ' F' H' I' => ⟨m', lm, F', ρ3, I', w3⟩
    | bk => exact k3
    | rt r => exact k3
/-- the iterator J gives the data ds, one by one, from whatever heap that bears the frozen F -/
def IterOk (W : Wd) (J : It) (F H : Hp) (ds : List D) : Prop := ∀ (B : Bs) (σ : L2.St) (ρ : DEnv) (F2 H2 : Hp) (i : Nat), Le F F2 → (∀ (a : Addr) (z : Obj) (u : HO), H a = some (.frz z u) → H2 a = some (.frz z u)) → RE W B F2 H2 σ ρ →
  (i < ds.length → J.go i H2) ∧ (∀ d, ds[i]? = some d → ∀ x H3, J.yld i H2 x H3 → ∃ F3, Le F2 F3 ∧ RE W B F3 H3 σ ρ ∧ Rp W F3 x d) ∧ (ds.length ≤ i → J.stop i H2)
abbrev TDI := DEnv → (List D → DEnv → Prop) → EK → Prop
def AI (W : Wd) (Wx : WX) (B : Bs) (w : TDI) : TI := fun σ H R => ∃ F ρ, RE W B F H σ ρ ∧ w ρ (fun ds ρ' => ∀ J F' H', Le F F' → RE W B F' H' σ ρ' → IterOk W J F' H' ds → R J H') (AX W B F σ Wx)
structure DI (X : Cx) (Wx : WX) (tg iter : Expr) (w : TDI) : Prop where
  run : ∀ B, PI X tg iter (AI (wdOf X) Wx B w)
  mono : Mono w
theorem PI.imp {X : Cx} {tg iter : Expr} {t t' : TI} (h : PI X tg iter t') (f : ∀ σ H R, t σ H R → t' σ H R) : PI X tg iter t := ⟨fun pins s σ H R I hw => h.run pins s σ H R I (f σ H R hw)⟩
theorem pi_or {X : Cx} {tg iter : Expr} {t t' : TI} (h : PI X tg iter t) (h' : PI X tg iter t') : PI X tg iter fun σ H R => t σ H R ∨ t' σ H R := ⟨fun pins s σ H R I hw => hw.elim (h.run pins s σ H R I) (h'.run pins s σ H R I)⟩
open Classical in
/-- the ground taken anew: what is frozen, what is locked -/
noncomputable def Bs.at (B : Bs) (F H : Hp) : Bs := { B with F := F, H := fun a => if (∃ z u, H a = some (.frz z u)) then H a else B.H a, L := fun a => B.L a ∧ ¬ ∃ z u, H a = some (.frz z u) }
theorem Bs.at_frz {B : Bs} {F H : Hp} {a : Addr} {z : Obj} {u : HO} (h : H a = some (.frz z u)) : (B.at F H).H a = some (.frz z u) ∧ ¬ (B.at F H).L a := by
  refine ⟨?_, fun l => l.2 ⟨z, u, h⟩⟩
  exact (if_pos (show ∃ z u, H a = some (.frz z u) from ⟨z, u, h⟩)).trans h
theorem Bs.at_not {B : Bs} {F H : Hp} {a : Addr} (h : ¬ ∃ z u, H a = some (.frz z u)) : (B.at F H).H a = B.H a := by
  exact if_neg h
theorem SV.notfrz {W : Wd} {F H : Hp} {σ : L2.St} {ρ : DEnv} {B : Bs} (I : RE W B F H σ ρ) {i : Nat} {a : Addr} {ob : OB} (hd : HasD ρ i (.own ob)) (hv : HasV σ i (.ref a)) : ¬ ∃ z u, H a = some (.frz z u) := by
  rintro ⟨z, y, h⟩
  obtain ⟨v, e1, a', u, ev, f, hh, r⟩ := I.sl i _ hd
  unfold HasV at hv e1
  rw [hv] at e1
  cases e1
  cases ev
  rw [h] at hh
  exact r.nofrz z y (Option.some.inj hh).symm
theorem RE.atB {W : Wd} {B : Bs} {F H : Hp} {σ : L2.St} {ρ : DEnv} (I : RE W B F H σ ρ) : RE W (B.at F H) F H σ ρ := by
  refine ⟨I.len, I.fle, I.nfz, I.sl, I.dis, fun i a ob e q => ?_, Le.refl F, fun a u e n => ?_, fun _ _ _ _ f => f, fun a e => I.bL a e.1, I.pin⟩
  · have nf := SV.notfrz I e q
    rcases I.ownb i a ob e q with z | z
    · exact .inl ⟨z, nf⟩
    · exact .inr (by rw [Bs.at_not nf]; exact z)
  · by_cases c : ∃ z u, H a = some (.frz z u)
    · obtain ⟨z, y, h⟩ := c
      rw [(Bs.at_frz h).1] at e
      cases e
      exact .inl h
    · rw [Bs.at_not c] at e
      exact I.bH a u e fun l => n ⟨l, c⟩
theorem RE.unAt {W : Wd} {B : Bs} {F F' H H' : Hp} {σ σ' : L2.St} {ρ ρ' : DEnv} (I : RE W B F H σ ρ) (J : RE W (B.at F H) F' H' σ' ρ') : RE W B F' H' σ' ρ' := by
  have hf : ∀ {a z u}, H a = some (.frz z u) → H' a = some (.frz z u) := fun {a z u} h => by
    rcases J.bH a _ (Bs.at_frz h).1 (Bs.at_frz h).2 with q | ⟨q, _⟩
    · exact q
    · exact absurd q (J.nfz _ _ _)
  refine ⟨J.len, J.fle, J.nfz, J.sl, J.dis, fun i a ob e q => ?_, I.bF.trans J.bF, fun a u e n => ?_, fun a u e n f => ?_, fun a e => ?_, J.pin⟩
  · rcases J.ownb i a ob e q with z | z
    · exact .inl z.1
    · by_cases c : ∃ z u, H a = some (.frz z u)
      · obtain ⟨z', y, h⟩ := c
        rw [(Bs.at_frz h).1] at z
        cases z
      · rw [Bs.at_not c] at z
        exact .inr z
  · by_cases c : ∃ z u, H a = some (.frz z u)
    · obtain ⟨z, y, h⟩ := c
      rcases I.bH a u e n with q | ⟨f, d, o, q⟩
      · rw [h] at q
        cases q
        exact .inl (hf h)
      · exact .inr ⟨J.bF _ _ f, d, o, hf q⟩
    · exact J.bH a u (by rw [Bs.at_not c]; exact e) fun l => n l.1
  · by_cases c : ∃ z u, H a = some (.frz z u)
    · obtain ⟨z, y, h⟩ := c
      exact J.bN a _ (Bs.at_frz h).1 (Bs.at_frz h).2 (I.bN a u e n f)
    · exact J.bN a u (by rw [Bs.at_not c]; exact e) (fun l => n l.1) (I.bN a u e n f)
  · by_cases c : ∃ z u, H a = some (.frz z u)
    · obtain ⟨z, y, h⟩ := c
      exact ⟨_, hf h⟩
    · exact J.bL a ⟨e, c⟩
theorem RVok.unAt {W : Wd} {B : Bs} {F F' H H' : Hp} {σ' : L2.St} {ρ' : DEnv} {v : V} {r : RV} (ok : RVok W (B.at F H) F' H' σ' ρ' v r) : RVok W B F' H' σ' ρ' v r := by
  cases r with
  | pure d => exact ok
  | slot i => exact ok
  | raw x => exact ok
  | tmp o =>
    obtain ⟨a, u, ev, f, hh, q, hb, no⟩ := ok
    refine ⟨a, u, ev, f, hh, q, ?_, no⟩
    by_cases c : ∃ z u, H a = some (.frz z u)
    · obtain ⟨z', y, h⟩ := c
      rw [(Bs.at_frz h).1] at hb
      cases hb
    · rw [Bs.at_not c] at hb
      exact hb
theorem AXS.unAt {W : Wd} {B : Bs} {F H : Hp} {σ : L2.St} {ρ ρ' : DEnv} {x : EX} (I : RE W B F H σ ρ) (k : AXS W B Wx x ρ') : AXS W (B.at F H) Wx x ρ' := fun d σ' F' H' J ok => k d σ' F' H' (I.unAt J) ok
theorem KS.unAt {W : Wd} {B : Bs} {F H : Hp} {σ : L2.St} {ρ ρ' : DEnv} {D : Ends} {fl : Fl} (I : RE W B F H σ ρ) (k : KS W B D fl ρ') : KS W (B.at F H) D fl ρ' := by
  cases fl with
  | nx => exact fun σ' F' H' J => k σ' F' H' (I.unAt J)
  | bk => exact fun σ' F' H' J => k σ' F' H' (I.unAt J)
  | ct => exact fun σ' F' H' J => k σ' F' H' (I.unAt J)
  | rt r => exact fun v σ' F' H' J ok => k v σ' F' H' (I.unAt J) ok.unAt
theorem RE.frzAt {W : Wd} {B : Bs} {F F' H H' : Hp} {σ' : L2.St} {ρ' : DEnv} (J : RE W (B.at F H) F' H' σ' ρ') : ∀ (a : Addr) (z : Obj) (u : HO), H a = some (.frz z u) → H' a = some (.frz z u) := fun a z u h => by
  rcases J.bH a _ (Bs.at_frz h).1 (Bs.at_frz h).2 with q | ⟨q, _⟩
  · exact q
  · exact absurd q (J.nfz _ _ _)
theorem pg_ex {X : Cx} {tg : Expr} {P : Bs → Prop} {t : Bs → TG} (h : ∀ B, P B → PG X tg (t B)) : PG X tg fun v σ H Q => ∃ B, P B ∧ t B v σ H Q :=
  ⟨fun pins s σ H v u Q I r ⟨B, p, hw⟩ => (h B p).run pins s σ H v u Q I r hw⟩
theorem pss_ex {X : Cx} {sts : List Stmt} {P : Bs → Prop} {t : Bs → TS} (h : ∀ B, P B → PSs X sts (t B)) : PSs X sts fun D σ H => ∃ B, P B ∧ t B D σ H :=
  ⟨fun pins s σ H D I ⟨B, p, hw⟩ => (h B p).run pins s σ H D I hw⟩
theorem AXS.unF {W : Wd} {B : Bs} {F H : Hp} {σ : L2.St} {ρ ρ' : DEnv} {x : EX} (I : RE W B F H σ ρ) (k : AXS W B Wx x ρ') : AXS W { B with F := F } Wx x ρ' := fun d σ' F' H' J ok => k d σ' F' H' (I.unF J) ok
theorem RVok.unF {W : Wd} {B : Bs} {F F' H' : Hp} {σ' : L2.St} {ρ' : DEnv} {v : V} {r : RV} (ok : RVok W { B with F := F } F' H' σ' ρ' v r) : RVok W B F' H' σ' ρ' v r := by
  cases r <;> exact ok
theorem KS.unF {W : Wd} {B : Bs} {F H : Hp} {σ : L2.St} {ρ ρ' : DEnv} {D : Ends} {fl : Fl} (I : RE W B F H σ ρ) (k : KS W B D fl ρ') : KS W { B with F := F } D fl ρ' := by
  cases fl with
  | nx => exact fun σ' F' H' J => k σ' F' H' (I.unF J)
  | bk => exact fun σ' F' H' J => k σ' F' H' (I.unF J)
  | ct => exact fun σ' F' H' J => k σ' F' H' (I.unF J)
  | rt r => exact fun v σ' F' H' J ok => k v σ' F' H' (I.unF J) ok.unF
def forD (tg : TDG) (g : TDS) : List D → TDS
  | [], ρ, Q, _ => Q .nx ρ
  | d :: ds, ρ, Q, E => tg (.pure d) ρ fun ρ1 => g ρ1 (fun fl ρ2 => match fl with
    | .nx => forD tg g ds ρ2 Q E
    | .ct => forD tg g ds ρ2 Q E
    | .bk => Q .nx ρ2
    | .rt r => Q (.rt r) ρ2) E
def dFor (w : TDI) (tg : TDG) (g : TDS) : TDS := fun ρ Q E => w ρ (fun ds ρ1 => forD tg g ds ρ1 Q E) E
theorem forD.mono {tg : TDG} (mt : ∀ r ρ (Q Q' : DEnv → Prop), tg r ρ Q → (∀ ρ', Q ρ' → Q' ρ') → tg r ρ Q') (m : Mono g) : ∀ ds, Mono (forD tg g ds)
  | [] => fun _ _ _ _ _ k hq _ => hq _ _ k
  | d :: ds => fun ρ Q Q' E E' k hq he => mt _ _ _ _ k fun ρ1 k1 => m _ _ _ _ _ k1 (fun fl ρ2 k2 => by
      cases fl with
      | nx => exact forD.mono mt m ds _ _ _ _ _ k2 hq he
      | ct => exact forD.mono mt m ds _ _ _ _ _ k2 hq he
      | bk => exact hq _ _ k2
      | rt r => exact hq _ _ k2) he
theorem dFor.mono {w : TDI} {tg : TDG} (mw : Mono w) (mt : ∀ r ρ (Q Q' : DEnv → Prop), tg r ρ Q → (∀ ρ', Q ρ' → Q' ρ') → tg r ρ Q') (m : Mono g) : Mono (dFor w tg g) := fun ρ Q Q' E E' k hq he =>
  mw _ _ _ _ _ k (fun ds ρ1 k1 => forD.mono mt m ds _ _ _ _ _ k1 hq he) he
theorem ds_for {body : List Stmt} {w : TDI} {tgd : TDG} (hp : PassesOwn (model X.prog X.w) X.A X.env X.xe) (hc : X.calm = true) (hi : DI X Wx tg iter w) (hg : DG X ios tg tgd) (hb : DSs X Wx ios body g)
    (hs : ∀ x, foldedSetIterable iter X.env x = pure x := by intro _; rfl) : DS X Wx ios (.For tg iter body [] pos) (dFor w tgd g) := by
  refine ⟨fun B hB => PS.imp (ps_for hp hc (hi.run B) (pg_ex hg.run) (pss_ex hb.run) hs) fun D σ H hh => ?_, dFor.mono hi.mono hg.mono hb.mono⟩
  obtain ⟨F, ρ, I, hv⟩ := hh
  refine ⟨F, ρ, I, hi.mono _ _ _ _ _ hv (fun ds ρ1 k J F1 H1 l1 I1 ok => ?_) fun _ _ z => z.of⟩
  refine ⟨fun i m σ H => i + m = ds.length ∧ ∃ F ρ, RE (wdOf X) (B.at F1 H1) F H σ ρ ∧ forD tgd g (ds.drop i) ρ (KS (wdOf X) B D) (AXS (wdOf X) B Wx), ⟨ds.length, by omega, F1, ρ1, I1.atB, k⟩, fun i m σ2 H2 hW => ?_⟩
  obtain ⟨em, F2, ρ2, I2, k2⟩ := hW
  obtain ⟨o1, o2, o3⟩ := ok (B.at F1 H1) σ2 ρ2 F2 H2 i I2.bF I2.frzAt I2
  by_cases hi' : i < ds.length
  · refine .inr ⟨o1 hi', fun σ' H' => ∃ F ρ, RE (wdOf X) (B.at F1 H1) F H' σ' ρ ∧ forD tgd g (ds.drop (i + 1)) ρ (KS (wdOf X) B D) (AXS (wdOf X) B Wx), fun σ' H' z => ⟨m - 1, by omega, by omega, z⟩, fun x H3 hy => ?_⟩
    have ed : ds[i]? = some ds[i] := List.getElem?_eq_getElem hi'
    obtain ⟨F3, l3, I3, rp⟩ := o2 _ ed x H3 hy
    rw [List.drop_eq_getElem_cons hi'] at k2
    refine ⟨B.at F1 H1, hB, F3, ρ2, .pure ds[i], I3, rp, hg.mono _ _ _ _ k2 fun ρ3 k3 σ4 F4 H4 I4 => ?_⟩
    refine ⟨B.at F1 H1, hB, F4, ρ3, I4, hb.mono _ _ _ _ _ k3 (fun fl ρ5 k5 => ?_) fun x ρ' z => AXS.unAt I1 z⟩
    cases fl with
    | nx => exact fun σ' F' H' I' => ⟨F', ρ5, I', k5⟩
    | ct => exact fun σ' F' H' I' => ⟨F', ρ5, I', k5⟩
    | bk => exact fun σ' F' H' I' => k5 σ' F' H' (I1.unAt I')
    | rt r => exact KS.unAt (D := D) (fl := .rt r) I1 k5
  · rw [List.drop_eq_nil_of_le (Nat.le_of_not_lt hi')] at k2
    exact .inl ⟨o3 (Nat.le_of_not_lt hi'), k2 σ2 F2 H2 (I1.unAt I2)⟩
end
end DL
set_option Elab.async false
set_option linter.all false
set_option maxRecDepth 100000
set_option maxHeartbeats 4000000
namespace DL
open PySem PySem.Spec L2
open PyProof.Rows hiding St
open RZ (ItzT pi_zipA)
section
variable {X : Cx} {Wx : WX} {tg e e2 : Expr} {t : TD} {u : TDA} {pos p tpos : Pos} {elts : List Expr} {kk : Nat}
/-- the items of a list or a tuple; an owned list is frozen -/
def dSeqI (t : TD) : TDI := fun ρ Q E => t ρ (fun r ρ1 => keepR r ρ1 fun d ρ2 => match d with
  | .list ds => Q ds ρ2
  | .tuple ds => Q ds ρ2
  | _ => False) E
theorem dSeqI.mono (m : Mono t) : Mono (dSeqI t) := fun ρ Q Q' E E' k hq he => m _ _ _ _ _ k (fun r ρ1 k1 => keepR.mono k1 fun d ρ2 k2 => by
  split at k2 <;> first | exact hq _ _ k2 | exact k2.elim) he
theorem iter_list {W : Wd} {F : Hp} {a : Addr} {xs : List V} {ds : List D} (hf : F a = some (.lst xs)) {H : Hp} (ra : RpAll W F xs ds) : IterOk W (Itl W.K a) F H ds := fun B σ ρ F2 H2 i l _ I => by
  have hq : SqL W.K H2 a xs := .inl (I.fle _ _ (l _ _ hf))
  have hl := ra.length
  refine ⟨fun hi => ?_, fun d hd x H3 hy => ?_, fun hi => ⟨xs, hq, by omega⟩⟩
  · exact ⟨xs, xs[i], hq, List.getElem?_eq_getElem (by omega)⟩
  · obtain ⟨rfl, hx⟩ := hy
    obtain ⟨v, e1, rp⟩ := ra.get hd
    have := hx xs hq
    rw [e1] at this
    cases this
    exact ⟨F2, Le.refl F2, I, Rp.mono l rp⟩
theorem iter_tup {W : Wd} {F : Hp} {a : Addr} {xs : List V} {ds : List D} (hf : SqT W.K F a xs) {H : Hp} (ra : RpAll W F xs ds) : IterOk W (Itt W.K a) F H ds := fun B σ ρ F2 H2 i l _ I => by
  have hq : SqT W.K H2 a xs := I.sqT (SqT.mono l hf)
  have hl := ra.length
  refine ⟨fun hi => ?_, fun d hd x H3 hy => ?_, fun hi => ⟨xs, hq, by omega⟩⟩
  · exact ⟨xs, xs[i], hq, List.getElem?_eq_getElem (by omega)⟩
  · obtain ⟨rfl, hx⟩ := hy
    obtain ⟨v, e1, rp⟩ := ra.get hd
    have := hx xs hq
    rw [e1] at this
    cases this
    exact ⟨F2, Le.refl F2, I, Rp.mono l rp⟩
/-- what the reading of a list's, of a tuple's walk has in common -/
theorem di_seq (he : DE X Wx e t) : DI X Wx tg e (dSeqI t) := by
  refine ⟨fun B => ?_, dSeqI.mono he.mono⟩
  -- one evaluation, then by what has come
  refine ⟨fun pins s σ H R I0 hh => ?_⟩
  obtain ⟨F, ρ, I, hv⟩ := hh
  have h1 := (he.run B).run pins s σ H (fun v H1 => ∃ F1 d, Rp (wdOf X) F1 v d ∧ (∀ a u, F1 a = some u → Rd H1 a u) ∧ (∀ a z y, F1 a ≠ some (.frz z y)) ∧ match d with
    | .list ds => ∀ J, IterOk (wdOf X) J F1 H1 ds → R J H1
    | .tuple ds => ∀ J, IterOk (wdOf X) J F1 H1 ds → R J H1
    | _ => False) I0 ⟨F, ρ, I, he.mono _ _ _ _ _ hv (fun r ρ1 k v F1 H1 l1 I1 ok1 => ?_) fun _ _ z => z⟩
  · refine thn h1 fun v s1 ⟨x, H1, I1, rx, F1, d, rp, fle, nfz, k⟩ => ?_
    cases rp with
    | lst hs ra =>
      rename_i a xs ds
      have hq : SqL X.K H1 a xs := .inl (fle _ _ hs)
      cases rx
      obtain ⟨its, rv, p, hz⟩ := I1.list hq
      refine wpAny_pyIter_list p.isList ?_
      refine ⟨s1.heap.objs.size, [s1.heap.objs.size], _, _, H1, rfl, I1.kept (t' := s1.toks) fun b o e => Heap.get?_push_of_some _ e, turn_list a _, ⟨_, Heap.get?_push_size _ rfl, rfl, rfl⟩, fun b hb => ?_, k _ (iter_list hs ra)⟩
      have e : b = s1.heap.objs.size := by simpa using hb
      subst e
      exact I1.fpOk (Nat.le_refl _) (I1.hok.fresh (Nat.le_refl _))
    | tup hs ra =>
      rename_i a xs ds
      have hq : SqT X.K H1 a xs := by
        rcases hs with (h | ⟨o, h⟩) | h
        · exact .inl (fle _ _ h)
        · exact absurd h (nfz _ _ _)
        · exact .inr h
      cases rx
      obtain ⟨its, rv, p, hz⟩ := I1.tuple hq
      refine wpAny_pyIter_tuple (show s1.heap.IsTuple a its.toArray from p) ?_
      refine ⟨s1.heap.objs.size, [s1.heap.objs.size], _, _, H1, rfl, I1.kept (t' := s1.toks) fun b o e => Heap.get?_push_of_some _ e, turn_tuple a _, ⟨_, Heap.get?_push_size _ rfl, rfl, rfl⟩, fun b hb => ?_, k _ (iter_tup hs ra)⟩
      have e : b = s1.heap.objs.size := by simpa using hb
      subst e
      exact I1.fpOk (Nat.le_refl _) (I1.hok.fresh (Nat.le_refl _))
    | non => exact k.elim
    | bl b => exact k.elim
    | int i => exact k.elim
    | str x => exact k.elim
    | dic _ _ => exact k.elim
  · obtain ⟨F2, ρ2, d, l2, I2, rp, q⟩ := keep_of I1 ok1 k
    refine ⟨F2, d, rp, I2.fle, I2.nfz, ?_⟩
    split at q
    · exact fun J ok => q J F2 H1 (l1.trans l2) I2 ok
    · exact fun J ok => q J F2 H1 (l1.trans l2) I2 ok
    · exact q.elim
def rangeD (i j : Int) : List D := (List.range (j - i).toNat).map fun k => .int (i + (k : Nat))
theorem iter_range {W : Wd} {F H : Hp} (i j : Int) : IterOk W (Itr i (j - i).toNat) F H (rangeD i j) := fun B σ ρ F2 H2 n l _ I => by
  have hl : (rangeD i j).length = (j - i).toNat := by unfold rangeD; rw [List.length_map, List.length_range]
  refine ⟨fun hi => by show n < _; omega, fun d hd x H3 hy => ?_, fun hi => by show _ ≤ n; omega⟩
  obtain ⟨rfl, rfl⟩ := hy
  refine ⟨F2, Le.refl F2, I, ?_⟩
  have hn : n < (j - i).toNat := by rw [← hl]; exact (List.getElem?_eq_some_iff.mp hd).1
  unfold rangeD at hd
  rw [List.getElem?_map, List.getElem?_range hn] at hd
  cases hd
  exact Rp.int _
def bnd (i : Int) : Prop := -(2 ^ 62) ≤ i ∧ i < 2 ^ 62
def dRange1 (u : TDA) : TDI := fun ρ Q E => u ρ (fun rs ρ1 => match rs with
  | [r] => ∃ j, rvData ρ1 r = some (.int j) ∧ bnd j ∧ Q (rangeD 0 j) ρ1
  | _ => False) E
def dRange2 (u : TDA) : TDI := fun ρ Q E => u ρ (fun rs ρ1 => match rs with
  | [r, r'] => ∃ i j, rvData ρ1 r = some (.int i) ∧ rvData ρ1 r' = some (.int j) ∧ bnd i ∧ bnd j ∧ Q (rangeD i j) ρ1
  | _ => False) E
theorem di_range1 {a : Expr} (hg : Gl X "range") (hm : X.mg "range" = none) (ha : DA X Wx [a] u) (hs : starEach [a] X.env = [(false, eval a X.env)] := by rfl) : DI X Wx tg (.Call (.Name "range" p) [a] [] pos) (dRange1 u) := by
  refine ⟨fun B => PI.imp (pi_range1 hg hm (ha.run B) hs) fun σ H R hh => ?_, fun ρ Q Q' E E' k hq he => ha.mono _ _ _ _ _ k (fun rs ρ1 k1 => ?_) he⟩
  · obtain ⟨F, ρ, I, hv⟩ := hh
    refine ⟨F, ρ, I, ha.mono _ _ _ _ _ hv (fun rs ρ1 k vs F1 H1 l1 I1 ok1 => ?_) fun _ _ z => z⟩
    cases ok1 with
    | nil => exact k.elim
    | cons nt ok r =>
      cases r with
      | cons _ _ _ => exact k.elim
      | nil =>
        obtain ⟨j, ej, bj, q⟩ := k
        refine ⟨j, by rw [(view_of I1 ok ej).int], bj.1, bj.2, ?_⟩
        have := q _ F1 H1 l1 I1 (iter_range 0 j)
        simpa using this
  · split at k1
    · obtain ⟨j, ej, bj, q⟩ := k1; exact ⟨j, ej, bj, hq _ _ q⟩
    · exact k1.elim
theorem di_range2 {a b : Expr} (hg : Gl X "range") (hm : X.mg "range" = none) (ha : DA X Wx [a, b] u) (hs : starEach [a, b] X.env = [(false, eval a X.env), (false, eval b X.env)] := by rfl) (hs2 : starEach [b] X.env = [(false, eval b X.env)] := by rfl) :
    DI X Wx tg (.Call (.Name "range" p) [a, b] [] pos) (dRange2 u) := by
  refine ⟨fun B => PI.imp (pi_range2 hg hm (ha.run B) hs hs2) fun σ H R hh => ?_, fun ρ Q Q' E E' k hq he => ha.mono _ _ _ _ _ k (fun rs ρ1 k1 => ?_) he⟩
  · obtain ⟨F, ρ, I, hv⟩ := hh
    refine ⟨F, ρ, I, ha.mono _ _ _ _ _ hv (fun rs ρ1 k vs F1 H1 l1 I1 ok1 => ?_) fun _ _ z => z⟩
    cases ok1 with
    | nil => exact k.elim
    | cons nt ok r =>
      cases r with
      | nil => exact k.elim
      | cons nt' ok' r =>
        cases r with
        | cons _ _ _ => exact k.elim
        | nil =>
          obtain ⟨i, j, ei, ej, bi, bj, q⟩ := k
          exact ⟨i, j, by rw [(view_of I1 ok ei).int, (view_of I1 ok' ej).int], ⟨bi.1, bi.2, bj.1, bj.2⟩, q _ F1 H1 l1 I1 (iter_range i j)⟩
  · split at k1
    · obtain ⟨i, j, ei, ej, bi, bj, q⟩ := k1; exact ⟨i, j, ei, ej, bi, bj, hq _ _ q⟩
    · exact k1.elim
def zipD (xs ys : List D) : List D := List.zipWith (fun x y => .tuple [x, y]) xs ys
theorem zipD_get {xs ys : List D} {i : Nat} {d : D} (h : (zipD xs ys)[i]? = some d) : ∃ x y, xs[i]? = some x ∧ ys[i]? = some y ∧ d = .tuple [x, y] := by
  unfold zipD at h
  rw [List.getElem?_zipWith] at h
  cases h1 : xs[i]? with
  | none => rw [h1] at h; cases h
  | some x =>
    cases h2 : ys[i]? with
    | none => rw [h1, h2] at h; cases h
    | some y => rw [h1, h2] at h; cases h; exact ⟨x, y, rfl, rfl, rfl⟩
theorem iter_zipT {W : Wd} {F : Hp} {a b : Addr} {xs ys : List V} {ds es : List D} (ha : SqT W.K F a xs) (hb : SqT W.K F b ys) (ra : RpAll W F xs ds) {H : Hp} (rb : RpAll W F ys es) : IterOk W (ItzT W.K a b) F H (zipD ds es) := fun B σ ρ F2 H2 i l _ I => by
  have qa : SqT W.K H2 a xs := I.sqT (SqT.mono l ha)
  have qb : SqT W.K H2 b ys := I.sqT (SqT.mono l hb)
  have la := ra.length
  have lb := rb.length
  have hl : (zipD ds es).length = min ds.length es.length := by unfold zipD; rw [List.length_zipWith]
  refine ⟨fun hi => ?_, fun d hd x H3 hy => ?_, fun hi => ⟨xs, ys, qa, qb, by omega⟩⟩
  · exact ⟨xs, ys, xs[i], ys[i], qa, qb, List.getElem?_eq_getElem (by omega), List.getElem?_eq_getElem (by omega)⟩
  · obtain ⟨T, x1, y1, rfl, hT, rfl, h1, h2⟩ := hy
    obtain ⟨dx, dy, e1, e2, rfl⟩ := zipD_get hd
    obtain ⟨v1, g1, p1⟩ := ra.get e1
    obtain ⟨v2, g2, p2⟩ := rb.get e2
    have z1 : v1 = x1 := Option.some.inj (g1.symm.trans (h1 xs qa))
    have z2 : v2 = y1 := Option.some.inj (g2.symm.trans (h2 ys qb))
    subst z1
    subst z2
    obtain ⟨l', I', r⟩ := rp_newtup I hT (vs := [v1, v2]) (ds := [dx, dy]) (.cons (Rp.mono l p1) (.cons (Rp.mono l p2) .nil))
    exact ⟨_, l', I', r⟩
theorem iter_zipL {W : Wd} {F : Hp} {a b : Addr} {xs ys : List V} {ds es : List D} (ha : F a = some (.lst xs)) (hb : F b = some (.lst ys)) (ra : RpAll W F xs ds) {H : Hp} (rb : RpAll W F ys es) : IterOk W (Itz W.K a b) F H (zipD ds es) := fun B σ ρ F2 H2 i l _ I => by
  have qa : SqL W.K H2 a xs := .inl (I.fle _ _ (l _ _ ha))
  have qb : SqL W.K H2 b ys := .inl (I.fle _ _ (l _ _ hb))
  have la := ra.length
  have lb := rb.length
  have hl : (zipD ds es).length = min ds.length es.length := by unfold zipD; rw [List.length_zipWith]
  refine ⟨fun hi => ?_, fun d hd x H3 hy => ?_, fun hi => ⟨xs, ys, qa, qb, by omega⟩⟩
  · exact ⟨xs, ys, xs[i], ys[i], qa, qb, List.getElem?_eq_getElem (by omega), List.getElem?_eq_getElem (by omega)⟩
  · obtain ⟨T, x1, y1, rfl, hT, rfl, h1, h2⟩ := hy
    obtain ⟨dx, dy, e1, e2, rfl⟩ := zipD_get hd
    obtain ⟨v1, g1, p1⟩ := ra.get e1
    obtain ⟨v2, g2, p2⟩ := rb.get e2
    have z1 : v1 = x1 := Option.some.inj (g1.symm.trans (h1 xs qa))
    have z2 : v2 = y1 := Option.some.inj (g2.symm.trans (h2 ys qb))
    subst z1
    subst z2
    obtain ⟨l', I', r⟩ := rp_newtup I hT (vs := [v1, v2]) (ds := [dx, dy]) (.cons (Rp.mono l p1) (.cons (Rp.mono l p2) .nil))
    exact ⟨_, l', I', r⟩
def dZip (u : TDA) : TDI := fun ρ Q E => u ρ (fun rs ρ1 => keepAll rs ρ1 fun ds ρ2 => match ds with
  | [.tuple xs, .tuple ys] => Q (zipD xs ys) ρ2
  | [.list xs, .list ys] => Q (zipD xs ys) ρ2
  | _ => False) E
theorem di_zip (hg : Gl X "zip") (hm : X.mg "zip" = none) (ha : DA X Wx [e, e2] u) (hs : starEach [e, e2] X.env = (false, eval e X.env) :: starEach [e2] X.env := by rfl) (hpl : (backTo pos (starEach [e2] X.env)).any (·.1) = false := by rfl) :
    DI X Wx (.Tuple elts kk tpos) (.Call (.Name "zip" p) [e, e2] [] pos) (dZip u) := by
  refine ⟨fun B => PI.imp (pi_zipA hg hm (ha.run B) hs hpl) fun σ H R hh => ?_, fun ρ Q Q' E E' k hq he => ha.mono _ _ _ _ _ k (fun rs ρ1 k1 => keepAll.mono k1 fun ds ρ2 k2 => ?_) he⟩
  · obtain ⟨F, ρ, I, hv⟩ := hh
    refine ⟨F, ρ, I, ha.mono _ _ _ _ _ hv (fun rs ρ1 k vs F1 H1 l1 I1 ok1 => ?_) fun _ _ z => z⟩
    obtain ⟨F2, ρ2, ds, l2, I2, rp, q⟩ := keepAll_of I1 ok1 k
    split at q
    · rename_i xs ys
      cases rp with
      | cons a r =>
        cases r with
        | cons b r =>
          cases r
          cases a with
          | tup h1 r1 =>
            cases b with
            | tup h2 r2 => exact ⟨_, _, _, _, rfl, .inr ⟨I2.sqT h1, I2.sqT h2, q _ F2 H1 (l1.trans l2) I2 (iter_zipT h1 h2 r1 r2)⟩⟩
    · rename_i xs ys
      cases rp with
      | cons a r =>
        cases r with
        | cons b r =>
          cases r
          cases a with
          | lst h1 r1 =>
            cases b with
            | lst h2 r2 => exact ⟨_, _, _, _, rfl, .inl ⟨.inl (I2.fle _ _ h1), .inl (I2.fle _ _ h2), q _ F2 H1 (l1.trans l2) I2 (iter_zipL h1 h2 r1 r2)⟩⟩
    · exact q.elim
  · split at k2 <;> first | exact hq _ _ k2 | exact k2.elim
def keysD (kvs : List (D × D)) : List D := kvs.map Prod.fst
def itemsD (kvs : List (D × D)) : List D := kvs.map fun p => .tuple [p.1, p.2]
theorem keysD_length (kvs : List (D × D)) : (keysD kvs).length = kvs.length := List.length_map ..
theorem itemsD_length (kvs : List (D × D)) : (itemsD kvs).length = kvs.length := List.length_map ..
/-- what the locked dict shows -/
theorem frzX {X : Cx} {pins : List (Addr × Obj)} {σ : L2.St} {H : Hp} {s : Shared} {d : Addr} {o : Obj} {xs : List (NestedKey × Addr × V)} (I : Inv X pins σ H s) (h : H d = some (.frz o (dicO (wdOf X) d xs))) :
    (d == sysModules) = false ∧ s.heap.get? d = some o ∧ o.ExactDict ∧ ∃ (es : Array DictEntry) (ep : Nat), o.data = .dict es ep ∧ es.size = xs.length ∧
      ∀ (i : Nat) (k : NestedKey) (q : Addr) (v : V), xs[i]? = some (k, q, v) → ∃ (en : DictEntry), es[i]? = some en ∧ en.key = .ref q ∧ RelV v en.val := by
  obtain ⟨hd, ⟨z, hs, ys, pr, o', es, ep, ho, hx, hdt, he, _⟩, _⟩ := I.hok d _ h
  rw [hd] at ho
  cases ho
  have l1 : es.size = ys.length := size_of_entries he
  have l2 : xs.length = ys.length := Paired.length pr
  refine ⟨hs, hd, hx, es, ep, hdt, by omega, fun i k q v e => ?_⟩
  obtain ⟨b, hb, e1, e2, e3⟩ := paired_get pr e
  have qq := entry_at he i
  rw [hb] at qq
  exact ⟨_, qq, by show Value.ref b.2.1 = _; rw [← e2], e3⟩
def Itkx (W : Wd) (d : Addr) (o : Obj) (xs : List (NestedKey × Addr × V)) : It :=
  ⟨fun i H => H d = some (.frz o (dicO W d xs)) ∧ i < xs.length, fun i H x H' => H' = H ∧ ∃ k q v, xs[i]? = some (k, q, v) ∧ x = .ref q, fun i H => H d = some (.frz o (dicO W d xs)) ∧ xs.length ≤ i⟩
def Itix (W : Wd) (d : Addr) (o : Obj) (xs : List (NestedKey × Addr × V)) : It :=
  ⟨fun i H => H d = some (.frz o (dicO W d xs)) ∧ i < xs.length, fun i H x H' => ∃ T k q v, xs[i]? = some (k, q, v) ∧ x = .ref T ∧ H T = none ∧ H' = L2.upd H T (.tup [.ref q, v]), fun i H => H d = some (.frz o (dicO W d xs)) ∧ xs.length ≤ i⟩
theorem turn_keysX {W : Wd} {tg : Expr} {d it : Addr} {o : Obj} {es : Array DictEntry} {ep : Nat} {xs : List (NestedKey × Addr × V)} (hod : o.data = .dict es ep) : Turn W.P W.w W.K tg (Itkx W d o xs) [it] it (fun i h => h.IsKeyIter it d i xs.length ep) where
  mem := by simp
  obj := fun i h st b hb => by
    have e : b = it := by simpa using hb
    subst e
    obtain ⟨oi, e, c, dd⟩ := st
    exact ⟨oi, e, fun v z => by rw [dd] at z; cases z⟩
  keep := fun i h h' st k => st.at fun oi e => k it (by simp) oi e
  item := by
    intro X hP hw hK hc i pins s σ H E I hf st hg
    obtain ⟨P, w, K⟩ := W
    subst hP hw hK
    obtain ⟨hd, hi⟩ := hg
    obtain ⟨f0, f1, f2, f3, f4, f5⟩ := hf it (by simp)
    obtain ⟨hs, hgd, hx, es', ep', hdt, hsz, ent⟩ := frzX I hd
    obtain ⟨rfl, rfl⟩ := dict_ep hod hdt
    obtain ⟨⟨k, q, v⟩, hkv⟩ : ∃ p, xs[i]? = some p := ⟨xs[i], List.getElem?_eq_getElem hi⟩
    obtain ⟨en, hen, hkey, hq⟩ := ent i k q v hkv
    refine next_key_item st hgd hdt hsz hen fun h' st' sb => ?_
    have I1 : Inv X pins σ H { s with heap := h' } := I.turned (t' := s.toks) (fun b ob hb e => (sb.2 b hb).trans e) f0 f1 f3 f4 f5
    obtain ⟨oi, e, c, dd⟩ := id st'
    exact ⟨en.key, rfl, go_of (s := { s with heap := h' }) e c dd (by decide) ⟨.ref q, H, I1, hkey, ⟨rfl, k, q, v, hkv, rfl⟩, st', fun b hb => (hf b hb).1⟩⟩
  done := by
    intro X hP hw hK hc i pins s σ H E I hf st hg
    obtain ⟨P, w, K⟩ := W
    subst hP hw hK
    obtain ⟨hd, hi⟩ := hg
    obtain ⟨f0, f1, f2, f3, f4, f5⟩ := hf it (by simp)
    obtain ⟨hs, hgd, hx, es', ep', hdt, hsz, ent⟩ := frzX I hd
    obtain ⟨rfl, rfl⟩ := dict_ep hod hdt
    exact next_key_end (I.ok.hd hc) st hgd hdt hsz hi fun h' eb => ⟨rfl, I.turned (t' := s.toks) (fun b ob hb e => eb b ob hb e) f0 f1 f3 f4 f5⟩
  self := fun A i s Q E st h => by
    refine wpAny_pyIter_slot st.typeIs F.slot_dict_keyiterator_iter (wpAny_call_entry F.slot_dict_keyiterator_iter st.typeIs F.entry_dict_keyiterator_iter ?_ (F.args_dict_keyiterator_iter_1 _))
    show wpAny _ _ (ret (.ref it)) _ _ s
    exact wpAny_pure ⟨_, rfl, "dict_keyiterator", _, st.typeIs, F.slot_dict_keyiterator_next.lookup, h⟩
theorem turn_itemsX {W : Wd} {elts : List Expr} {kk : Nat} {tpos : Pos} {d it : Addr} {o : Obj} {es : Array DictEntry} {ep : Nat} {xs : List (NestedKey × Addr × V)} (hod : o.data = .dict es ep) :
    Turn W.P W.w W.K (.Tuple elts kk tpos) (Itix W d o xs) [it] it (fun i h => ∃ ok ov, IsItemIter h it d i xs.length ep ok ov) where
  mem := by simp
  obj := fun i h st b hb => by
    have e : b = it := by simpa using hb
    subst e
    obtain ⟨ok, ov, e⟩ := st
    exact ⟨_, e, fun v z => nomatch z⟩
  keep := fun i h h' st k => let ⟨ok, ov, e⟩ := st; ⟨ok, ov, k it (by simp) _ e⟩
  item := by
    intro X hP hw hK hc i pins s σ H E I hf st hg
    obtain ⟨P, w, K⟩ := W
    subst hP hw hK
    obtain ⟨hd, hi⟩ := hg
    obtain ⟨hs, hgd, hx, es', ep', hdt, hsz, ent⟩ := frzX I hd
    obtain ⟨rfl, rfl⟩ := dict_ep hod hdt
    obtain ⟨⟨k, q, v⟩, hkv⟩ : ∃ p, xs[i]? = some p := ⟨xs[i], List.getElem?_eq_getElem hi⟩
    obtain ⟨en, hen, hkey, hq⟩ := ent i k q v hkv
    have hi' : i < es'.size := by omega
    have hen' : es'[i] = en := by
      rw [Array.getElem?_eq_getElem hi'] at hen
      exact Option.some.inj hen
    obtain ⟨ok, ov, he⟩ := st
    rw [← hsz] at he
    have hlt : it < s.heap.objs.size := Heap.lt_size he
    refine wpAny_pyNext_items_item_raw he ⟨o, hgd, hx, hdt⟩ hi' fun h' ho hT hz hk => ?_
    refine ⟨_, rfl, wpAny_letOwnedTupleGo_items (s := { s with heap := h' }) ho fun h'' he' sb => ?_⟩
    have hT2 : h''.get? s.heap.objs.size = some { cls := .type "tuple", data := .seq #[es'[i].key, es'[i].val] } := (sb.2 _ (Nat.ne_of_gt hlt)).trans hT
    have new : ObjOk X.prog X.w (L2.upd H s.heap.objs.size (.tup [.ref q, v])) h'' s.heap.objs.size (.tup [.ref q, v]) :=
      ⟨by show 2 ≤ sizeLine; decide, [es'[i].key, es'[i].val], .cons (by rw [hen']; exact hkey) (.cons (by rw [hen']; exact hq) .nil), ⟨_, hT2, rfl, _, rfl⟩⟩
    have I1 : Inv X pins σ (L2.upd H s.heap.objs.size (.tup [.ref q, v])) { s with heap := h'' } :=
      I.turnedNew (t' := s.toks) (ch := [it]) (fun b ob hb e => (sb.2 b (by simpa using hb)).trans (hk b ob (by simpa using hb) e)) hf (Nat.le_refl _) new
    refine ⟨.ref s.heap.objs.size, _, I1, rfl, ⟨_, k, q, v, hkv, rfl, I.hok.fresh (Nat.le_refl _), rfl⟩, ⟨es'[i].key, es'[i].val, ?_⟩, fun b hb => ?_⟩
    · rw [← hsz]; exact he'
    · have e : b = it := by simpa using hb
      rw [e, upd_ne (Nat.ne_of_lt hlt)]
      exact (hf it (by simp)).1
  done := by
    intro X hP hw hK hc i pins s σ H E I hf st hg
    obtain ⟨P, w, K⟩ := W
    subst hP hw hK
    obtain ⟨hd, hi⟩ := hg
    obtain ⟨f0, f1, f2, f3, f4, f5⟩ := hf it (by simp)
    obtain ⟨hs, hgd, hx, es', ep', hdt, hsz, ent⟩ := frzX I hd
    obtain ⟨rfl, rfl⟩ := dict_ep hod hdt
    obtain ⟨ok, ov, he⟩ := st
    rw [← hsz] at he
    exact wpAny_pyNext_items_end_raw (I.ok.hd hc) he ⟨o, hgd, hx, hdt⟩ (by omega) fun h' eb => ⟨rfl, I.turned (t' := s.toks) (fun b ob hb e => eb b ob hb e) f0 f1 f3 f4 f5⟩
  self := fun A i s Q E st h => let ⟨_, _, e⟩ := st; PySem.W.kcp_self e h
theorem RpKV.get {W : Wd} {F : Hp} : ∀ {xs : List (NestedKey × Addr × V)} {kvs : List (D × D)} {i : Nat} {k d : D}, RpKV W F xs kvs → kvs[i]? = some (k, d) → ∃ nk q v, xs[i]? = some (nk, q, v) ∧ nk.data = k ∧ Rp W F (.ref q) k ∧ Rp W F v d
  | _, _, _, _, _, .nil, e => by simp at e
  | _, _, 0, _, _, .cons z a b _, e => by simp at e; obtain ⟨rfl, rfl⟩ := e; exact ⟨_, _, _, rfl, rfl, a, b⟩
  | _, _, i + 1, _, _, .cons _ _ _ r, e => by
    obtain ⟨nk, q, v, h1, h2⟩ := r.get (i := i) (by simpa using e)
    exact ⟨nk, q, v, by simpa using h1, h2⟩
theorem iter_keysX {W : Wd} {F : Hp} {d : Addr} {o : Obj} {xs : List (NestedKey × Addr × V)} {kvs : List (D × D)} (hf : F d = some (dicO W d xs)) {H : Hp} (hh : H d = some (.frz o (dicO W d xs))) (ra : RpKV W F xs kvs) :
    IterOk W (Itkx W d o xs) F H (keysD kvs) := fun B σ ρ F2 H2 i l fz I => by
  have len := ra.length
  have hd2 := fz _ _ _ hh
  refine ⟨fun hi => ⟨hd2, by simpa [len, keysD_length, itemsD_length] using hi⟩, fun dd hd x H3 hy => ?_, fun hi => ⟨hd2, by simpa [len, keysD_length, itemsD_length] using hi⟩⟩
  obtain ⟨rfl, k, q, v, hk, rfl⟩ := hy
  (first | unfold itemsD at hd | skip); (first | unfold keysD at hd | skip)
  rw [List.getElem?_map] at hd
  cases e : kvs[i]? with
  | none => rw [e] at hd; cases hd
  | some p =>
    obtain ⟨pk, pd⟩ := p
    rw [e] at hd
    cases hd
    obtain ⟨nk, q', v', e1, e2, r1, r2⟩ := ra.get e
    rw [hk] at e1
    cases e1
    exact ⟨F2, Le.refl F2, I, Rp.mono l r1⟩
theorem iter_itemsX {W : Wd} {F : Hp} {d : Addr} {o : Obj} {xs : List (NestedKey × Addr × V)} {kvs : List (D × D)} (hf : F d = some (dicO W d xs)) {H : Hp} (hh : H d = some (.frz o (dicO W d xs))) (ra : RpKV W F xs kvs) :
    IterOk W (Itix W d o xs) F H (itemsD kvs) := fun B σ ρ F2 H2 i l fz I => by
  have len := ra.length
  have hd2 := fz _ _ _ hh
  refine ⟨fun hi => ⟨hd2, by simpa [len, keysD_length, itemsD_length] using hi⟩, fun dd hd x H3 hy => ?_, fun hi => ⟨hd2, by simpa [len, keysD_length, itemsD_length] using hi⟩⟩
  obtain ⟨T, k, q, v, hk, rfl, hT, rfl⟩ := hy
  (first | unfold itemsD at hd | skip); (first | unfold keysD at hd | skip)
  rw [List.getElem?_map] at hd
  cases e : kvs[i]? with
  | none => rw [e] at hd; cases hd
  | some p =>
    obtain ⟨pk, pd⟩ := p
    rw [e] at hd
    cases hd
    obtain ⟨nk, q', v', e1, e2, r1, r2⟩ := ra.get e
    rw [hk] at e1
    cases e1
    obtain ⟨l', I', r⟩ := rp_newtup I hT (vs := [.ref q, v]) (ds := [pk, pd]) (.cons (Rp.mono l r1) (.cons (Rp.mono l r2) .nil))
    exact ⟨_, l', I', r⟩
/-- a frozen dict is locked for good -/
theorem RE.lockD {W : Wd} {B : Bs} {F H : Hp} {σ : L2.St} {ρ : DEnv} {d : Addr} {o : Obj} {xs : List (NestedKey × Addr × V)} (I : RE W B F H σ ρ) (hf : F d = some (dicO W d xs)) (hh : H d = some (dicO W d xs)) : RE W B F (L2.upd H d (.frz o (dicO W d xs))) σ ρ := by
  have nd : ∀ a, F a = none → a ≠ d := fun a fa z => by rw [z, hf] at fa; cases fa
  refine ⟨I.len, fun a u e => ?_, I.nfz, fun i dv e => ?_, I.dis, I.ownb, I.bF, fun a u e n => ?_, I.bN, fun a e => ?_, I.pin⟩
  · by_cases c : a = d
    · subst c
      rw [hf] at e
      cases e
      exact .inr ⟨o, upd_same⟩
    · rcases I.fle a u e with q | ⟨z, q⟩
      · exact .inl (by rw [upd_ne c]; exact q)
      · exact .inr ⟨z, by rw [upd_ne c]; exact q⟩
  · obtain ⟨v, e1, s⟩ := I.sl i dv e
    exact ⟨v, e1, SV.mono (Le.refl F) (fun a u _ f q => ⟨f, by rw [upd_ne (nd a f)]; exact q⟩) s⟩
  · by_cases c : a = d
    · subst c
      rcases I.bH a u e n with q | ⟨f, dd, z, q⟩
      · rw [hh] at q
        cases q
        exact .inr ⟨hf, ⟨xs, rfl⟩, o, upd_same⟩
      · rw [hh] at q
        cases q
    · exact (I.bH a u e n).upd c (Le.refl F)
  · by_cases c : a = d
    · subst c; exact ⟨_, upd_same⟩
    · obtain ⟨u, q⟩ := I.bL a e; exact ⟨u, by rw [upd_ne c]; exact q⟩
def dKeysI (t : TD) : TDI := fun ρ Q E => t ρ (fun r ρ1 => keepR r ρ1 fun d ρ2 => match d with
  | .dict kvs => Q (keysD kvs) ρ2
  | _ => False) E
def dItemsI (t : TD) : TDI := fun ρ Q E => t ρ (fun r ρ1 => keepR r ρ1 fun d ρ2 => match d with
  | .dict kvs => Q (itemsD kvs) ρ2
  | _ => False) E
theorem dKeysI.mono (m : Mono t) : Mono (dKeysI t) := fun ρ Q Q' E E' k hq he => m _ _ _ _ _ k (fun r ρ1 k1 => keepR.mono k1 fun d ρ2 k2 => by
  split at k2 <;> first | exact hq _ _ k2 | exact k2.elim) he
theorem dItemsI.mono (m : Mono t) : Mono (dItemsI t) := fun ρ Q Q' E E' k hq he => m _ _ _ _ _ k (fun r ρ1 k1 => keepR.mono k1 fun d ρ2 k2 => by
  split at k2 <;> first | exact hq _ _ k2 | exact k2.elim) he
/-- the dict has come, it is locked -/
def LockP (X : Cx) (B : Bs) (pins : List (Addr × Obj)) (σ : L2.St) (F0 : Hp) (G : List (D × D) → DEnv → Prop) (u : Value) (s1 : Shared) : Prop :=
  ∃ (d : Addr) (o : Obj) (xs : List (NestedKey × Addr × V)) (kvs : List (D × D)) (F2 H2 : Hp) (ρ2 : DEnv), u = .ref d ∧ Inv X pins σ H2 s1 ∧ H2 d = some (.frz o (dicO (wdOf X) d xs)) ∧ Le F0 F2 ∧ RE (wdOf X) B F2 H2 σ ρ2 ∧ F2 d = some (dicO (wdOf X) d xs) ∧ RpKV (wdOf X) F2 xs kvs ∧ G kvs ρ2
theorem lock_of {B : Bs} {pins : List (Addr × Obj)} {s : Shared} {σ : L2.St} {H F : Hp} {ρ : DEnv} {G : List (D × D) → DEnv → Prop} (he : DE X Wx e t) (I0 : Inv X pins σ H s) (I : RE (wdOf X) B F H σ ρ)
    (hv : t ρ (fun r ρ1 => keepR r ρ1 fun d ρ2 => match d with
      | .dict kvs => G kvs ρ2
      | _ => False) (AX (wdOf X) B F σ Wx)) : wpAny (model X.prog X.w) X.A (eval e X.env) (LockP X B pins σ F G) X.xe s := by
  refine thn ((he.run B).run pins s σ H (fun v H1 => ∃ (F2 : Hp) (ρ2 : DEnv) (d : D), Le F F2 ∧ RE (wdOf X) B F2 H1 σ ρ2 ∧ Rp (wdOf X) F2 v d ∧ match d with
      | .dict kvs => G kvs ρ2
      | _ => False) I0 ⟨F, ρ, I, he.mono _ _ _ _ _ hv (fun r ρ1 k v F1 H1 l1 I1 ok1 => ?_) fun _ _ z => z⟩) fun u s1 ⟨v, H1, J1, rv, F2, ρ2, d, l2, I2, rp, k⟩ => ?_
  · obtain ⟨F2, ρ2, d, l2, I2, rp, q⟩ := keep_of I1 ok1 k
    exact ⟨F2, ρ2, d, l1.trans l2, I2, rp, q⟩
  · cases rp with
    | dic hf ra =>
      rename_i a xs kvs
      cases rv
      rcases I2.fle _ _ hf with hh | ⟨o, hh⟩
      · obtain ⟨od, J2⟩ := J1.lock hh trivial
        exact ⟨a, od, xs, kvs, F2, _, ρ2, rfl, J2, upd_same, l2, I2.lockD hf hh, hf, ra, k⟩
      · exact ⟨a, o, xs, kvs, F2, H1, ρ2, rfl, J1, hh, l2, I2, hf, ra, k⟩
    | non => exact k.elim
    | bl b => exact k.elim
    | int i => exact k.elim
    | str x => exact k.elim
    | lst _ _ => exact k.elim
    | tup _ _ => exact k.elim
theorem di_keys (he : DE X Wx e t) : DI X Wx tg e (dKeysI t) := by
  refine ⟨fun B => ⟨fun pins s σ H R I0 hh => ?_⟩, dKeysI.mono he.mono⟩
  obtain ⟨F, ρ, I, hv⟩ := hh
  refine thn (lock_of (G := fun (kvs : List (D × D)) ρ2 => ∀ J F' H', Le F F' → RE (wdOf X) B F' H' σ ρ2 → IterOk (wdOf X) J F' H' (keysD kvs) → R J H') he I0 I hv) fun u s1 ⟨d, o, xs, kvs, F2, H2, ρ2, eu, J1, hd, l2, I2, hf, ra, k⟩ => ?_
  subst eu
  obtain ⟨hs, hgd, hx, es, ep, hdt, hsz, ent⟩ := frzX J1 hd
  refine iter_keys hs hgd hx hdt (pi_one (tk := s1.toks) J1 _ (turn_keysX (W := wdOf X) (d := d) (xs := xs) hdt) ⟨_, Heap.get?_push_size _ rfl, rfl, ?_⟩ (k _ F2 H2 l2 I2 (iter_keysX hf hd ra)))
  rw [hsz] <;> rfl
theorem di_items {apos cpos : Pos} (he : DE X Wx e t) (hbase : attributeBase e "items" X.env (eval e X.env) = eval e X.env := by rfl) (hline : (apos.endLine == cpos.line) = true := by rfl) :
    DI X Wx (.Tuple elts kk tpos) (.Call (.Attribute e "items" apos) [] [] cpos) (dItemsI t) := by
  refine ⟨fun B => ⟨fun pins s σ H R I0 hh => ?_⟩, dItemsI.mono he.mono⟩
  obtain ⟨F0, ρ, I, hv⟩ := hh
  refine wpAny_Call_method (T := "dict") (id := "dict.items") hbase rfl hline F.plainAttrs_dict F.slot_dict_items F.type_dict_items (thn (lock_of (G := fun (kvs : List (D × D)) ρ2 => ∀ J F' H', Le F0 F' → RE (wdOf X) B F' H' σ ρ2 → IterOk (wdOf X) J F' H' (itemsD kvs) → R J H') he I0 I hv) fun u s1 ⟨d, o, xs, kvs, F2, H2, ρ2, eu, J1, hd, l2, I2, hf, ra, k⟩ => ?_)
  subst eu
  obtain ⟨hs, hgd, hx, es, ep, hdt, hsz, ent⟩ := frzX J1 hd
  have hraw : s1.heap.DictRaw d es ep := ⟨o, hgd, hx, hdt⟩
  refine ⟨hraw.typeIs, fun b eb => ⟨o, by cases eb; exact hgd, hx.2.1⟩, ?_⟩
  have I2' : Inv X pins σ H2 { s1 with heap := s1.heap.push { cls := .type "dict_items", data := .fields #[.ref d] } } := J1.kept (t' := s1.toks) fun b ob q => Heap.get?_push_of_some _ q
  have fin : wpAny (model X.prog X.w) X.A (pyIter (.ref s1.heap.objs.size)) (PIE X pins σ (.Tuple elts kk tpos) R) X.xe { s1 with heap := s1.heap.push { cls := .type "dict_items", data := .fields #[.ref d] } } := by
    refine wpAny_pyIter_items_raw (d := d) ⟨_, Heap.get?_push_size _ rfl, rfl, rfl⟩ (hraw.at fun o e => Heap.get?_push_of_some _ e) (pi_one (tk := s1.toks) I2' _ (turn_itemsX (W := wdOf X) (d := d) (xs := xs) hdt) ⟨.none, .none, ?_⟩ (k _ F2 H2 l2 I2 (iter_itemsX hf hd ra)))
    rw [← hsz]
    exact Heap.get?_push_size _ rfl
  show wpAny _ _ (callWith cpos (.builtin "dict.items") [.ref d] [] []) _ X.xe s1
  exact method_meetsIn F.slot_dict_items F.entry_dict_items rfl (PySem.evalArgs_none ⟨rfl, hraw.typeIs, F.args_dict_items_1 _, _, meets_dict_items_raw d hs, ⟨es, ep, hraw⟩, fin⟩)
end
end DL
set_option Elab.async false
set_option linter.all false
set_option maxRecDepth 100000
set_option maxHeartbeats 4000000
namespace DL
open PySem PySem.Spec L2
open PyProof.Rows hiding St
section
variable {W : Wd} {B : Bs} {F H : Hp} {σ : L2.St} {ρ : DEnv}
theorem getElem?_rep {α : Type} {l : List (Option α)} {n i : Nat} {x : α} (h : (l ++ List.replicate n none)[i]? = some (some x)) : l[i]? = some (some x) := by
  by_cases c : i < l.length
  · rw [List.getElem?_append_left c] at h; exact h
  · rw [List.getElem?_append_right (Nat.le_of_not_lt c), List.getElem?_replicate] at h
    split at h <;> cases h
theorem rep_get {α : Type} {l : List (Option α)} {n i : Nat} {x : α} (h : l[i]? = some (some x)) : (l ++ List.replicate n none)[i]? = some (some x) := by
  rw [List.getElem?_append_left (List.getElem?_eq_some_iff.mp h).1]; exact h
theorem RE.ext (I : RE W B F H σ ρ) (n : Nat) : RE W B F H (σ ++ List.replicate n none) (ρ ++ List.replicate n none) where
  len := by rw [List.length_append, List.length_append, I.len, List.length_replicate, List.length_replicate]
  fle := I.fle
  nfz := I.nfz
  sl := fun i dv e => let ⟨v, e1, s⟩ := I.sl i dv (getElem?_rep e); ⟨v, rep_get e1, s⟩
  dis := fun i j a o1 o2 n e1 e2 e3 e4 => I.dis i j a o1 o2 n (getElem?_rep e1) (getElem?_rep e2) (getElem?_rep e3) (getElem?_rep e4)
  ownb := fun i a o e1 e2 => I.ownb i a o (getElem?_rep e1) (getElem?_rep e2)
  bF := I.bF
  bH := I.bH
  bN := I.bN
  bL := I.bL
  pin := fun p hp => by
    have e := I.pin p hp
    rw [List.getElem?_append_left (List.getElem?_eq_some_iff.mp e).1]
    exact e
theorem RE.empty (I : RE W B F H σ ρ) (hp : B.pin = []) : RE W B F H [] [] :=
  ⟨rfl, I.fle, I.nfz, fun i dv e => by unfold HasD at e; simp at e, fun i j a o1 o2 n e => by unfold HasD at e; simp at e, fun i a o e => by unfold HasD at e; simp at e, I.bF, I.bH, I.bN, I.bL, fun p q => by rw [hp] at q; cases q⟩
end
/-- the value that leaves a body -/
def retR (r : RV) (ρ : DEnv) (Q : RV → Prop) : Prop := match r with
  | .slot i => (match ρ[i]? with
    | some (some (.own o)) => Q (.tmp o)
    | some (some (.pure d)) => Q (.pure d)
    | _ => False)
  | r => Q r
def retI (r : RV) (ρ : DEnv) (Q : RV → Prop) : Prop := r ≠ .slot 0 ∧ retR r ρ Q
def bodyP (n : Nat) (g : TDS) (ds : List DV) (Q : RV → Prop) : Prop := g (ds.map some ++ List.replicate (n - ds.length) none) (fun fl ρ' => match fl with
  | .rt r => retR r ρ' Q
  | .nx => Q (.pure .none)
  | _ => False) fun _ _ => False
def bodyI (n : Nat) (g : TDS) (o : OB) (ds : List DV) (Q : RV → OB → Prop) : Prop := g (some (.own o) :: ds.map some ++ List.replicate (n - (ds.length + 1)) none) (fun fl ρ' => ∃ o', HasD ρ' 0 (.own o') ∧ match fl with
  | .rt r => retI r ρ' fun r => Q r o'
  | .nx => Q (.pure .none) o'
  | _ => False) fun _ _ => False
abbrev W0 : WX := fun _ _ _ _ => False
section
variable {P : Program} {w : World} {K : PySem.W.Frag} {mg : Str → Option Value} {base : Heap} {x qual : Str} {params : Arguments} {body : List Stmt} {scope : Scope} {f : Addr} {fd : FuncData} {CX : CXT} {N ps : List Str} {k : Nat}
theorem okP {S : SpP} (Fd : FunD K x qual params body scope [] [] f fd) (sc : FnScope N ps scope) (hlen : ∀ ds Q, S ds Q → ds.length = ps.length) (g : TDS)
    (hb : ∀ (cdv : Value) (A : Around) (outer : List Env) (s : Shared) (H : Hp) (E : XK), Room k (A.deeper (envOfC qual scope s.heap.objs.size f cdv)) → DSs (cxOf CX P w K mg base N qual scope f cdv A outer s H E).nox W0 [] body g)
    (hS : ∀ ds Q, S ds Q → bodyP N.length g ds Q) : FnOk P w K mg base CX (k + 1) f fd ps (spP ⟨P, w, K⟩ S) := by
  refine Fd.ok sc (fun vs H Q E h => ?_) (fun cdv A outer s H vs Q E hr h => ?_)
  · obtain ⟨F, dvs, no, I, hs⟩ := h
    have := I.len
    rw [List.length_map, List.length_map] at this
    rw [this]
    exact hlen _ _ hs
  · obtain ⟨F, dvs, no, I, hs⟩ := h
    have hl : vs.length = dvs.length := by
      have := I.len
      rw [List.length_map, List.length_map] at this
      exact this
    have D := hb cdv A outer s H E hr
    refine ⟨_, PSs.nox (D.run (bP F H) rfl), ?_⟩
    refine ⟨F, _, ?_, D.mono _ _ _ _ _ (hS dvs _ hs) (fun fl ρ' q => ?_) fun _ _ z => z.elim⟩
    · have I2 := I.ext (N.length - dvs.length)
      unfold L2.start
      rw [hl]
      exact I2
    · cases fl with
      | nx => exact fun σ' F' H' J => q .non F' H' J.bF (J.empty rfl) Rp.non
      | bk => exact q.elim
      | ct => exact q.elim
      | rt r =>
        intro v σ' F' H' J ok
        have J0 := J.empty rfl
        cases r with
        | pure d => exact q v F' H' J.bF J0 ok
        | raw u => exact q v F' H' J.bF J0 ok
        | tmp o =>
          obtain ⟨a, u, ev, fn, hh, r, hbn, _⟩ := ok
          exact q v F' H' J.bF J0 ⟨a, u, ev, fn, hh, r, hbn, fun i ob e => by unfold HasD at e; simp at e⟩
        | slot i =>
          have hv : HasV σ' i v := ok
          have q : retR (.slot i) ρ' _ := q
          unfold retR at q
          dsimp only at q
          split at q
          · rename_i o eq
            obtain ⟨v', e1, a, u, ev, fn, hh, r⟩ := J.sl i _ eq
            unfold HasV at hv e1
            rw [hv] at e1
            cases e1
            subst ev
            refine q _ F' H' J.bF J0 ⟨a, u, rfl, fn, hh, r, ?_, fun i ob e => by unfold HasD at e; simp at e⟩
            rcases J.ownb i a o eq hv with z | z
            · exact z.elim
            · exact z
          · rename_i d eq
            obtain ⟨v', e1, s⟩ := J.sl i _ eq
            unfold HasV at hv e1
            rw [hv] at e1
            cases e1
            exact q _ F' H' J.bF J0 s
          · exact q.elim
theorem okI {S : SpI} (Fd : FunD K x qual params body scope [] [] f fd) (sc : FnScope N ps scope) (hlen : ∀ o ds Q, S o ds Q → ds.length + 1 = ps.length) (g : TDS)
    (hb : ∀ (cdv : Value) (A : Around) (outer : List Env) (s : Shared) (H : Hp) (E : XK), Room k (A.deeper (envOfC qual scope s.heap.objs.size f cdv)) → DSs (cxOf CX P w K mg base N qual scope f cdv A outer s H E).nox W0 [0] body g)
    (hS : ∀ o ds Q, S o ds Q → bodyI N.length g o ds Q) : FnOk P w K mg base CX (k + 1) f fd ps (spI ⟨P, w, K⟩ S) := by
  refine Fd.ok sc (fun vs H Q E h => ?_) (fun cdv A outer s H vs Q E hr h => ?_)
  · obtain ⟨F, a, ob, dvs, no, I, hs⟩ := h
    have := I.len
    rw [List.length_map, List.length_cons, List.length_map] at this
    rw [this]
    exact hlen _ _ _ hs
  · obtain ⟨F, a, ob, dvs, no, I, hs⟩ := h
    have hl : vs.length = dvs.length + 1 := by
      have := I.len
      rw [List.length_map, List.length_cons, List.length_map] at this
      exact this
    have D := hb cdv A outer s H E hr
    refine ⟨_, PSs.nox (D.run (bI F H a) rfl), ?_⟩
    refine ⟨F, _, ?_, D.mono _ _ _ _ _ (hS ob dvs _ hs) (fun fl ρ' q => ?_) fun _ _ z => z.elim⟩
    · have I2 := I.ext (N.length - (dvs.length + 1))
      unfold L2.start
      rw [hl]
      exact I2
    · obtain ⟨o', h0, q⟩ := q
      have fin : ∀ {σ' F' H'}, RE ⟨P, w, K⟩ (bI F H a) F' H' σ' ρ' → RE ⟨P, w, K⟩ (bI F H a) F' H' [some (.ref a)] [some (.own o')] := fun {σ' F' H'} J => by
        have hp : σ'[0]? = some (some (.ref a)) := J.pin (0, some (.ref a)) (List.mem_cons_self ..)
        obtain ⟨v', e1, s⟩ := J.sl 0 _ h0
        unfold HasV at e1
        rw [hp] at e1
        cases e1
        refine ⟨rfl, J.fle, J.nfz, fun i dv e => ?_, fun i j b o1 o2 n e1 e2 => ?_, fun i b o e e2 => ?_, J.bF, J.bH, J.bN, J.bL, fun p hp => ?_⟩
        · cases i with
          | zero => cases (show some (some (DV.own o')) = some (some dv) from e); exact ⟨_, rfl, s⟩
          | succ i => unfold HasD at e; simp at e
        · have z1 : i = 0 := by cases i with | zero => rfl | succ i => unfold HasD at e1; simp at e1
          have z2 : j = 0 := by cases j with | zero => rfl | succ j => unfold HasD at e2; simp at e2
          exact absurd (z1.trans z2.symm) n
        · cases i with
          | zero => cases (show some (some (V.ref a)) = some (some (V.ref b)) from e2); exact .inl rfl
          | succ i => unfold HasD at e; simp at e
        · have e : p = (0, some (.ref a)) := by simpa using hp
          subst e
          rfl
      have noA : ∀ {σ' F' H'}, RE ⟨P, w, K⟩ (bI F H a) F' H' σ' ρ' → HasV σ' 0 (.ref a) := fun {σ' F' H'} J => J.pin (0, some (.ref a)) (List.mem_cons_self ..)
      cases fl with
      | nx => exact fun σ' F' H' J => q .non F' H' J.bF (fin J) Rp.non
      | bk => exact q.elim
      | ct => exact q.elim
      | rt r =>
        intro v σ' F' H' J ok
        have J0 := fin J
        have own0 : ∀ {i : Nat} {o2 : OB}, HasD [some (DV.own o')] i (.own o2) → i = 0 := fun {i o2} e => by
          cases i with
          | zero => rfl
          | succ i => unfold HasD at e; simp at e
        cases r with
        | pure d => exact q.2 v F' H' J.bF J0 ok
        | raw u => exact q.2 v F' H' J.bF J0 ok
        | tmp o =>
          obtain ⟨b, u, ev, fn, hh, r, hbn, no2⟩ := ok
          refine q.2 v F' H' J.bF J0 ⟨b, u, ev, fn, hh, r, hbn, fun i o2 e e2 => ?_⟩
          have z := own0 e
          subst z
          have e2 : some (some (V.ref a)) = some (some (V.ref b)) := e2
          cases e2
          exact no2 0 o' h0 (noA J)
        | slot i =>
          have hv : HasV σ' i v := ok
          have q : retI (.slot i) ρ' _ := q
          obtain ⟨ni, q⟩ := q
          unfold retR at q
          dsimp only at q
          have ni : i ≠ 0 := fun z => ni (by rw [z])
          split at q
          · rename_i o eq
            obtain ⟨v', e1, b, u, ev, fn, hh, r⟩ := J.sl i _ eq
            unfold HasV at hv e1
            rw [hv] at e1
            cases e1
            subst ev
            have ba : b ≠ a := fun z => by subst z; exact J.dis i 0 b o o' ni eq h0 hv (noA J)
            refine q _ F' H' J.bF J0 ⟨b, u, rfl, fn, hh, r, ?_, fun j o2 e e2 => ?_⟩
            · rcases J.ownb i b o eq hv with z | z
              · exact absurd z ba
              · exact z
            · have z := own0 e
              subst z
              have e2 : some (some (V.ref a)) = some (some (V.ref b)) := e2
              cases e2
              exact ba rfl
          · rename_i d eq
            obtain ⟨v', e1, s⟩ := J.sl i _ eq
            unfold HasV at hv e1
            rw [hv] at e1
            cases e1
            exact q _ F' H' J.bF J0 s
          · exact q.elim
end
end DL
set_option Elab.async false
set_option linter.all false
set_option maxRecDepth 100000
set_option maxHeartbeats 4000000
namespace DL
open PySem PySem.Spec L2
open PyProof.Rows hiding St
def wipeD (ρ : DEnv) : List Nat → DEnv
  | [] => ρ
  | v :: vs => (wipeD ρ vs).set v none
theorem wipeD_length (ρ : DEnv) : ∀ vs : List Nat, (wipeD ρ vs).length = ρ.length
  | [] => rfl
  | v :: vs => by unfold wipeD; rw [List.length_set, wipeD_length ρ vs]
theorem wipeD_some {ρ : DEnv} {i : Nat} {x : DV} : ∀ {vs : List Nat}, HasD (wipeD ρ vs) i x → HasD ρ i x ∧ i ∉ vs
  | [], h => ⟨h, by simp⟩
  | v :: vs, h => by
    unfold wipeD HasD at h
    by_cases c : i = v
    · subst c
      by_cases l : i < (wipeD ρ vs).length
      · rw [List.getElem?_set_self l] at h; cases h
      · rw [List.getElem?_eq_none (by simpa using Nat.le_of_not_lt l)] at h; cases h
    · rw [List.getElem?_set_ne (Ne.symm c)] at h
      obtain ⟨h1, h2⟩ := wipeD_some (vs := vs) h
      exact ⟨h1, fun m => by rcases List.mem_cons.mp m with e | m; exact c e; exact h2 m⟩
/-- the slots of a block's own names -/
def snds (own : List (Str × Nat)) : List Nat := own.map fun p => p.2
/-- the slots of a def but those of a comprehension's names -/
def others (n : Nat) (vs : List Nat) : List Nat := (List.range n).filter fun i => !vs.contains i
section
variable {W : Wd} {B : Bs} {F F' H H' : Hp} {σ σ' : L2.St} {ρ : DEnv} {D : Addr} {xs : List V}
/-- the ground of a comprehension's turn: the slots that stay, the new list -/
def Bs.cmp (B : Bs) (D : Addr) (u : HO) (σ : L2.St) (os : List Nat) : Bs := { B with H := fun a => if a = D then some u else B.H a, pin := os.map fun i => (i, (σ[i]?).getD none) }
def notOwn (ρ : DEnv) (σ : L2.St) (D : Addr) : Prop := ∀ (i : Nat) (ob : OB), HasD ρ i (.own ob) → ¬ HasV σ i (.ref D)
structure AtD (W : Wd) (B : Bs) (F H : Hp) (σ : L2.St) (ρ : DEnv) (D : Addr) (u : HO) : Prop where
  b : B.H D = none
  l : ¬ B.L D
  f : F D = none
  h : H D = some u
  o : notOwn ρ σ D
theorem RE.toCmp (I : RE W B F H σ ρ) {w : HO} (A : AtD W B F H σ ρ D w) {os : List Nat} {σ0 : L2.St} (hp : ∀ i ∈ os, i < σ.length ∧ σ[i]? = σ0[i]?) : RE W (B.cmp D w σ0 os) F H σ ρ := by
  refine ⟨I.len, I.fle, I.nfz, I.sl, I.dis, fun i a ob e q => ?_, I.bF, fun a u e n => ?_, fun a u e n f => ?_, I.bL, fun p hpm => ?_⟩
  · rcases I.ownb i a ob e q with z | z
    · exact .inl z
    · refine .inr ?_
      show (if a = D then some w else B.H a) = none
      rw [if_neg (fun c : a = D => A.o i ob e (c ▸ q))]
      exact z
  · have e : (if a = D then some w else B.H a) = some u := e
    by_cases c : a = D
    · subst c
      rw [if_pos rfl] at e
      cases e
      exact .inl A.h
    · rw [if_neg c] at e
      exact I.bH a u e n
  · have e : (if a = D then some w else B.H a) = some u := e
    by_cases c : a = D
    · subst c; exact A.f
    · rw [if_neg c] at e
      exact I.bN a u e n f
  · obtain ⟨i, hi, rfl⟩ := List.mem_map.mp hpm
    obtain ⟨l, e⟩ := hp i hi
    show σ[i]? = some ((σ0[i]?).getD none)
    rw [← e, List.getElem?_eq_getElem l]
    rfl
theorem RE.unCmp {w : HO} {os : List Nat} {σ0 : L2.St} (b : B.H D = none) (l : ¬ B.L D) (hpin : ∀ p ∈ B.pin, p.1 ∈ os ∧ σ0[p.1]? = some p.2) (J : RE W (B.cmp D w σ0 os) F' H' σ' ρ) (hbf : B.F D = none) :
    RE W B F' H' σ' ρ ∧ AtD W B F' H' σ' ρ D w ∧ ∀ i ∈ os, σ'[i]? = some ((σ0[i]?).getD none) := by
  have hD : (B.cmp D w σ0 os).H D = some w := if_pos rfl
  have hn : ∀ {a}, a ≠ D → (B.cmp D w σ0 os).H a = B.H a := fun {a} c => if_neg c
  have hF : F' D = none := J.bN D _ hD l hbf
  refine ⟨⟨J.len, J.fle, J.nfz, J.sl, J.dis, fun i a ob e q => ?_, J.bF, fun a u e n => ?_, fun a u e n f => ?_, J.bL, fun p hp => ?_⟩, ⟨b, l, hF, (J.bH D _ hD l).live hF, fun i ob e q => ?_⟩, fun i hi => ?_⟩
  · rcases J.ownb i a ob e q with z | z
    · exact .inl z
    · by_cases c : a = D
      · subst c; exact .inr b
      · rw [hn c] at z; exact .inr z
  · have c : a ≠ D := fun c => by subst c; rw [b] at e; cases e
    exact J.bH a u (by rw [hn c]; exact e) n
  · have c : a ≠ D := fun c => by subst c; rw [b] at e; cases e
    exact J.bN a u (by rw [hn c]; exact e) n f
  · obtain ⟨hm, e⟩ := hpin p hp
    have := J.pin (p.1, (σ0[p.1]?).getD none) (List.mem_map.mpr ⟨p.1, hm, rfl⟩)
    rw [e] at this
    exact this
  · rcases J.ownb i D ob e q with z | z
    · exact l z
    · rw [hD] at z; cases z
  · exact J.pin (i, (σ0[i]?).getD none) (List.mem_map.mpr ⟨i, hi, rfl⟩)
theorem RE.writeD (I : RE W B F H σ ρ) {w : HO} (A : AtD W B F H σ ρ D w) (y : HO) : RE W B F (L2.upd H D y) σ ρ ∧ AtD W B F (L2.upd H D y) σ ρ D y := by
  have nb : ∀ {a u}, B.H a = some u → a ≠ D := fun {a u} e c => by subst c; rw [A.b] at e; cases e
  refine ⟨⟨I.len, fun a u e => ?_, I.nfz, fun i dv e => ?_, I.dis, I.ownb, I.bF, fun a u e n => (I.bH a u e n).upd (nb e) (Le.refl F), I.bN, fun a e => ?_, I.pin⟩, ⟨A.b, A.l, A.f, upd_same, A.o⟩⟩
  · have c : a ≠ D := fun c => by subst c; rw [A.f] at e; cases e
    rcases I.fle a u e with q | ⟨z, q⟩
    · exact .inl (by rw [upd_ne c]; exact q)
    · exact .inr ⟨z, by rw [upd_ne c]; exact q⟩
  · obtain ⟨v, e1, s⟩ := I.sl i dv e
    refine ⟨v, e1, ?_⟩
    cases dv with
    | pure d => exact s
    | raw x => exact s
    | own ob =>
      obtain ⟨a, u, ev, f, h, r⟩ := s
      have c : a ≠ D := fun c => by subst c; subst ev; exact A.o i ob e e1
      exact ⟨a, u, ev, f, by rw [upd_ne c]; exact h, r⟩
  · have c : a ≠ D := fun c => A.l (c ▸ e)
    obtain ⟨u, q⟩ := I.bL a e
    exact ⟨u, by rw [upd_ne c]; exact q⟩
theorem RE.wipeAll (I : RE W B F H σ ρ) : ∀ {vs : List Nat}, (∀ p ∈ B.pin, p.1 ∉ vs) → RE W B F H (L2.wipe σ vs) (wipeD ρ vs)
  | [], _ => I
  | v :: vs, h => (RE.wipeAll I (vs := vs) fun p hp m => h p hp (List.mem_cons_of_mem _ m)).wipe fun m => by
      obtain ⟨p, hp, e⟩ := List.mem_map.mp m
      exact h p hp (by rw [e]; exact List.mem_cons_self)
theorem RE.unwipe {vs : List Nat} (I : RE W B F H (L2.wipe σ vs) ρ) (hn : ∀ i dv, HasD ρ i dv → i ∉ vs) (hp : ∀ p ∈ B.pin, p.1 ∉ vs) : RE W B F H σ ρ := by
  have hv : ∀ {i dv v}, HasD ρ i dv → HasV σ i v → HasV (L2.wipe σ vs) i v := fun {i dv v} e q => by unfold HasV; rw [wipe_out (hn i dv e)]; exact q
  have hv' : ∀ {i dv v}, HasD ρ i dv → HasV (L2.wipe σ vs) i v → HasV σ i v := fun {i dv v} e q => by unfold HasV at q; rw [wipe_out (hn i dv e)] at q; exact q
  exact ⟨by rw [← I.len, wipe_length], I.fle, I.nfz, fun i dv e => let ⟨v, e1, s⟩ := I.sl i dv e; ⟨v, hv' e e1, s⟩, fun i j a o1 o2 n e1 e2 e3 e4 => I.dis i j a o1 o2 n e1 e2 (hv e1 e3) (hv e2 e4), fun i a o e q => I.ownb i a o e (hv e q),
    I.bF, I.bH, I.bN, I.bL, fun p q => by have e := I.pin p q; rw [wipe_out (hp p q)] at e; exact e⟩
end
/-- a comprehension over the data ds: acc what is made so far -/
def compD (tg : TDG) (tt : TDB) (te : TD) (vs : List Nat) : List D → List D → DEnv → (List D → DEnv → Prop) → Prop
  | [], acc, ρ, Q => Q acc ρ
  | d :: ds, acc, ρ, Q => tg (.pure d) ρ fun ρ1 => tt ρ1 (fun b ρ2 => if b = true then te ρ2 (fun r ρ3 => keepR r ρ3 fun y ρ4 => acc.length < sizeLine ∧ compD tg tt te vs ds (acc ++ [y]) (wipeD ρ4 vs) Q) (fun _ _ => False)
      else compD tg tt te vs ds acc (wipeD ρ2 vs) Q) fun _ _ => False
def dComp (w : TDI) (tg : TDG) (tt : TDB) (te : TD) (vs : List Nat) : TD := fun ρ Q E => w ρ (fun ds ρ1 => compD tg tt te vs ds [] (wipeD ρ1 vs) fun acc ρ2 => Q (.tmp (.lst acc)) ρ2) E
theorem compD.mono {tg : TDG} {tt : TDB} {te : TD} {vs : List Nat} (mg : ∀ r ρ (Q Q' : DEnv → Prop), tg r ρ Q → (∀ ρ', Q ρ' → Q' ρ') → tg r ρ Q') (mt : Mono tt) (me : Mono te) : ∀ {ds acc ρ} {Q Q' : List D → DEnv → Prop}, compD tg tt te vs ds acc ρ Q → (∀ a ρ', Q a ρ' → Q' a ρ') → compD tg tt te vs ds acc ρ Q'
  | [], _, _, _, _, h, hq => hq _ _ h
  | d :: ds, acc, ρ, Q, Q', h, hq => mg _ _ _ _ h fun ρ1 h1 => mt _ _ _ _ _ h1 (fun b ρ2 h2 => by
      cases b with
      | false => exact compD.mono mg mt me h2 hq
      | true => exact me _ _ _ _ _ h2 (fun r ρ3 h3 => keepR.mono h3 fun y ρ4 h4 => ⟨h4.1, compD.mono mg mt me h4.2 hq⟩) fun _ _ z => z) fun _ _ z => z
/-- a clause's tests over data -/
structure DTs (X : Cx) (ifs : List Expr) (t : TDB) : Prop where
  run : ∀ B, PTs X ifs (AT (wdOf X) W0 B t)
  mono : Mono t
def dYes : TDB := fun ρ Q _ => Q true ρ
theorem dts_nil {X : Cx} : DTs X [] dYes := by
  refine ⟨fun B => ⟨fun pins s σ H Q I h => ?_⟩, fun _ _ _ _ _ k hq _ => hq _ _ k⟩
  obtain ⟨F, ρ, J, hv⟩ := h
  exact pts_nil.run pins s σ H Q I (hv F H (Le.refl F) J)
theorem dts_one {X : Cx} {c : Expr} {t : TDB} (h : DT X W0 c t) : DTs X [c] t := ⟨fun B => pts_one (h.run B), h.mono⟩
section
variable {X : Cx} {Wx : WX}
theorem pts_ex {X : Cx} {ifs : List Expr} {t : Bs → TT} (h : ∀ B, PTs X ifs (t B)) : PTs X ifs fun σ H Q => ∃ B, t B σ H Q := ⟨fun pins s σ H Q I ⟨B, hw⟩ => (h B).run pins s σ H Q I hw⟩
theorem pe_ex {X : Cx} {e : Expr} {t : Bs → TE} (h : ∀ B, PE X e (t B)) : PE X e fun σ H Q => ∃ B, t B σ H Q := ⟨fun pins s σ H Q I ⟨B, hw⟩ => (h B).run pins s σ H Q I hw⟩
theorem others_lt {n i : Nat} {vs : List Nat} (h : i ∈ others n vs) : i < n ∧ i ∉ vs := by
  unfold others at h
  obtain ⟨h1, h2⟩ := List.mem_filter.mp h
  exact ⟨List.mem_range.mp h1, by simpa using h2⟩
theorem mem_others {n i : Nat} {vs : List Nat} (h : i < n) (hv : i ∉ vs) : i ∈ others n vs := List.mem_filter.mpr ⟨List.mem_range.mpr h, by simpa using hv⟩
theorem wipe_eq {σ σ0 : L2.St} {vs : List Nat} (hl : σ.length = σ0.length) (h : ∀ i ∈ others σ.length vs, σ[i]? = σ0[i]?) : wipe σ vs = wipe σ0 vs := by
  apply List.ext_getElem?
  intro i
  by_cases c : i ∈ vs
  · have z : ∀ (τ : L2.St), i < τ.length → (wipe τ vs)[i]? = some none := fun τ l => by
      cases e : (wipe τ vs)[i]? with
      | none => rw [List.getElem?_eq_none_iff, wipe_length] at e; omega
      | some o =>
        cases o with
        | none => rfl
        | some x => exact absurd c (wipe_some e).2
    by_cases l : i < σ.length
    · rw [z σ l, z σ0 (by omega)]
    · rw [List.getElem?_eq_none (by rw [wipe_length]; omega), List.getElem?_eq_none (by rw [wipe_length]; omega)]
  · rw [wipe_out c, wipe_out c]
    by_cases l : i < σ.length
    · exact h i (mem_others l c)
    · rw [List.getElem?_eq_none (by omega), List.getElem?_eq_none (by omega)]
/-- what a comprehension's reading asks, given what the data reading asks -/
theorem comp_of {B : Bs} {n : Nat} {vs : List Nat} {tg : TDG} {tt : TDB} {te : TD} {Y : Cx} (mg : ∀ r ρ (Q Q' : DEnv → Prop), tg r ρ Q → (∀ ρ', Q ρ' → Q' ρ') → tg r ρ Q') (mt : Mono tt) (me : Mono te)
    {σ : L2.St} {F1 H1 : Hp} {ρ1 : DEnv} {J : It} {ds : List D} {Q : VK} (hn : σ.length = n) (hpv : ∀ p ∈ B.pin, p.1 ∉ vs) (I1 : RE (wdOf X) B F1 H1 σ ρ1) (ok : IterOk (wdOf X) J F1 H1 ds)
    (k : compD tg tt te vs ds [] (wipeD ρ1 vs) fun acc ρ2 => ∀ v F' H', Le F1 F' → RE (wdOf X) B F' H' σ ρ2 → RVok (wdOf X) B F' H' σ ρ2 v (.tmp (.lst acc)) → Q v H') :
    ∀ D, H1 D = none → ∃ W : Nat → Nat → Hp → Prop, (∃ m, W 0 m (L2.upd H1 D (.lst []))) ∧ ∀ i m H, W i m H →
      (J.stop i H ∧ Q (.ref D) H) ∨ (J.go i H ∧ ∃ Nx : Hp → Prop, (∀ H', Nx H' → ∃ m', m' < m ∧ W (i + 1) m' H') ∧ ∀ x H', J.yld i H x H' →
        (∃ B', B'.pin.map (·.1) = others n vs ∧ AG (wdOf X) B' tg x (wipe σ vs) H' fun σ2 H2 => σ2.length = n → wipe σ2 vs = wipe σ vs ∧ ∃ B'', AT (wdOf X) W0 B'' tt σ2 H2 fun b H3 =>
          if b = true then ∃ B3, AE (wdOf X) W0 B3 te σ2 H3 fun y H4 => ∃ acc, H4 D = some (.lst acc) ∧ acc.length < sizeLine ∧ Nx (L2.upd H4 D (.lst (acc ++ [y]))) else Nx H3)) := by
  intro D hD
  have IA : RE (wdOf X) (B.at F1 H1) F1 H1 σ ρ1 := I1.atB
  have Iw : RE (wdOf X) (B.at F1 H1) F1 H1 (wipe σ vs) (wipeD ρ1 vs) := IA.wipeAll hpv
  have hb : (B.at F1 H1).H D = none := IA.bnone hD
  have hl : ¬ (B.at F1 H1).L D := fun z => by obtain ⟨u, q⟩ := IA.bL D z; rw [hD] at q; cases q
  have hf1 : (B.at F1 H1).F D = none := IA.fnone hD
  have wl : (wipe σ vs).length = n := by rw [wipe_length]; exact hn
  have hpin : ∀ p ∈ (B.at F1 H1).pin, p.1 ∈ others n vs ∧ (wipe σ vs)[p.1]? = some p.2 := fun p hp => by
    have e := Iw.pin p hp
    refine ⟨mem_others ?_ (hpv p hp), e⟩
    rw [← wl]
    exact (List.getElem?_eq_some_iff.mp e).1
  have hpo : ∀ i ∈ others n vs, i < (wipe σ vs).length ∧ (wipe σ vs)[i]? = (wipe σ vs)[i]? := fun i hi => ⟨by rw [wl]; exact (others_lt hi).1, rfl⟩
  have hpinmap : ∀ (u : HO), ((B.at F1 H1).cmp D u (wipe σ vs) (others n vs)).pin.map (·.1) = others n vs := fun u => by
    show ((others n vs).map fun i => (i, ((wipe σ vs)[i]?).getD none)).map (·.1) = others n vs
    rw [List.map_map]
    exact List.map_id _
  let G : Nat → Hp → Prop := fun i H => ∃ F ρ xs acc, RE (wdOf X) (B.at F1 H1) F H (wipe σ vs) ρ ∧ (∀ i dv, HasD ρ i dv → i ∉ vs) ∧ AtD (wdOf X) (B.at F1 H1) F H (wipe σ vs) ρ D (.lst xs) ∧ RpAll (wdOf X) F xs acc ∧
    compD tg tt te vs (ds.drop i) acc ρ fun acc ρ2 => ∀ v F' H', Le F1 F' → RE (wdOf X) B F' H' σ ρ2 → RVok (wdOf X) B F' H' σ ρ2 v (.tmp (.lst acc)) → Q v H'
  refine ⟨fun i m H => i + m = ds.length ∧ G i H, ⟨ds.length, by omega, F1, _, [], [], Iw.laid hD, fun i dv e => (wipeD_some e).2, ⟨hb, hl, IA.fnone hD, upd_same, fun i ob e q => ?_⟩, .nil, k⟩, fun i m H2 hW => ?_⟩
  · obtain ⟨v, e1, a, u, ev, f, hh, r⟩ := Iw.sl i _ e
    unfold HasV at q e1
    rw [q] at e1
    cases e1
    cases ev
    rw [hD] at hh
    cases hh
  · obtain ⟨em, F2, ρ2, xs, acc, I2, hnv, A2, ra, k2⟩ := hW
    have lx := ra.length
    obtain ⟨o1, o2, o3⟩ := ok _ (wipe σ vs) ρ2 F2 H2 i I2.bF I2.frzAt (I2.toCmp A2 hpo)
    by_cases hi : i < ds.length
    · refine .inr ⟨o1 hi, G (i + 1), fun H' z => ⟨m - 1, by omega, by omega, z⟩, fun x H3 hy => ?_⟩
      obtain ⟨F3, l3, I3, rp⟩ := o2 _ (List.getElem?_eq_getElem hi) x H3 hy
      rw [List.drop_eq_getElem_cons hi] at k2
      -- the end of a turn
      have back : ∀ {F4 H4 σ4 ρ4}, RE (wdOf X) ((B.at F1 H1).cmp D (.lst xs) (wipe σ vs) (others n vs)) F4 H4 σ4 ρ4 → σ4.length = n → wipe σ4 vs = wipe σ vs ∧ RE (wdOf X) (B.at F1 H1) F4 H4 (wipe σ vs) (wipeD ρ4 vs) ∧ AtD (wdOf X) (B.at F1 H1) F4 H4 (wipe σ vs) (wipeD ρ4 vs) D (.lst xs) := by
        intro F4 H4 σ4 ρ4 J4 hl4
        obtain ⟨J5, A5, e5⟩ := J4.unCmp hb hl hpin hf1
        have ew : wipe σ4 vs = wipe (wipe σ vs) vs := wipe_eq (by rw [hl4, wl]) fun i hi => by
          rw [hl4] at hi
          have := e5 i hi
          have l' := (hpo i hi).1
          rw [this, List.getElem?_eq_getElem l']
          rfl
        have eww : wipe (wipe σ vs) vs = wipe σ vs := wipe_eq (by rw [wipe_length]) fun i hi => wipe_out (others_lt hi).2
        rw [eww] at ew
        have J6 := J5.wipeAll (vs := vs) fun p hp => (others_lt (hpin p hp).1).2
        rw [ew] at J6
        refine ⟨ew, J6, A5.b, A5.l, A5.f, A5.h, fun i ob e q => ?_⟩
        obtain ⟨e1, ni⟩ := wipeD_some e
        refine A5.o i ob e1 ?_
        unfold HasV at q ⊢
        rw [← ew, wipe_out ni] at q
        exact q
      refine ⟨{ (B.at F1 H1).cmp D (.lst xs) (wipe σ vs) (others n vs) with F := F3 }, hpinmap (.lst xs), F3, ρ2, .pure ds[i], I3.reF, rp, mg _ _ _ _ k2 fun ρ3 k3 σ3 F4 H4 J4 hl4 => ⟨(back (I3.unF J4) hl4).1, _, F4, ρ3, I3.unF J4, mt _ _ _ _ _ k3 (fun b ρ5 k5 F5 H5 l5 J5 => ?_) fun _ _ z => z.elim⟩⟩
      cases b with
      | false =>
        rw [if_neg Bool.false_ne_true] at k5 ⊢
        obtain ⟨_, J6, A6⟩ := back J5 hl4
        exact ⟨F5, _, xs, acc, J6, fun i dv e => (wipeD_some e).2, A6, ra.mono (l3.trans (J4.bF.trans l5)), k5⟩
      | true =>
        rw [if_pos rfl] at k5 ⊢
        refine ⟨_, F5, ρ5, J5, me _ _ _ _ _ k5 (fun r ρ6 k6 v F6 H6 l6 J6 ok6 => ?_) fun _ _ z => z.elim⟩
        obtain ⟨F7, ρ7, y, l7, J7, rp7, hz, k7⟩ := keep_of J6 ok6 k6
        obtain ⟨_, J8, A8⟩ := back J7 hl4
        obtain ⟨J9, A9⟩ := J8.writeD A8 (.lst (xs ++ [v]))
        refine ⟨xs, A8.h, by omega, F7, _, xs ++ [v], acc ++ [y], J9, fun i dv e => (wipeD_some e).2, A9, (ra.mono (l3.trans (J4.bF.trans (l5.trans (l6.trans l7))))).append (.cons rp7 .nil), k7⟩
    · rw [List.drop_eq_nil_of_le (Nat.le_of_not_lt hi)] at k2
      refine .inl ⟨o3 (Nat.le_of_not_lt hi), k2 _ F2 H2 I2.bF ?_ ?_⟩
      · exact I1.unAt (I2.unwipe hnv hpv)
      · refine ⟨D, _, rfl, A2.f, A2.h, ⟨xs, rfl, ra⟩, I1.bnone hD, fun i ob e q => A2.o i ob e ?_⟩
        unfold HasV
        rw [wipe_out (hnv i _ e)]
        exact q
theorem pg_len {X : Cx} {tg : Expr} {t : TG} (h : PG X tg t) : PG X tg fun v σ H Q => t v σ H fun σ' H' => σ'.length = X.N.length → Q σ' H' :=
  ⟨fun pins s σ H v u Q I r hw => thn (h.run pins s σ H v u _ I r hw) fun _ s' ⟨σ', H', I', q⟩ => ⟨σ', H', I', q I'.len⟩⟩
/-- a clause of a comprehension: its target, tests and element, wherever its block runs -/
structure DCl (X : Cx) (scope : Scope) (vs : List Nat) (tg : Expr) (ifs : List Expr) (elt : Expr) (tgd : TDG) (tt : TDB) (te : TD) : Prop where
  g : ∀ (s : Shared) (H : Hp) (C : Addr) (cl : List (Str × Addr)) (fp : List Addr), DG (X.blk s H scope (compEnvC scope cl C X.env) fp) (others X.N.length vs) tg tgd
  t : ∀ (s : Shared) (H : Hp) (C : Addr) (cl : List (Str × Addr)) (fp : List Addr), DTs (X.blk s H scope (compEnvC scope cl C X.env) fp) ifs tt
  e : ∀ (s : Shared) (H : Hp) (C : Addr) (cl : List (Str × Addr)) (fp : List Addr), DE (X.blk s H scope (compEnvC scope cl C X.env) fp) W0 elt te
theorem PE.impI {X : Cx} {e : Expr} {t t' : TE} (h : PE X e t') (f : ∀ σ H Q, σ.length = X.N.length → t σ H Q → t' σ H Q) : PE X e t := ⟨fun pins s σ H Q I hw => h.run pins s σ H Q I (f σ H Q I.len hw)⟩
theorem RE.dropPin {W : Wd} {B : Bs} {F H : Hp} {σ : L2.St} {ρ : DEnv} (I : RE W B F H σ ρ) : RE W { B with pin := [] } F H σ ρ := ⟨I.len, I.fle, I.nfz, I.sl, I.dis, I.ownb, I.bF, I.bH, I.bN, I.bL, fun p hp => nomatch hp⟩
theorem RE.addPin {W : Wd} {B : Bs} {F F' H H' : Hp} {σ : L2.St} {ρ ρ' : DEnv} (I : RE W B F H σ ρ) (J : RE W { B with pin := [] } F' H' σ ρ') : RE W B F' H' σ ρ' := ⟨J.len, J.fle, J.nfz, J.sl, J.dis, J.ownb, J.bF, J.bH, J.bN, J.bL, I.pin⟩
theorem RVok.addPin {W : Wd} {B : Bs} {F H : Hp} {σ : L2.St} {ρ : DEnv} {v : V} {r : RV} (ok : RVok W { B with pin := [] } F H σ ρ v r) : RVok W B F H σ ρ v r := by cases r <;> exact ok
theorem dComp.mono {w : TDI} {tgd : TDG} {tt : TDB} {te : TD} {vs : List Nat} (mw : Mono w) (mg : ∀ r ρ (Q Q' : DEnv → Prop), tgd r ρ Q → (∀ ρ', Q ρ' → Q' ρ') → tgd r ρ Q') (mt : Mono tt) (me : Mono te) : Mono (dComp w tgd tt te vs) := fun ρ Q Q' E E' h hq he =>
  mw _ _ _ _ _ h (fun ds ρ1 h1 => compD.mono mg mt me h1 fun acc ρ2 => hq _ _) he
def gCl (W : Wd) (n : Nat) (vs : List Nat) (tgd : TDG) : TG := fun v σ H Q => ∃ B', B'.pin.map (·.1) = others n vs ∧ AG W B' tgd v σ H fun σ' H' => σ'.length = n → Q σ' H'
/-- what stands behind the source of a comprehension -/
theorem comp_wish {B : Bs} {n : Nat} {vs : List Nat} {tgd : TDG} {tt : TDB} {te : TD} (mg : ∀ r ρ (Q Q' : DEnv → Prop), tgd r ρ Q → (∀ ρ', Q ρ' → Q' ρ') → tgd r ρ Q') (mt : Mono tt) (me : Mono te)
    {σ : L2.St} {F F1 H1 : Hp} {ρ1 : DEnv} {J : It} {ds : List D} {Q : VK} (hn : σ.length = n) (l1 : Le F F1) (I1 : RE (wdOf X) B F1 H1 σ ρ1) (ok : IterOk (wdOf X) J F1 H1 ds)
    (k : compD tgd tt te vs ds [] (wipeD ρ1 vs) fun acc ρ2 => ∀ v F' H', Le F F' → RE (wdOf X) B F' H' σ ρ2 → RVok (wdOf X) B F' H' σ ρ2 v (.tmp (.lst acc)) → Q v H') :
    ∀ D, H1 D = none → ∃ W : Nat → Nat → Hp → Prop, (∃ m, W 0 m (L2.upd H1 D (.lst []))) ∧ ∀ i m H, W i m H →
      (J.stop i H ∧ Q (.ref D) H) ∨ (J.go i H ∧ ∃ Nx : Hp → Prop, (∀ H', Nx H' → ∃ m', m' < m ∧ W (i + 1) m' H') ∧ ∀ x H', J.yld i H x H' →
        (∃ B', B'.pin.map (·.1) = others n vs ∧ AG (wdOf X) B' tgd x (wipe σ vs) H' fun σ2 H2 => σ2.length = n → wipe σ2 vs = wipe σ vs ∧ ∃ B'', AT (wdOf X) W0 B'' tt σ2 H2 fun b H3 =>
          if b = true then ∃ B3, AE (wdOf X) W0 B3 te σ2 H3 fun y H4 => ∃ acc, H4 D = some (.lst acc) ∧ acc.length < sizeLine ∧ Nx (L2.upd H4 D (.lst (acc ++ [y]))) else Nx H3)) :=
  comp_of (B := { B with pin := [] }) (Y := X) mg mt me hn (fun p hp => nomatch hp) I1.dropPin ok (compD.mono mg mt me k fun acc ρ2 q v F' H' l J ok => q v F' H' (l1.trans l) (I1.addPin J) ok.addPin)
theorem de_comp {elt tg iter : Expr} {ifs : List Expr} {scope : Scope} {own : List (Str × Nat)} {pos : Pos} {w : TDI} {tgd : TDG} {tt : TDB} {te : TD} (hc : X.calm = true) (hN : X.N.Nodup) (hi : DI X Wx tg iter w) (ok : BlkOk X.N X.env.scope scope own)
    (c : DCl X scope (snds own) tg ifs elt tgd tt te) (mg : ∀ r ρ (Q Q' : DEnv → Prop), tgd r ρ Q → (∀ ρ', Q ρ' → Q' ρ') → tgd r ρ Q') (mt : Mono tt) (me : Mono te)
    (hs : ∀ x, foldedSetIterable iter X.env x = pure x := by intro _; rfl) : DE X Wx (.ListComp elt [⟨tg, iter, ifs, 0⟩] scope pos) (dComp w tgd tt te (snds own)) := by
  refine ⟨fun B => PE.impI (pe_lc (g := gCl (wdOf X) X.N.length (snds own) tgd) hc hN (hi.run B) ok (fun s H C cl fp => pg_len (pg_ex (t := fun B' => AG (wdOf X) B' tgd) fun B' hB' => (c.g s H C cl fp).run B' hB')) (fun s H C cl fp => pts_ex (t := fun B' => AT (wdOf X) W0 B' tt) fun B' => (c.t s H C cl fp).run B') (fun s H C cl fp => pe_ex (t := fun B' => AE (wdOf X) W0 B' te) fun B' => (c.e s H C cl fp).run B') hs) fun σ H Q hl hh => ?_, dComp.mono hi.mono mg mt me⟩
  obtain ⟨F, ρ, I, hv⟩ := hh
  exact ⟨F, ρ, I, hi.mono _ _ _ _ _ hv (fun ds ρ1 k J F1 H1 l1 I1 okJ => comp_wish mg mt me hl l1 I1 okJ k) fun _ _ z => z⟩
/-- name = [..] on one line -/
theorem ds_setComp {i : Nat} {y : Str} {py : Pos} {elt tg iter : Expr} {ifs : List Expr} {scope : Scope} {own : List (Str × Nat)} {pos spos : Pos} {ios : List Nat} {w : TDI} {tgd : TDG} {tt : TDB} {te : TD} (hc : X.calm = true) (hN : X.N.Nodup) (hy : X.N[i]? = some y) (hyl : X.env.scope.names.lookup y = some .local)
    (hsw : swapsWith (.ListComp elt [⟨tg, iter, ifs, 0⟩] scope pos) (some (.Name y py)) spos.line X.env = pure true) (hi : DI X Wx tg iter w) (ok : BlkOk X.N X.env.scope scope own)
    (c : DCl X scope (snds own) tg ifs elt tgd tt te) (mg : ∀ r ρ (Q Q' : DEnv → Prop), tgd r ρ Q → (∀ ρ', Q ρ' → Q' ρ') → tgd r ρ Q') (mt : Mono tt) (me : Mono te)
    (hs : ∀ x, foldedSetIterable iter X.env x = pure x := by intro _; rfl) : DS X Wx ios (.Assign [.Name y py] (.ListComp elt [⟨tg, iter, ifs, 0⟩] scope pos) spos) (dAsg (dComp w tgd tt te (snds own)) (dgName ios i)) := by
  have mono : Mono (dComp w tgd tt te (snds own)) := dComp.mono hi.mono mg mt me
  refine ⟨fun B hb => ?_, dAsg.mono mono fun r ρ Q Q' k hq => ⟨k.1, putR.mono k.2 hq⟩⟩
  have h := ps_setLc (g := gCl (wdOf X) X.N.length (snds own) tgd) (X := X) hc hN hy hyl hsw (hi.run B) ok (fun s H C cl fp => pg_len (pg_ex (t := fun B' => AG (wdOf X) B' tgd) fun B' hB' => (c.g s H C cl fp).run B' hB')) (fun s H C cl fp => pts_ex (t := fun B' => AT (wdOf X) W0 B' tt) fun B' => (c.t s H C cl fp).run B') (fun s H C cl fp => pe_ex (t := fun B' => AE (wdOf X) W0 B' te) fun B' => (c.e s H C cl fp).run B') hs
  refine ⟨fun pins s σ H D I0 hh => h.run pins s σ H D I0 ?_⟩
  obtain ⟨F, ρ, I, hv⟩ := hh
  refine ⟨F, ρ, I, hi.mono _ _ _ _ _ hv (fun ds ρ1 k J F1 H1 l1 I1 okJ => comp_wish (F := F) (Q := fun x H1 => gName i x σ H1 D.nx) mg mt me I0.len l1 I1 okJ (compD.mono mg mt me k fun acc ρ2 q v F' H' l J' okv => ?_)) fun _ _ z => z.of⟩
  obtain ⟨F3, ρ3, I3, q3⟩ := put_of J' (hb ▸ q.1) okv q.2
  exact q3 _ F3 H' I3
end
end DL
set_option Elab.async false
set_option linter.all false
set_option maxRecDepth 100000
set_option maxHeartbeats 4000000
namespace DL
open PySem PySem.Spec L2
open PyProof.Rows hiding St
section
variable {X : Cx} {Wx : WX} {a b e : Expr} {es : List Expr} {pos p : Pos} {t ta tb : TD} {u : TDA}
theorem de_tup {x1} (h : DA X Wx es u) : DE X Wx (.Tuple es x1 pos) (dTup u) := by
  refine ⟨fun B => PE.imp (pe_tup (h.run B)) fun σ H Q hh => ?_, dTup.mono h.mono⟩
  obtain ⟨F, ρ, I, hv⟩ := hh
  refine ⟨F, ρ, I, h.mono _ _ _ _ _ hv (fun rs ρ1 k vs F1 H1 l1 I1 ok1 => ?_) fun _ _ z => z⟩
  obtain ⟨F2, ρ2, ds, l2, I2, ra, hz, k2⟩ := keepAll_of I1 ok1 k
  refine ⟨by rw [ra.length]; exact hz, fun q hq => ?_⟩
  obtain ⟨l3, I3, r3⟩ := rp_newtup I2 hq ra
  exact k2 _ _ _ (l1.trans (l2.trans l3)) I3 r3
theorem de_lst (h : DA X Wx es u) : DE X Wx (.List es pos) (dLst u) := by
  refine ⟨fun B => PE.imp (pe_lst (h.run B)) fun σ H Q hh => ?_, dLst.mono h.mono⟩
  obtain ⟨F, ρ, I, hv⟩ := hh
  refine ⟨F, ρ, I, h.mono _ _ _ _ _ hv (fun rs ρ1 k vs F1 H1 l1 I1 ok1 => ?_) fun _ _ z => z⟩
  obtain ⟨F2, ρ2, ds, l2, I2, ra, hz, k2⟩ := keepAll_of I1 ok1 k
  refine ⟨by rw [ra.length]; exact hz, fun q hq => ?_⟩
  obtain ⟨I3, r3⟩ := ok_newobj (o := .lst ds) I2 hq ⟨vs, rfl, ra⟩
  exact k2 _ _ _ (l1.trans l2) I3 r3
/-- a starred argument -/
def dStar (t : TD) (u : TDA) : TDA := fun ρ Q E => t ρ (fun r ρ1 => ∃ ds, (rvData ρ1 r = some (.tuple ds) ∨ rvData ρ1 r = some (.list ds)) ∧ u ρ1 (fun rs ρ2 => Q (ds.map RV.pure ++ rs) ρ2) E) E
theorem RVs.pures {W : Wd} {B : Bs} {F F' H : Hp} {σ : L2.St} {ρ : DEnv} (l : Le F F') : ∀ {vs ws : List V} {ds : List D} {rs : List RV}, RpAll W F vs ds → RVs W B F' H σ ρ ws rs → RVs W B F' H σ ρ (vs ++ ws) (ds.map RV.pure ++ rs)
  | _, _, _, _, .nil, r => r
  | _, _, _, _, .cons a b, r => .cons (fun _ z => nomatch z) (Rp.mono l a) (RVs.pures l b r)
theorem da_star (h : DE X Wx e t) (hs : DA X Wx es u) (hst : starEach (.Starred e p :: es) X.env = (true, eval e X.env) :: starEach es X.env := by rfl) : DA X Wx (.Starred e p :: es) (dStar t u) := by
  refine ⟨fun B => PA.imp (StX.pa_star (h.run B) (hs.run B) hst) fun σ H Q hh => ?_, fun ρ Q Q' E E' k hq he => h.mono _ _ _ _ _ k (fun r ρ1 ⟨ds, e1, k1⟩ => ⟨ds, e1, hs.mono _ _ _ _ _ k1 (fun rs ρ2 => hq _ _) he⟩) he⟩
  obtain ⟨F, ρ, I, hv⟩ := hh
  refine ⟨F, ρ, I, h.mono _ _ _ _ _ hv (fun r ρ1 ⟨ds, e1, k⟩ v F1 H1 l1 I1 ok1 => ?_) fun _ _ z => z⟩
  have main : ∃ p xs, v = V.ref p ∧ (SqT X.K H1 p xs ∨ SqL X.K H1 p xs) ∧ RpAll (wdOf X) F1 xs ds := by
    rcases e1 with e1 | e1
    · obtain ⟨p, xs, ev, hs, ra, _⟩ := (view_of I1 ok1 e1).tup I1
      exact ⟨p, xs, ev, .inl hs, ra⟩
    · obtain ⟨p, xs, ev, hs, ra⟩ := (view_of I1 ok1 e1).list I1
      exact ⟨p, xs, ev, .inr (.inl hs), ra⟩
  obtain ⟨p, xs, ev, hx, ra⟩ := main
  exact ⟨p, xs, ev, hx, F1, ρ1, I1, hs.mono _ _ _ _ _ k (fun rs ρ2 k2 ws F2 H2 l2 I2 ok2 => k2 _ F2 H2 (l1.trans l2) I2 (RVs.pures l2 ra ok2)) fun _ _ z => AX.le l1 z⟩
def gIx : G2 := fun a b Q => match a, b with
  | .list xs, .int i => ∃ d, atI xs i = some d ∧ Q (.pure d)
  | .tuple xs, .int i => ∃ d, atI xs i = some d ∧ Q (.pure d)
  | .str z, .int i => z.length ≤ sizeLine ∧ ∃ c, atI z.cps.toList i = some c ∧ Q (.pure (.str ⟨#[c]⟩))
  | _, _ => False
theorem RpAll.atI {W : Wd} {F : Hp} {vs : List V} {ds : List D} {i : Int} {d : D} (r : RpAll W F vs ds) (h : L2.atI ds i = some d) : ∃ v, L2.atI vs i = some v ∧ Rp W F v d := by
  unfold L2.atI at h ⊢
  rw [r.length]
  cases e : ixN ds.length i with
  | none => rw [e] at h; cases h
  | some j =>
    rw [e] at h
    exact r.get h
theorem gIx.mono : ∀ a b (Q Q' : RV → Prop), gIx a b Q → (∀ r, Q r → Q' r) → gIx a b Q' := fun a b Q Q' h hq => by
  unfold gIx at h ⊢
  split at h <;> first | exact ⟨h.1, h.2.choose, h.2.choose_spec.1, hq _ h.2.choose_spec.2⟩ | exact ⟨h.choose, h.choose_spec.1, hq _ h.choose_spec.2⟩ | exact h.elim
theorem de_ix (ha : DE X Wx a ta) (hb : DE X Wx b tb) (hs : PlainIx b) : DE X Wx (.Subscript a b pos) (dOp gIx ta tb) := by
  refine ⟨fun B => PE.imp (pe_ix ix_seq (ha.run B) (hb.run B) hs) fun σ H Q hh => ?_, dOp.mono gIx.mono ha.mono hb.mono⟩
  obtain ⟨F, ρ, I, hv⟩ := hh
  refine two_of ha hb I hv fun F2 H2 ρ2 x y da db l I2 vx vy h2 => ?_
  unfold gIx at h2
  split at h2
  · rename_i xs i
    obtain ⟨d, e1, q⟩ := h2
    obtain ⟨p, us, ep, hp, rp⟩ := vx.list I2
    obtain ⟨v, e2, rv⟩ := rp.atI e1
    exact .inl ⟨p, us, i, v, ep, vy.int, .inl hp, e2, q _ _ _ l I2 rv⟩
  · rename_i xs i
    obtain ⟨d, e1, q⟩ := h2
    obtain ⟨p, us, ep, hp, rp, _⟩ := vx.tup I2
    obtain ⟨v, e2, rv⟩ := rp.atI e1
    exact .inr (.inl ⟨p, us, i, v, ep, vy.int, hp, e2, q _ _ _ l I2 rv⟩)
  · rename_i z i
    obtain ⟨hz, c, e1, q⟩ := h2
    exact .inr (.inr ⟨z, i, c, vx.str, vy.int, hz, e1, q _ _ _ l I2 (Rp.str _)⟩)
  · exact h2.elim
abbrev TDO := DEnv → (Option Int → DEnv → Prop) → EK → Prop
def AO (W : Wd) (Wx : WX) (B : Bs) (t : TDO) : TO := fun σ H Q => ∃ F ρ, RE W B F H σ ρ ∧ t ρ (fun b ρ' => ∀ F' H', Le F F' → RE W B F' H' σ ρ' → Q b H') (AX W B F σ Wx)
structure DO (X : Cx) (Wx : WX) (e : Option Expr) (t : TDO) : Prop where
  run : ∀ B, PO X e (AO (wdOf X) Wx B t)
  mono : Mono t
def dNoPart : TDO := fun ρ Q _ => Q none ρ
def dPart (t : TD) : TDO := fun ρ Q E => t ρ (fun r ρ1 => ∃ i, rvData ρ1 r = some (.int i) ∧ Q (some i) ρ1) E
theorem PO.imp {e : Option Expr} {t t' : TO} (h : PO X e t') (f : ∀ σ H Q, t σ H Q → t' σ H Q) : PO X e t := ⟨fun pins s σ H Q I hw => h.run pins s σ H Q I (f σ H Q hw)⟩
theorem do_none : DO X Wx none dNoPart := ⟨fun B => PO.imp po_none fun σ H Q ⟨F, ρ, I, hv⟩ => hv F H (Le.refl F) I, fun ρ Q Q' E E' h hq he => hq _ _ h⟩
theorem do_some (h : DE X Wx e t) : DO X Wx (some e) (dPart t) := by
  refine ⟨fun B => PO.imp (po_some (h.run B)) fun σ H Q hh => ?_, fun ρ Q Q' E E' k hq he => h.mono _ _ _ _ _ k (fun r ρ1 ⟨i, e, q⟩ => ⟨i, e, hq _ _ q⟩) he⟩
  obtain ⟨F, ρ, I, hv⟩ := hh
  exact ⟨F, ρ, I, h.mono _ _ _ _ _ hv (fun r ρ1 ⟨i, e1, q⟩ v F1 H1 l1 I1 ok1 => ⟨i, (view_of I1 ok1 e1).int, q F1 H1 l1 I1⟩) fun _ _ z => z⟩
/-- the items of xs[lo:hi] -/
def cutD {α : Type} (xs : List α) (lo hi : Option Int) : List α := (xs.drop (HT.sIx xs.length 0 lo)).take (HT.sIx xs.length xs.length hi - HT.sIx xs.length 0 lo)
theorem RpAll.cut {W : Wd} {F : Hp} {vs : List V} {ds : List D} (r : RpAll W F vs ds) (lo hi : Option Int) : RpAll W F (cutV vs lo hi) (cutD ds lo hi) := by
  unfold cutV cutD
  rw [r.length]
  exact (r.drop _).take _
theorem cutD_all {α : Type} {xs : List α} {lo hi : Option Int} (h : HT.sIx xs.length 0 lo = 0 ∧ HT.sIx xs.length xs.length hi = xs.length) : cutD xs lo hi = xs := by
  unfold cutD
  rw [h.1, h.2]
  simp
abbrev G3 := D → Option Int → Option Int → (RV → Prop) → Prop
def gSl : G3 := fun a lo hi Q => match a with
  | .list xs => Q (.tmp (.lst (cutD xs lo hi)))
  | .tuple xs => Q (.pure (.tuple (cutD xs lo hi)))
  | .str z => z.length ≤ sizeLine ∧ Q (.pure (.str (Txt.slice z lo hi)))
  | _ => False
def dSl (ta : TD) (tl th : TDO) : TD := fun ρ Q E => ta ρ (fun ra ρ1 => tl ρ1 (fun lo ρ2 => th ρ2 (fun hi ρ3 => ∃ x, rvData ρ3 (frzR ra) = some x ∧ gSl x lo hi fun r => Q r ρ3) E) E) E
theorem gSl.mono : ∀ a lo hi (Q Q' : RV → Prop), gSl a lo hi Q → (∀ r, Q r → Q' r) → gSl a lo hi Q' := fun a lo hi Q Q' h hq => by
  unfold gSl at h ⊢
  split at h <;> first | exact ⟨h.1, hq _ h.2⟩ | exact hq _ h | exact h.elim
theorem cutV_length (vs : List V) (lo hi : Option Int) : (cutV vs lo hi).length ≤ vs.length := by
  unfold cutV
  rw [List.length_take, List.length_drop]
  omega
theorem de_slice {lo hi : Option Expr} {p2 : Pos} {tl th : TDO} (ha : DE X Wx a ta) (hl : DO X Wx lo tl) (hh : DO X Wx hi th) : DE X Wx (.Subscript a (.Slice lo hi none p2) pos) (dSl ta tl th) := by
  refine ⟨fun B => PE.imp (pe_slice (SlR.or sl_list (SlR.or sl_tupA C8.sl_txt)) (ha.run B) (hl.run B) (hh.run B)) fun σ H Q hv => ?_,
    fun ρ Q Q' E E' k hq he => ha.mono _ _ _ _ _ k (fun r ρ1 k1 => hl.mono _ _ _ _ _ k1 (fun lo ρ2 k2 => hh.mono _ _ _ _ _ k2 (fun hi ρ3 ⟨x, e, k3⟩ => ⟨x, e, gSl.mono _ _ _ _ _ k3 fun r => hq _ _⟩) he) he) he⟩
  obtain ⟨F, ρ, I, hv⟩ := hv
  refine ⟨F, ρ, I, ha.mono _ _ _ _ _ hv (fun ra ρ1 h1 v F1 H1 l1 I1 ok1 => ?_) fun _ _ z => z⟩
  obtain ⟨F2, r', l2, I2, ok2, er⟩ := ok1.frz I1
  have er : r' = frzR ra := by rw [er]; cases ra <;> rfl
  subst er
  refine ⟨F2, ρ1, I2, hl.mono _ _ _ _ _ h1 (fun lo ρ2 h2 F3 H3 l3 I3 => ?_) fun _ _ z => AX.le (l1.trans l2) z⟩
  refine ⟨F3, ρ2, I3, hh.mono _ _ _ _ _ h2 (fun hi ρ3 ⟨x, ex, k3⟩ F4 H4 l4 I4 => ?_) fun _ _ z => AX.le (l1.trans (l2.trans l3)) z⟩
  have l : Le F F4 := l1.trans (l2.trans (l3.trans l4))
  have vx := view_of I4 (ok2.keep (frzR_nt ra) (l3.trans l4)) ex
  unfold gSl at k3
  split at k3
  · rename_i xs
    obtain ⟨p, us, ep, hp, rp⟩ := vx.list I4
    refine .inl ⟨p, us, ep, .inl hp, fun q hq => ?_⟩
    obtain ⟨I5, r5⟩ := ok_newobj (o := .lst (cutD xs lo hi)) I4 hq ⟨_, rfl, rp.cut lo hi⟩
    exact k3 _ _ _ l I5 r5
  · rename_i xs
    obtain ⟨p, us, ep, hp, rp, rx⟩ := vx.tup I4
    subst ep
    have le := rp.length
    refine .inr (.inl ⟨p, us, rfl, hp, fun hc => ?_, fun _ q hq => ?_⟩)
    · rw [le] at hc
      rw [cutD_all hc] at k3
      exact k3 _ _ _ l I4 rx
    · obtain ⟨l5, I5, r5⟩ := rp_newtup I4 hq (rp.cut lo hi)
      exact k3 _ _ _ (l.trans l5) I5 r5
  · rename_i z
    exact .inr (.inr ⟨z, vx.str, k3.1, k3.2 _ _ _ l I4 (Rp.str _)⟩)
  · exact k3.elim
abbrev GL := List D → (RV → Prop) → Prop
def Views (W : Wd) (F H : Hp) (vs : List V) (ds : List D) : Prop := Paired (fun v d => View W F H v d) vs ds
structure GCall (X : Cx) (f : Value) (g : GL) : Prop where
  ex : ∃ r, CallR X f r ∧ ∀ (B : Bs) (F H : Hp) (σ : L2.St) (ρ : DEnv) (vs : List V) (ds : List D) (Q : RV → Prop) (Q' : VK), RE (wdOf X) B F H σ ρ → Views (wdOf X) F H vs ds → g ds Q →
    (∀ rr v F' H', Q rr → Le F F' → RE (wdOf X) B F' H' σ ρ → RVok (wdOf X) B F' H' σ ρ v rr → Q' v H') → r vs H Q'
  mono : ∀ ds (Q Q' : RV → Prop), g ds Q → (∀ r, Q r → Q' r) → g ds Q'
def rvDatas (ρ : DEnv) : List RV → Option (List D)
  | [] => some []
  | r :: rs => match rvData ρ r, rvDatas ρ rs with
    | some d, some ds => some (d :: ds)
    | _, _ => none
def dCallG (g : GL) (u : TDA) : TD := fun ρ Q E => u ρ (fun rs ρ1 => ∃ ds, rvDatas ρ1 rs = some ds ∧ g ds fun r => Q r ρ1) E
theorem dCallG.mono {g : GL} (mg : ∀ ds (Q Q' : RV → Prop), g ds Q → (∀ r, Q r → Q' r) → g ds Q') (m : Mono u) : Mono (dCallG g u) := fun ρ Q Q' E E' h hq he =>
  m _ _ _ _ _ h (fun rs ρ1 ⟨ds, e, k⟩ => ⟨ds, e, mg _ _ _ k fun r => hq _ _⟩) he
theorem views_of {W : Wd} {B : Bs} {F H : Hp} {σ : L2.St} {ρ : DEnv} (I : RE W B F H σ ρ) : ∀ {vs : List V} {rs : List RV} {ds : List D}, RVs W B F H σ ρ vs rs → rvDatas ρ rs = some ds → Views W F H vs ds
  | _, _, _, .nil, e => by cases e; exact .nil
  | _, _, _, .cons (r := r) (rs := rs) nt ok k, e => by
    unfold rvDatas at e
    split at e
    · rename_i d ds' e1 e2
      cases e
      exact .cons (view_of I ok e1) (views_of I k e2)
    · cases e
theorem callG_of {f : Value} {g : GL} (hg : GCall X f g) (ha : DA X Wx es u) {B : Bs} : ∃ r, CallR X f r ∧ ∀ σ H Q, AE (wdOf X) Wx B (dCallG g u) σ H Q → tCB r (AA (wdOf X) Wx B u) σ H Q := by
  obtain ⟨r, hr, hs⟩ := hg.ex
  refine ⟨r, hr, fun σ H Q hh => ?_⟩
  obtain ⟨F, ρ, I, hv⟩ := hh
  exact ⟨F, ρ, I, ha.mono _ _ _ _ _ hv (fun rs ρ1 ⟨ds, e, k⟩ vs F1 H1 l1 I1 ok1 => hs B F1 H1 σ ρ1 vs ds _ Q I1 (views_of I1 ok1 e) k fun rr v F' H' q l' I' okr => q v F' H' (l1.trans l') I' okr) fun _ _ z => z⟩
theorem de_callB_ {x : Str} {id : String} {g : GL} (hg : GCall X (.builtin id) g) (hgl : Gl X x) (hm : X.mg x = none) (hv : bootBuiltins x = some (.builtin id)) (ha : DA X Wx (e :: es) u)
    (hn : x ≠ "__name__" := by decide) (hdb : (x == ("__debug__" : Str)) = false := by decide)
    (he : starEach (e :: es) X.env = (false, eval e X.env) :: starEach es X.env := by rfl) (hpl : (backTo pos (starEach es X.env)).any (·.1) = false := by rfl) :
    DE X Wx (.Call (.Name x p) (e :: es) [] pos) (dCallG g u) := by
  refine ⟨fun B => ?_, dCallG.mono hg.mono ha.mono⟩
  obtain ⟨r, hr, hs⟩ := callG_of hg ha (B := B)
  exact PE.imp (pe_callB hr hgl hm hv (ha.run B) hn hdb he hpl) hs
theorem de_callT_ {x : Str} {T : String} {g : GL} (hg : GCall X (.type T) g) (hgl : Gl X x) (hm : X.mg x = none) (hv : bootBuiltins x = some (.type T)) (ha : DA X Wx (e :: es) u)
    (hn : x ≠ "__name__" := by decide) (hdb : (x == ("__debug__" : Str)) = false := by decide)
    (he : starEach (e :: es) X.env = (false, eval e X.env) :: starEach es X.env := by rfl) (hpl : (backTo pos (starEach es X.env)).any (·.1) = false := by rfl) :
    DE X Wx (.Call (.Name x p) (e :: es) [] pos) (dCallG g u) := by
  refine ⟨fun B => ?_, dCallG.mono hg.mono ha.mono⟩
  obtain ⟨r, hr, hs⟩ := callG_of hg ha (B := B)
  exact PE.imp (pe_callTy hr hgl hm hv (ha.run B) hn hdb he hpl) hs
end
end DL
set_option Elab.async false
set_option linter.all false
set_option maxRecDepth 100000
set_option maxHeartbeats 4000000
namespace DL
open PySem PySem.Spec L2
open PyProof.Rows hiding St
section
variable {X : Cx} {Wx : WX} {a b e : Expr} {es : List Expr} {pos p : Pos} {t ta tb : TD} {u : TDA}
theorem Views.one {W : Wd} {F H : Hp} {vs : List V} {d : D} (h : Views W F H vs [d]) : ∃ v, vs = [v] ∧ View W F H v d := by
  cases h with
  | cons a b => cases b; exact ⟨_, rfl, a⟩
theorem Views.two {W : Wd} {F H : Hp} {vs : List V} {d d' : D} (h : Views W F H vs [d, d']) : ∃ v v', vs = [v, v'] ∧ View W F H v d ∧ View W F H v' d' := by
  cases h with
  | cons a b => cases b with
    | cons b c => cases c; exact ⟨_, _, rfl, a, b⟩
theorem Views.nil {W : Wd} {F H : Hp} {vs : List V} (h : Views W F H vs []) : vs = [] := by cases h; rfl
def intsOf : List D → Option (List Int)
  | [] => some []
  | .int i :: r => (intsOf r).map (i :: ·)
  | _ => none
theorem RpAll.ints {W : Wd} {F : Hp} : ∀ {vs : List V} {ds : List D} {ns : List Int}, RpAll W F vs ds → intsOf ds = some ns → vs = ns.map V.int
  | _, _, _, .nil, e => by cases e; rfl
  | _, _, _, .cons (d := d) a r, e => by
    cases d with
    | int i =>
      obtain ⟨ns', e1, e2⟩ := Option.map_eq_some_iff.mp (show (intsOf _).map (i :: ·) = _ from e)
      subst e2
      cases a
      rw [r.ints e1]
      rfl
    | _ => cases e
def bolsOf : List D → Option (List Bool)
  | [] => some []
  | .bool i :: r => (bolsOf r).map (i :: ·)
  | _ => none
theorem RpAll.bols {W : Wd} {F : Hp} : ∀ {vs : List V} {ds : List D} {ns : List Bool}, RpAll W F vs ds → bolsOf ds = some ns → vs = ns.map V.bl
  | _, _, _, .nil, e => by cases e; rfl
  | _, _, _, .cons (d := d) a r, e => by
    cases d with
    | bool i =>
      obtain ⟨ns', e1, e2⟩ := Option.map_eq_some_iff.mp (show (bolsOf _).map (i :: ·) = _ from e)
      subst e2
      cases a
      rw [r.bols e1]
      rfl
    | _ => cases e
theorem View.seq {W : Wd} {B : Bs} {F H : Hp} {σ : L2.St} {ρ : DEnv} {v : V} (I : RE W B F H σ ρ) {ds : List D} {d : D} (h : View W F H v d) (e : d = .list ds ∨ d = .tuple ds) : ∃ a xs, v = .ref a ∧ (SqL W.K H a xs ∨ SqT W.K H a xs) ∧ RpAll W F xs ds := by
  rcases e with rfl | rfl
  · obtain ⟨p, us, ep, hp, rp⟩ := h.list I
    exact ⟨p, us, ep, .inl (.inl hp), rp⟩
  · obtain ⟨p, us, ep, hp, rp, _⟩ := h.tup I
    exact ⟨p, us, ep, .inr hp, rp⟩
def gLen : GL := fun ds Q => match ds with
  | [.list xs] => Q (.pure (.int xs.length))
  | [.tuple xs] => Q (.pure (.int xs.length))
  | [.str z] => z.length ≤ sizeLine ∧ Q (.pure (.int z.length))
  | _ => False
theorem g_len : GCall X (.builtin "len") gLen where
  mono := fun ds Q Q' h hq => by unfold gLen at h ⊢; split at h <;> first | exact hq _ h | exact ⟨h.1, hq _ h.2⟩ | exact h.elim
  ex := by
    refine ⟨_, call_len, fun B F H σ ρ vs ds Q Q' I vv h k => ?_⟩
    unfold gLen at h
    split at h
    · obtain ⟨v, ev, w⟩ := vv.one
      obtain ⟨p, us, ep, hp, rp⟩ := w.list I
      subst ep
      exact ⟨_, _, ev, .inl ⟨us, .inl hp, rfl⟩, k _ _ _ _ h (Le.refl F) I (by rw [rp.length]; exact Rp.int _)⟩
    · obtain ⟨v, ev, w⟩ := vv.one
      obtain ⟨p, us, ep, hp, rp, _⟩ := w.tup I
      subst ep
      exact ⟨_, _, ev, .inr ⟨us, hp, rfl⟩, k _ _ _ _ h (Le.refl F) I (by rw [rp.length]; exact Rp.int _)⟩
    · obtain ⟨v, ev, w⟩ := vv.one
      have w := w.str
      subst w
      exact ⟨_, _, ev, ⟨h.1, rfl⟩, k _ _ _ _ h.2 (Le.refl F) I (Rp.int _)⟩
    · exact h.elim
def gAbs : GL := fun ds Q => match ds with
  | [.int i] => Q (.pure (.int (if i < 0 then -i else i)))
  | _ => False
theorem g_abs : GCall X (.builtin "abs") gAbs where
  mono := fun ds Q Q' h hq => by unfold gAbs at h ⊢; split at h <;> first | exact hq _ h | exact h.elim
  ex := by
    refine ⟨_, call_abs, fun B F H σ ρ vs ds Q Q' I vv h k => ?_⟩
    unfold gAbs at h
    split at h
    · obtain ⟨v, ev, w⟩ := vv.one
      have w := w.int
      subst w
      exact ⟨_, ev, k _ _ _ _ h (Le.refl F) I (Rp.int _)⟩
    · exact h.elim
def gInt : GL := fun ds Q => match ds with
  | [.int i] => Q (.pure (.int i))
  | [.bool b] => Q (.pure (.int (if b = true then 1 else 0)))
  | _ => False
theorem g_int : GCall X (.type "int") gInt where
  mono := fun ds Q Q' h hq => by unfold gInt at h ⊢; split at h <;> first | exact hq _ h | exact h.elim
  ex := by
    refine ⟨_, call_int1, fun B F H σ ρ vs ds Q Q' I vv h k => ?_⟩
    unfold gInt at h
    split at h
    · obtain ⟨v, ev, w⟩ := vv.one
      have w := w.int
      subst w
      exact .inl ⟨_, ev, k _ _ _ _ h (Le.refl F) I (Rp.int _)⟩
    · obtain ⟨v, ev, w⟩ := vv.one
      have w := w.bool
      subst w
      exact .inr ⟨_, ev, k _ _ _ _ h (Le.refl F) I (Rp.int _)⟩
    · exact h.elim
def gMax2 : GL := fun ds Q => match ds with
  | [.int i, .int j] => Q (.pure (.int (if j > i then j else i)))
  | _ => False
theorem g_max2 (hc : X.calm = true) : GCall X (.builtin "max") gMax2 where
  mono := fun ds Q Q' h hq => by unfold gMax2 at h ⊢; split at h <;> first | exact hq _ h | exact h.elim
  ex := by
    refine ⟨_, call_max2 hc, fun B F H σ ρ vs ds Q Q' I vv h k => ?_⟩
    unfold gMax2 at h
    split at h
    · obtain ⟨v, v', ev, w, w'⟩ := vv.two
      have w := w.int
      have w' := w'.int
      subst w w'
      exact ⟨_, _, ev, k _ _ _ _ h (Le.refl F) I (Rp.int _)⟩
    · exact h.elim
def gMin2 : GL := fun ds Q => match ds with
  | [.int i, .int j] => Q (.pure (.int (if j < i then j else i)))
  | _ => False
theorem g_min2 (hc : X.calm = true) : GCall X (.builtin "min") gMin2 where
  mono := fun ds Q Q' h hq => by unfold gMin2 at h ⊢; split at h <;> first | exact hq _ h | exact h.elim
  ex := by
    refine ⟨_, call_min2 hc, fun B F H σ ρ vs ds Q Q' I vv h k => ?_⟩
    unfold gMin2 at h
    split at h
    · obtain ⟨v, v', ev, w, w'⟩ := vv.two
      have w := w.int
      have w' := w'.int
      subst w w'
      exact ⟨_, _, ev, k _ _ _ _ h (Le.refl F) I (Rp.int _)⟩
    · exact h.elim
/-- sum, max, all of a list -/
def gSum : GL := fun ds Q => match ds with
  | [.list xs] => ∃ ns, intsOf xs = some ns ∧ Q (.pure (.int ns.sum))
  | _ => False
def gMaxL : GL := fun ds Q => match ds with
  | [.list xs] => ∃ ns, intsOf xs = some ns ∧ 0 < ns.length ∧ ∀ m, m ∈ ns → (∀ y, y ∈ ns → y ≤ m) → Q (.pure (.int m))
  | _ => False
def gAll : GL := fun ds Q => match ds with
  | [.list xs] => ∃ ns, bolsOf xs = some ns ∧ Q (.pure (.bool (ns.all id)))
  | _ => False
theorem g_sum (hc : X.calm = true) : GCall X (.builtin "sum") gSum where
  mono := fun ds Q Q' h hq => by unfold gSum at h ⊢; split at h <;> first | (obtain ⟨n, e, q⟩ := h; exact ⟨n, e, hq _ q⟩) | exact h.elim
  ex := by
    refine ⟨_, cr_sum hc, fun B F H σ ρ vs ds Q Q' I vv h k => ?_⟩
    unfold gSum at h
    split at h
    · obtain ⟨ns, e, q⟩ := h
      obtain ⟨v, ev, w⟩ := vv.one
      obtain ⟨p, us, ep, hp, rp⟩ := w.list I
      subst ep
      rw [rp.ints e] at hp
      exact ⟨_, ns, ev, .inl hp, k _ _ _ _ q (Le.refl F) I (Rp.int _)⟩
    · exact h.elim
theorem g_maxL (hc : X.calm = true) : GCall X (.builtin "max") gMaxL where
  mono := fun ds Q Q' h hq => by unfold gMaxL at h ⊢; split at h <;> first | (obtain ⟨n, e, l, q⟩ := h; exact ⟨n, e, l, fun m hm hy => hq _ (q m hm hy)⟩) | exact h.elim
  ex := by
    refine ⟨_, cr_max hc, fun B F H σ ρ vs ds Q Q' I vv h k => ?_⟩
    unfold gMaxL at h
    split at h
    · obtain ⟨ns, e, l, q⟩ := h
      obtain ⟨v, ev, w⟩ := vv.one
      obtain ⟨p, us, ep, hp, rp⟩ := w.list I
      subst ep
      rw [rp.ints e] at hp
      exact ⟨_, ns, ev, .inl hp, l, fun m hm hy => k _ _ _ _ (q m hm hy) (Le.refl F) I (Rp.int _)⟩
    · exact h.elim
theorem g_all (hc : X.calm = true) : GCall X (.builtin "all") gAll where
  mono := fun ds Q Q' h hq => by unfold gAll at h ⊢; split at h <;> first | (obtain ⟨n, e, q⟩ := h; exact ⟨n, e, hq _ q⟩) | exact h.elim
  ex := by
    refine ⟨_, cr_all hc, fun B F H σ ρ vs ds Q Q' I vv h k => ?_⟩
    unfold gAll at h
    split at h
    · obtain ⟨ns, e, q⟩ := h
      obtain ⟨v, ev, w⟩ := vv.one
      obtain ⟨p, us, ep, hp, rp⟩ := w.list I
      subst ep
      rw [rp.bols e] at hp
      exact ⟨_, ns, ev, .inl hp, k _ _ _ _ q (Le.refl F) I (Rp.bl _)⟩
    · exact h.elim
/-- sum of a tuple or a list -/
def gList : GL := fun ds Q => match ds with
  | [.list xs] => Q (.tmp (.lst xs))
  | [.tuple xs] => Q (.tmp (.lst xs))
  | _ => False
theorem g_list : GCall X (.type "list") gList where
  mono := fun ds Q Q' h hq => by unfold gList at h ⊢; split at h <;> first | exact hq _ h | exact h.elim
  ex := by
    refine ⟨_, call_list_of, fun B F H σ ρ vs ds Q Q' I vv h k => ?_⟩
    have main : ∀ {xs : List D} {d : D}, ds = [d] → (d = .list xs ∨ d = .tuple xs) → Q (.tmp (.lst xs)) → ∃ p ys, vs = [.ref p] ∧ (SqL X.K H p ys ∨ SqT X.K H p ys) ∧ ∀ l, H l = none → Q' (.ref l) (L2.upd H l (.lst ys)) := fun {xs d} e hd q => by
      subst e
      obtain ⟨v, ev, w⟩ := vv.one
      obtain ⟨p, us, ep, hp, rp⟩ := w.seq I hd
      subst ep
      refine ⟨p, us, ev, hp, fun l hl => ?_⟩
      obtain ⟨I2, r2⟩ := ok_newobj (o := .lst xs) I hl ⟨us, rfl, rp⟩
      exact k _ _ _ _ q (Le.refl F) I2 r2
    unfold gList at h
    split at h
    · exact main rfl (.inl rfl) h
    · exact main rfl (.inr rfl) h
    · exact h.elim
def gTuple : GL := fun ds Q => match ds with
  | [.list xs] => Q (.pure (.tuple xs))
  | [.tuple xs] => Q (.pure (.tuple xs))
  | _ => False
theorem g_tuple : GCall X (.type "tuple") gTuple where
  mono := fun ds Q Q' h hq => by unfold gTuple at h ⊢; split at h <;> first | exact hq _ h | exact h.elim
  ex := by
    refine ⟨_, call_tuple_of, fun B F H σ ρ vs ds Q Q' I vv h k => ?_⟩
    unfold gTuple at h
    split at h
    · obtain ⟨v, ev, w⟩ := vv.one
      obtain ⟨p, us, ep, hp, rp⟩ := w.list I
      subst ep
      refine ⟨p, us, ev, .inl ⟨.inl hp, fun l hl => ?_⟩⟩
      obtain ⟨l2, I2, r2⟩ := rp_newtup I hl rp
      exact k _ _ _ _ h l2 I2 r2
    · obtain ⟨v, ev, w⟩ := vv.one
      obtain ⟨p, us, ep, hp, rp, rx⟩ := w.tup I
      subst ep
      exact ⟨p, us, ev, .inr ⟨hp, k _ _ _ _ h (Le.refl F) I rx⟩⟩
    · exact h.elim
/-- the value's type is t -/
def KTy (X : Cx) (H : Hp) (x : V) (t : Value) : Prop := ∀ (pins : List (Addr × Obj)) (σ : L2.St) (s : Shared) (u : Value), Inv X pins σ H s → RelV x u → ∃ P : Heap → Prop, PySem.W.KitX X.K u t P ∧ P s.heap ∧ u ≠ .builtin "__main__.__loader__#opaque"
theorem call_isiD : CallR X (.builtin "isinstance") (fun xs H Q => ∃ x c t u b, xs = [x, c] ∧ ClsV c u ∧ KTy X H x t ∧ PySem.W.kitOne X.K t u = some b ∧ Q (.bl b) H) := by
  intro pins s σ H xs us Q I r h
  obtain ⟨x, c, t, u, b, rfl, k, ty, e, q⟩ := h
  obtain ⟨u1, u2, rfl, r1, r2⟩ := vals2 r
  have e2 := k.eq r2
  subst e2
  obtain ⟨P, Z, p, hx⟩ := ty pins σ s u1 I r1
  exact PySem.W.kia_one Z I.kIn p e hx fun tk => ⟨.bl b, H, I.tok tk, rfl, q⟩
theorem call_isiTD : CallR X (.builtin "isinstance") (fun xs H Q => ∃ x tp cs t us b, xs = [x, .ref tp] ∧ H tp = some (.tup cs) ∧ Paired ClsV cs us ∧ KTy X H x t ∧ PySem.W.kitAny X.K t us = some b ∧ Q (.bl b) H) := by
  intro pins s σ H xs us Q I r h
  obtain ⟨x, tp, cs, t, ws, b, rfl, hT, k, ty, e, q⟩ := h
  obtain ⟨u1, u2, rfl, r1, r2⟩ := vals2 r
  cases (show u2 = Value.ref tp from r2)
  obtain ⟨P, Z, p, hx⟩ := ty pins σ s u1 I r1
  obtain ⟨_, its, rv, o, h1, h2, n, h3⟩ := (show ObjOk X.prog X.w H s.heap tp (.tup cs) from I.hok tp _ hT)
  have e3 := ClsV.all k rv
  subst e3
  obtain ⟨oc, od, dt, sl⟩ := o
  simp only at h2 h3
  subst h2 h3
  exact PySem.W.kia_tup Z I.kIn p h1 e hx fun tk => ⟨.bl b, H, I.tok tk, rfl, q⟩
def tyD : D → String
  | .none => "NoneType"
  | .bool _ => "bool"
  | .int _ => "int"
  | .str _ => "str"
  | .list _ => "list"
  | .tuple _ => "tuple"
  | .dict _ => "dict"
theorem KTy.of {H : Hp} {x : V} {t : Value} (h : TyX X.K H x t) : KTy X H x t := fun pins σ s u I r => kit_of I r h
theorem View.ty {B : Bs} {F H : Hp} {σ : L2.St} {ρ : DEnv} {v : V} {d : D} (I : RE (wdOf X) B F H σ ρ) (h : View (wdOf X) F H v d) : KTy X H v (.type (tyD d)) := by
  cases d with
  | none => rw [h.non]; exact .of (.base .non)
  | bool b => rw [h.bool]; exact .of (.base (.bl b))
  | int i => rw [h.int]; exact .of (.base (.int i))
  | str x => rw [h.str]; exact .of (.base (.str x))
  | list xs =>
    obtain ⟨p, us, ep, hp, rp⟩ := h.list I
    subst ep
    rcases hp with q | ⟨o, q⟩
    · exact .of (.base (.lst q))
    · exact .of (.base (.frz q))
  | tuple xs =>
    obtain ⟨p, us, ep, hp, rp, _⟩ := h.tup I
    subst ep
    rcases hp with (q | ⟨o, q⟩) | ⟨o, its, n, q, c, _⟩
    · exact .of (.base (.tup q))
    · exact .of (.fTuple q)
    · exact .of (.kTuple q c)
  | dict kvs =>
    obtain ⟨p, us, ep, hp, rp⟩ := h.dict I
    subst ep
    intro pins σ' s u I' r
    cases (show u = Value.ref p from r)
    obtain ⟨⟨_, _, ys, _, o, es, ep, ho, hx, _⟩, _⟩ := hp.ok I'.hok
    exact ⟨_, PySem.W.kitx_dict, ⟨o, ho, hx.1⟩, fun z => nomatch z⟩
/-- is a value of the type T -/
def isT (d : D) (T : String) : Bool := tyD d == T || (match d with
  | .bool _ => T == "int"
  | _ => false)
theorem isT_kit {K : PySem.W.Frag} {d : D} {T : String} (h : T ∈ ["int", "bool", "str", "list", "tuple", "dict"]) : PySem.W.kitOne K (.type (tyD d)) (.type T) = some (isT d T) := by
  apply kit_ty
  simp only [List.mem_cons, List.not_mem_nil, or_false] at h
  rcases h with rfl | rfl | rfl | rfl | rfl | rfl <;> cases d <;> (simp only [tyD, isT]; decide +kernel)
def dIsi (T : String) (t : TD) : TD := fun ρ Q E => t ρ (fun r ρ1 => ∃ d, rvData ρ1 r = some d ∧ Q (.pure (.bool (isT d T))) ρ1) E
theorem de_isi {T : String} {e1 e2 : Expr} (hg : Gl X "isinstance") (hm : X.mg "isinstance" = none) (hT : T ∈ ["int", "bool", "str", "list", "tuple", "dict"]) (he : DE X Wx e1 t) (h2 : PE X e2 (tC (.ty T)))
    (hs : starEach (e1 :: [e2]) X.env = (false, eval e1 X.env) :: starEach [e2] X.env := by rfl) (hs2 : starEach (e2 :: []) X.env = (false, eval e2 X.env) :: starEach [] X.env := by rfl) (hpl : (backTo pos (starEach [e2] X.env)).any (·.1) = false := by rfl) :
    DE X Wx (.Call (.Name "isinstance" p) [e1, e2] [] pos) (dIsi T t) := by
  refine ⟨fun B => PE.imp (pe_callB (X := X) call_isiD hg hm (by kernel_rfl) (pa_cons (he.run B) (pa_cons h2 pa_nil hs2) hs) (by decide) (by decide) hs hpl) fun σ H Q hh => ?_, fun ρ Q Q' E E' k hq hE => he.mono _ _ _ _ _ k (fun r ρ1 ⟨d, e, q⟩ => ⟨d, e, hq _ _ q⟩) hE⟩
  obtain ⟨F, ρ, I, hv⟩ := hh
  refine ⟨F, ρ, I, he.mono _ _ _ _ _ hv (fun r ρ1 ⟨d, e, q⟩ v F1 H1 l1 I1 ok1 => ?_) fun _ _ z => z⟩
  exact ⟨v, .ty T, .type (tyD d), .type T, _, rfl, .ty T, (view_of I1 ok1 e).ty I1, isT_kit hT, q _ F1 H1 l1 I1 (Rp.bl _)⟩
def isAny (d : D) : List String → Bool
  | [] => false
  | T :: Ts => isT d T || isAny d Ts
theorem isAny_kit {K : PySem.W.Frag} {d : D} : ∀ {Ts : List String}, (∀ T ∈ Ts, T ∈ ["int", "bool", "str", "list", "tuple", "dict"]) → PySem.W.kitAny K (.type (tyD d)) (Ts.map Value.type) = some (isAny d Ts)
  | [], _ => rfl
  | T :: Ts, h => by
    refine kitAny_cons (b := isT d T) (isT_kit (h T List.mem_cons_self)) (fun hb => ?_) fun hb => ?_
    · rw [isAny_kit fun S hS => h S (List.mem_cons_of_mem _ hS)]
      show some _ = some (isT d T || isAny d Ts)
      rw [hb, Bool.false_or]
    · show (isT d T || isAny d Ts) = true
      rw [hb, Bool.true_or]
def dIsiT (Ts : List String) (t : TD) : TD := fun ρ Q E => t ρ (fun r ρ1 => ∃ d, rvData ρ1 r = some d ∧ Q (.pure (.bool (isAny d Ts))) ρ1) E
/-- an expression list whose values are given types -/
def tTys (Ts : List String) : TA := fun _ H Q => Q (Ts.map V.ty) H
theorem clsV_all : ∀ Ts : List String, Paired ClsV (Ts.map V.ty) (Ts.map Value.type)
  | [] => .nil
  | T :: Ts => .cons (.ty T) (clsV_all Ts)
theorem pa_tys0 : PA X [] (tTys []) := pa_nil
theorem pa_tys1 {T : String} {Ts : List String} (h : PE X e (tC (.ty T))) (hr : PA X es (tTys Ts)) (hst : starEach (e :: es) X.env = (false, eval e X.env) :: starEach es X.env := by rfl) : PA X (e :: es) (tTys (T :: Ts)) :=
  PA.imp (pa_cons h hr hst) fun σ H Q hh => hh
theorem de_isiT {Ts : List String} {e1 : Expr} {tes : List Expr} {x1 : Nat} {tpos : Pos} (hg : Gl X "isinstance") (hm : X.mg "isinstance" = none) (hT : ∀ T ∈ Ts, T ∈ ["int", "bool", "str", "list", "tuple", "dict"]) (hz : Ts.length ≤ 64) (he : DE X Wx e1 t) (h2 : PA X tes (tTys Ts))
    (hs : starEach (e1 :: [.Tuple tes x1 tpos]) X.env = (false, eval e1 X.env) :: starEach [.Tuple tes x1 tpos] X.env := by rfl) (hs2 : starEach (Expr.Tuple tes x1 tpos :: []) X.env = (false, eval (.Tuple tes x1 tpos) X.env) :: starEach [] X.env := by rfl) (hpl : (backTo pos (starEach [Expr.Tuple tes x1 tpos] X.env)).any (·.1) = false := by rfl) :
    DE X Wx (.Call (.Name "isinstance" p) [e1, .Tuple tes x1 tpos] [] pos) (dIsiT Ts t) := by
  refine ⟨fun B => PE.imp (pe_callB (X := X) call_isiTD hg hm (by kernel_rfl) (pa_cons (he.run B) (pa_cons (pe_tup h2) pa_nil hs2) hs) (by decide) (by decide) hs hpl) fun σ H Q hh => ?_, fun ρ Q Q' E E' k hq hE => he.mono _ _ _ _ _ k (fun r ρ1 ⟨d, e, q⟩ => ⟨d, e, hq _ _ q⟩) hE⟩
  obtain ⟨F, ρ, I, hv⟩ := hh
  refine ⟨F, ρ, I, he.mono _ _ _ _ _ hv (fun r ρ1 ⟨d, e, q⟩ v F1 H1 l1 I1 ok1 => ?_) fun _ _ z => z⟩
  refine ⟨by rw [List.length_map, sizeLine_eq]; omega, fun q' hq' => ?_⟩
  have I2 : RE (wdOf X) B F1 (L2.upd H1 q' (.tup (Ts.map V.ty))) σ ρ1 := I1.laid hq'
  obtain ⟨F2, r2, l2, I2', ok2, er⟩ := ok1.frz I1
  have vw : View (wdOf X) F1 (L2.upd H1 q' (.tup (Ts.map V.ty))) v d := by
    have w := view_of I1 ok1 e
    cases w with
    | rp h => exact .rp h
    | own f h r => exact .own f (by rw [upd_ne (ne_of_none h hq')]; exact h) r
  exact ⟨v, q', _, .type (tyD d), _, _, rfl, upd_same, clsV_all Ts, vw.ty I2, isAny_kit hT, q _ _ _ l1 I2 (Rp.bl _)⟩
def dAppend (i : Nat) (t : TD) : TD := fun ρ Q E => (∃ ds, HasD ρ i (.own (.lst ds))) ∧ t ρ (fun r ρ1 => keepR r ρ1 fun d ρ2 => ∃ ds, HasD ρ2 i (.own (.lst ds)) ∧ ds.length < sizeLine ∧ Q (.pure .none) (ρ2.set i (some (.own (.lst (ds ++ [d])))))) E
theorem own_lst {W : Wd} {B : Bs} {F H : Hp} {σ : L2.St} {ρ : DEnv} {i : Nat} {ds : List D} (I : RE W B F H σ ρ) (hd : HasD ρ i (.own (.lst ds))) : ∃ a xs, HasV σ i (.ref a) ∧ F a = none ∧ H a = some (.lst xs) ∧ RpAll W F xs ds := by
  obtain ⟨v, e1, a, y, ev, f, hh, xs, eu, ra⟩ := I.sl i _ hd
  subst ev
  subst eu
  exact ⟨a, xs, e1, f, hh, ra⟩
theorem HasV.inj {σ : L2.St} {i : Nat} {v w : V} (h : HasV σ i v) (h' : HasV σ i w) : v = w := by
  unfold HasV at h h'
  rw [h] at h'
  cases h'
  rfl
theorem de_append {i : Nat} {o : Expr} {apos cpos : Pos} (ho : PE X o (tVar i)) (he : DE X Wx e t) (hbase : attributeBase o "append" X.env (eval o X.env) = eval o X.env := by rfl)
    (hfew : ((backTo cpos (starEach (e :: []) X.env)).all (fun x => !x.1) && (backToKw cpos (keywordEach [] X.env)).all (fun x => x.1.isSome)
      && decide ((e :: []).length + ([] : List Keyword).length + (if ([] : List Keyword).isEmpty then 0 else 1) < 30)) = true := by rfl)
    (hline : (apos.endLine == cpos.line) = true := by rfl) (hs : starEach (e :: []) X.env = (false, eval e X.env) :: starEach [] X.env := by rfl) (hplain : (backTo cpos (starEach [] X.env)).any (·.1) = false := by rfl) :
    DE X Wx (.Call (.Attribute o "append" apos) [e] [] cpos) (dAppend i t) := by
  refine ⟨fun B => PE.imp (pe_bm PySem.F.plainAttrs_list PySem.F.slot_list_append PySem.F.type_list_append mt_append ho (pa_cons (he.run B) pa_nil hs) hbase hfew hline hs hplain) fun σ H Q hh => ?_,
    fun ρ Q Q' E E' k hq hE => ⟨k.1, he.mono _ _ _ _ _ k.2 (fun r ρ1 k1 => keepR.mono k1 fun d ρ2 ⟨ds, h1, h2, q⟩ => ⟨ds, h1, h2, hq _ _ q⟩) hE⟩⟩
  obtain ⟨F, ρ, I, ⟨ds0, hd0⟩, hv⟩ := hh
  obtain ⟨a, xs, e1, f, hh, ra⟩ := own_lst I hd0
  refine ⟨.ref a, e1, .inl ⟨rfl, xs, .inl (.inl hh)⟩, F, ρ, I, he.mono _ _ _ _ _ hv (fun r ρ1 k v F1 H1 l1 I1 ok1 => ?_) fun _ _ z => z⟩
  obtain ⟨F2, ρ2, d, l2, I2, rp, ds, hd, hl, q⟩ := keep_of I1 ok1 k
  obtain ⟨a', xs', e1', f', hh', ra'⟩ := own_lst I2 hd
  cases HasV.inj e1 e1'
  exact ⟨a, xs', v, rfl, rfl, hh', by rw [ra'.length]; exact hl, q _ F2 _ (l1.trans l2) (I2.write hd e1 (ob' := .lst (ds ++ [d])) ⟨_, rfl, ra'.append (.cons rp .nil)⟩) Rp.non⟩
/-- found.extend([..]) -/
def dExtend (i : Nat) (t : TD) : TD := fun ρ Q E => (∃ ds, HasD ρ i (.own (.lst ds))) ∧ t ρ (fun r ρ1 => match r with
  | .tmp (.lst es) => ∃ ds, HasD ρ1 i (.own (.lst ds)) ∧ ds.length + es.length ≤ sizeLine ∧ Q (.pure .none) (ρ1.set i (some (.own (.lst (ds ++ es)))))
  | _ => False) E
theorem de_extend {i : Nat} {o : Expr} {apos cpos : Pos} (ho : PE X o (tVar i)) (he : DE X Wx e t) (hbase : attributeBase o "extend" X.env (eval o X.env) = eval o X.env := by rfl)
    (hfew : ((backTo cpos (starEach (e :: []) X.env)).all (fun x => !x.1) && (backToKw cpos (keywordEach [] X.env)).all (fun x => x.1.isSome)
      && decide ((e :: []).length + ([] : List Keyword).length + (if ([] : List Keyword).isEmpty then 0 else 1) < 30)) = true := by rfl)
    (hline : (apos.endLine == cpos.line) = true := by rfl) (hs : starEach (e :: []) X.env = (false, eval e X.env) :: starEach [] X.env := by rfl) (hplain : (backTo cpos (starEach [] X.env)).any (·.1) = false := by rfl) :
    DE X Wx (.Call (.Attribute o "extend" apos) [e] [] cpos) (dExtend i t) := by
  refine ⟨fun B => PE.imp (pe_bm PySem.F.plainAttrs_list PySem.F.slot_list_extend PySem.F.type_list_extend mt_extend ho (pa_cons (he.run B) pa_nil hs) hbase hfew hline hs hplain) fun σ H Q hh => ?_,
    fun ρ Q Q' E E' k hq hE => ⟨k.1, he.mono _ _ _ _ _ k.2 (fun r ρ1 k1 => ?_) hE⟩⟩
  · obtain ⟨F, ρ, I, ⟨ds0, hd0⟩, hv⟩ := hh
    obtain ⟨a, xs, e1, f, hh, ra⟩ := own_lst I hd0
    refine ⟨.ref a, e1, .inl ⟨rfl, xs, .inl (.inl hh)⟩, F, ρ, I, he.mono _ _ _ _ _ hv (fun r ρ1 k v F1 H1 l1 I1 ok1 => ?_) fun _ _ z => z⟩
    split at k
    · rename_i es
      obtain ⟨ds, hd, hl, q⟩ := k
      obtain ⟨b, u, ev, fb, hb, ⟨zs, eu, rz⟩, _⟩ := ok1
      subst ev
      subst eu
      obtain ⟨a', xs', e1', f', hh', ra'⟩ := own_lst I1 hd
      cases HasV.inj e1 e1'
      exact ⟨a, b, xs', zs, rfl, rfl, hh', hb, by rw [ra'.length, rz.length]; exact hl, q _ F1 _ l1 (I1.write hd e1 (ob' := .lst (ds ++ es)) ⟨_, rfl, ra'.append rz⟩) Rp.non⟩
    · exact k.elim
  · split at k1
    · obtain ⟨ds, h1, h2, q⟩ := k1
      exact ⟨ds, h1, h2, hq _ _ q⟩
    · exact k1.elim
def dgItem (i : Nat) (ti : TD) : TDG := fun r ρ Q => keepR r ρ fun d ρ1 => (∃ ds, HasD ρ1 i (.own (.lst ds))) ∧ ti ρ1 (fun rk ρ2 => ∃ ds k j, HasD ρ2 i (.own (.lst ds)) ∧ rvData ρ2 rk = some (.int k) ∧ ixN ds.length k = some j ∧ Q (ρ2.set i (some (.own (.lst (ds.set j d)))))) fun _ _ => False
theorem dg_item {ios : List Nat} {i : Nat} {o k : Expr} {ti : TD} (ho : PE X o (tVar i)) (hi : DE X W0 k ti)
    (ha : ∀ v, assign (.Subscript o k pos) X.env v = (do
      let ov ← holding [v] (eval o X.env)
      let iv ← holding [v, ov] (eval k X.env)
      standAt pos
      holding [v, ov, iv] (setItem ov iv v)
      release [v, ov, iv] []) := by intro _; rfl) : DG X ios (.Subscript o k pos) (dgItem i ti) := by
  refine ⟨fun B hb => ⟨fun pins s σ H v u Q I0 r hh => ?_⟩, fun r ρ Q Q' kk hq => keepR.mono kk fun d ρ1 k1 => ⟨k1.1, hi.mono _ _ _ _ _ k1.2 (fun rk ρ2 ⟨ds, k, j, h1, h2, h3, q⟩ => ⟨ds, k, j, h1, h2, h3, hq _ q⟩) fun _ _ z => z⟩⟩
  obtain ⟨F, ρ, r0, I, ok, hv⟩ := hh
  obtain ⟨F1, ρ1, d, l1, I1, rp, ⟨ds0, hd0⟩, k1⟩ := keep_of I ok hv
  obtain ⟨a, xs, e1, f, hh, ra⟩ := own_lst I1 hd0
  refine (pg_sub (t := rSetL) ho (hi.run { B with F := F1 }) set_list ha).run pins s σ H v u Q I0 r ⟨.ref a, e1, F1, ρ1, I1.reF, hi.mono _ _ _ _ _ k1 (fun rk ρ2 ⟨ds, k, j, hd, ek, hj, q⟩ w F2 H2 l2 I2 ok2 => ?_) fun _ _ z => z.elim⟩
  obtain ⟨a', xs', e1', f', hh', ra'⟩ := own_lst I2 hd
  cases HasV.inj e1 e1'
  have wk := (view_of I2 ok2 ek).int
  subst wk
  refine ⟨a, xs', k, j, rfl, rfl, hh', by rw [ra'.length]; exact hj, q σ F2 _ (I1.unF ?_)⟩
  exact I2.write hd e1 (ob' := .lst (ds.set j d)) ⟨_, rfl, RpAll.set (Rp.mono l2 rp) j ra'⟩
end
end DL
set_option Elab.async false
set_option linter.all false
set_option maxRecDepth 100000
set_option maxHeartbeats 4000000
namespace PySem
namespace HandSPX
section
variable {M : Model} {A : Around} {E : Value → Shared → Prop} {h : Heap} {g : Array GenState} {d : Drawn} {t : Nat} {os : OsState}
variable {nm q : Str} {C N : Addr} {bs bm bmB : List Value} {hdct : Bool} {sn : List Str} {sub : List Value} {ab : Bool} {col : Option Bool} {dd : Option Addr} {k0 k1 k2 k3 k5 : Option Value} {B newId initId : String} {kw : List (Str × Value)}
theorem check_new_kw (F : ExcBaseFacts B newId initId bmB) (hT : ∀ X : String, bm.contains (.type X) = bmB.contains (.type X)) {rest : List Value} {Q : Unit → Shared → Prop}
    (hC : h.get? C = some (excClassObj nm q C N bs bm hdct sn sub ab col dd k0 k1 k2 k3 k5 newId)) (hq : Q () ⟨h, g, d, t, os⟩) : wpAny M A (checkBuiltinCall newId ⟨.ref C :: rest, kw⟩) Q E ⟨h, g, d, t, os⟩ := by
  have hcont : (Value.ref C :: bm).contains (.type B) = true := by rw [List.contains_cons, hT, F.hasB, Bool.or_true]
  have hstar := F.noStar
  simp only [checkBuiltinCall, F.newKind, F.newSplit, F.newRow]
  repeat (first | refine wpAny_loadPart_at hC ?_ | (refine wpAny_isSubtype_exc hC ?_; rw [hcont]) | refine wpAny_staticBase_exc hC ?_ | refine wpAny_madeBy_exc hC ?_ | simp only [bne_self_eq_false, Bool.false_eq_true, if_false] | wp_step)
  exact hq
end
section
variable {prog : Program} {w : World} {A : Around} {E : Value → Shared → Prop} {R : Result → Shared → Prop} {h : Heap} {g : Array GenState} {d : Drawn} {t : Nat} {os : OsState}
variable {nm q : Str} {C N : Addr} {bs bm bmB : List Value} {hdct : Bool} {sn : List Str} {sub : List Value} {ab : Bool} {col : Option Bool} {dd : Option Addr} {k0 k1 k2 k3 k5 : Option Value} {B newId initId : String} {kw : List (Str × Value)}
theorem new_kw (F : ExcBaseFacts B newId initId bmB) (hT : ∀ X : String, bm.contains (.type X) = bmB.contains (.type X)) {rest : List Value}
    (hC : h.get? C = some (excClassObj nm q C N bs bm hdct sn sub ab col dd k0 k1 k2 k3 k5 newId))
    (hq : R (.ok (.ret (.ref (h.objs.size + 1)))) ⟨(h.push { cls := .type "tuple", data := .seq rest.toArray }).push
      { cls := .ref C, data := .fields #[.ref h.objs.size, .none, .none, .none, .bool false, .none] }, g, d, t, os⟩) (hrest : rest.length ≤ sizeLine) :
    codeAny (model prog w) A (.builtin newId ⟨.ref C :: rest, kw⟩) R ⟨h, g, d, t, os⟩ := by
  have hends := F.ends
  have hcB : (Value.ref C :: bm).contains (.type B) = true := by rw [List.contains_cons, hT, F.hasB, Bool.or_true]
  have hcA : (Value.ref C :: bm).contains (.type "AttributeError") = false := by rw [List.contains_cons, hT, F.noAttr]; rfl
  have hcN : (Value.ref C :: bm).contains (.type "NameError") = false := by rw [List.contains_cons, hT, F.noName]; rfl
  refine codeAny_builtinAt F.entry ?_
  unfold Builtin.«BaseException.__new__»
  refine wpAt_bind ?_
  show wpAt _ _ _ (stack >>= _) _ _ _
  refine wpAt_bind (wpAt_stack fun p below => wpAt_of_wpAny ?_)
  wp_walk
  refine wpAt_of_wpAny ?_
  rw [F.owner]
  repeat (first | with_reducible refine wpAny_madeHere_exc F.canon hC ?_ | with_reducible refine wpAny_loadPart_at hC ?_ | (with_reducible refine wpAny_isSubtype_exc hC ?_; first | rw [hcB] | rw [hcA] | rw [hcN]) | wp_step)
  show R _ _
  rw [Heap.size_push]
  exact hq
theorem type_call_kw (F : ExcBaseFacts B newId initId bmB) (hT : ∀ X : String, bm.contains (.type X) = bmB.contains (.type X)) {rest : List Value} {fI : Addr} {Q : Fin → Shared → Prop}
    (hC : h.get? C = some (excClassObj nm q C N bs bm hdct sn sub ab col dd k0 k1 k2 k3 k5 newId))
    (hi : W.Looks (model prog w) h (typeLookup (.ref C) "__init__") (some (.ref fI))) (hb : ∀ self, W.Looks (model prog w) h (bindSpecial (.ref fI) self) (.ref fI, [self])) (hrest : rest.length ≤ sizeLine)
    (hq : codeAny (model prog w) A (.call (.ref fI) ⟨.ref (h.objs.size + 1) :: rest, kw⟩)
      (fun r s' => match r with | .ok (.ret v) => v = .none ∧ Q (.done (.ret (.ref (h.objs.size + 1)))) s' | .ok _ => False | .error e => E e s')
      ⟨(h.push (W.kdv_tup rest)).push (excO C h.objs.size), g, d, t, os⟩) :
    wpAny (model prog w) A (Builtin.«type.__call__» ⟨.ref C :: rest, kw⟩) Q E ⟨h, g, d, t, os⟩ := by
  repeat (first | with_reducible refine wpAny_loadPart_at hC ?_ | with_reducible refine wpAny_madeBy_exc hC ?_ | wp_step)
  refine codeAny_call_builtin_code (Code.quiet_builtin _ F.quiet) (check_new_kw F hT hC ?_)
  refine new_kw F hT hC ?_ hrest
  show wpAny _ _ _ _ _ _
  have k : ∀ b o, h.get? b = some o → ((h.push (W.kdv_tup rest)).push (excO C h.objs.size)).get? b = some o := fun b o e => Heap.get?_push_of_some _ (Heap.get?_push_of_some _ e)
  have hC₁ := k _ _ hC
  have hget : ((h.push (W.kdv_tup rest)).push (excO C h.objs.size)).get? (h.objs.size + 1) = some (excO C h.objs.size) := by heap_get
  have hcC : (Value.ref C :: bm).contains (.ref C) = true := by simp
  have i1 := hi.keeps k
  have b1 := (hb (.ref (h.objs.size + 1))).keeps k
  unfold isInstance
  repeat (first | with_reducible refine wpAny_loadPart_at hget ?_ | (with_reducible refine wpAny_isSubtype_exc hC₁ ?_; rw [hcC]) | wp_step)
  show wpAny _ _ (typeLookup (.ref C) _) _ _ _
  refine i1.at ?_
  refine wpAny_holding (wpAny_bind (b1.at ?_))
  refine wpAny_bind (wpAny_call (codeAny_mono hq fun r s' z => ?_))
  rcases r with e | (v | _ | _ | _) <;> first | exact z | exact z.elim | skip
  obtain ⟨rfl, z⟩ := z
  first
    | exact wpAny_pure (wpAny_pure z)
    | (wp_walk; exact z)
theorem call_kw (F : ExcBaseFacts B newId initId bmB) (hT : ∀ X : String, bm.contains (.type X) = bmB.contains (.type X)) {rest : List Value} {fI : Addr}
    (hC : h.get? C = some (excClassObj nm q C N bs bm hdct sn sub ab col dd k0 k1 k2 k3 k5 newId))
    (hi : W.Looks (model prog w) h (typeLookup (.ref C) "__init__") (some (.ref fI))) (hb : ∀ self, W.Looks (model prog w) h (bindSpecial (.ref fI) self) (.ref fI, [self])) (hrest : rest.length ≤ sizeLine)
    (hq : codeAny (model prog w) (A.under (.builtin "type.__call__" ⟨.ref C :: rest, kw⟩)) (.call (.ref fI) ⟨.ref (h.objs.size + 1) :: rest, kw⟩) (W.InitBack (h.objs.size + 1) R)
      ⟨(h.push (W.kdv_tup rest)).push (excO C h.objs.size), g, d, t, os⟩) :
    codeAny (model prog w) A (.call (.ref C) ⟨rest, kw⟩) R ⟨h, g, d, t, os⟩ := by
  have f1 := tc_lookup
  have f2 := tc_bind (.ref C)
  have hTy : (⟨h, g, d, t, os⟩ : Shared).TypeIs (.ref C) "type" := ⟨_, hC, rfl⟩
  refine codeAny_of_tree ?_
  show wpAny _ _ (callAny (.ref C) _) _ _ _
  repeat (any_goals (first | assumption | with_reducible refine wpAny_loadPart_at hC ?_ | wp_step))
  refine ⟨rfl, ?_⟩
  refine codeAny_call_builtin_at (Code.quiet_builtin _ (by decide +kernel)) entry_typeCall (wpAny_check_type_call_sub hC (type_call_kw F hT hC hi hb hrest ?_))
  refine codeAny_mono hq fun r s' z => ?_
  rcases r with e | (v | _ | _ | _) <;> exact z
end
end HandSPX
end PySem
namespace DL
open PySem PySem.Spec L2
open PyProof.Rows hiding St
/-- what stands at given places -/
def permL {α : Type} (ix : List Nat) (xs : List α) : List α := ix.filterMap fun i => xs[i]?
theorem vals_perm {zs : List V} {ws : List Value} (r : Vals zs ws) : ∀ ix : List Nat, Vals (permL ix zs) (permL ix ws)
  | [] => .nil
  | i :: ix => by
    unfold permL
    rw [List.filterMap_cons, List.filterMap_cons]
    cases e : zs[i]? with
    | none =>
      have e2 : ws[i]? = none := by rw [List.getElem?_eq_none_iff] at e ⊢; rw [← r.length]; exact e
      rw [e2]
      exact vals_perm r ix
    | some z =>
      obtain ⟨u, hu, ru⟩ := r.get e
      rw [hu]
      exact .cons ru (vals_perm r ix)
/-- n values by position, then keywords ks: ix puts their values in the parameters' order -/
structure KwB (K : PySem.W.Frag) (fd : FuncData) (ps : List Str) (n : Nat) (ks : List Str) (ix : List Nat) : Prop where
  to : ∀ (s : Shared) (us ws : List Value), K.In s.heap → us.length = n → ws.length = ks.length → BindsTo s fd ⟨us, ks.zip ws⟩ (ps.zip (us ++ permL ix ws))
theorem kwb_of {K : PySem.W.Frag} {x qual : Str} {params : Arguments} {body : List Stmt} {scope : Scope} {kws : List (Str × V)} {f : Addr} {fd : FuncData} {ps : List Str} {n : Nat} {ks : List Str} {ix : List Nat} (F : FunD K x qual params body scope [] kws f fd)
    (h : ∀ (kV doc pm : Value) (an : Option Addr) (cdv ct : Value) (us ws : List Value), us.length = n → ws.length = ks.length → bindArgs (PySem.W.fnOf x qual params body scope .none kV doc pm an cdv ct) ⟨us, ks.zip ws⟩ = pure (ps.zip (us ++ permL ix ws))) : KwB K fd ps n ks ix := by
  obtain ⟨oc, od, dV, kV, doc, pm, an, cdv, ct, osl, rfl, lk, hcd, hD, hK⟩ := F.ex
  rcases hD with ⟨_, rfl⟩ | ⟨e, _⟩
  · exact ⟨fun s us ws _ l1 l2 => .of_eq (h kV doc pm an cdv ct us ws l1 l2)⟩
  · exact absurd rfl e
section
variable {X : Cx} {CX : CXT} {x : Str} {C fI : Addr} {k : Nat} {fd : FuncData} {ps ks : List Str} {sp : Sp} {ix : List Nat} {p pos : Pos} {e : Expr} {es : List Expr} {kws : List Keyword} {ta tk : TA}
abbrev E0' : XK := fun _ _ _ => False
/-- an own exception class called: the new exception's __init__ is walked -/
theorem run_oex {pins : List (Addr × Obj)} {σ : L2.St} {H : Hp} {s : Shared} {Q : VK} {us : List Value} {kw : List (Str × Value)} {bs : List Value} {bvs : List V} (T : OexC X.K C) (iC : PySem.W.findIn X.K (.ref C) "__init__" = some (some (.ref fI))) (tI : PySem.W.typeIn X.K (.ref fI) = some (.type "function"))
    (F1 : FnOk X.prog X.w X.K X.mg X.base CX k fI fd ps sp) (hr : Room (k + 1) X.A) (hx : Passes CX X E0') (I : Inv X pins σ H s) (hz : us.length ≤ sizeLine)
    (bt : ∀ (s : Shared) (self : Value), X.K.In s.heap → BindsTo s fd ⟨self :: us, kw⟩ (ps.zip (self :: bs))) (r : Vals bvs bs)
    (h : ∀ a, H a = none → sp (.ref a :: bvs) (upd H a (exo a C none)) (fun v H2 => v = .non ∧ Q (.ref a) H2) E0') :
    wpAny (model X.prog X.w) X.A (call (.ref C) us kw) (EP X pins σ Q) X.xe s := by
  obtain ⟨nm, q, N, bs', bm, sn, sub, ab, col, dd, k0, k1, k2, k3, k5, hC, hbm⟩ := T.cls
  obtain ⟨hp, g, dr, tk, os⟩ := s
  have hsz : hp.objs.size ≤ hp.objs.size + 1 := Nat.le_succ _
  have hn : H (hp.objs.size + 1) = none := I.hok.fresh hsz
  have hq := h (hp.objs.size + 1) hn
  have kk : ∀ b o, hp.get? b = some o → ((hp.push (PySem.W.kdv_tup us)).push (PySem.HandSPX.excO C hp.objs.size)).get? b = some o := fun b o e => Heap.get?_push_of_some _ (Heap.get?_push_of_some _ e)
  have hget : ((hp.push (PySem.W.kdv_tup us)).push (PySem.HandSPX.excO C hp.objs.size)).get? (hp.objs.size + 1) = some (PySem.HandSPX.excO C hp.objs.size) := by heap_get
  have I2 : Inv X pins σ (upd H (hp.objs.size + 1) (exo (hp.objs.size + 1) C none)) ⟨(hp.push (PySem.W.kdv_tup us)).push (PySem.HandSPX.excO C hp.objs.size), g, dr, tk, os⟩ :=
    I.laid (t' := tk) (a := hp.objs.size + 1) (o := exo (hp.objs.size + 1) C none) (h' := (hp.push (PySem.W.kdv_tup us)).push (PySem.HandSPX.excO C hp.objs.size)) kk hsz (exo_ok hget)
  have r2 : Vals (V.ref (hp.objs.size + 1) :: bvs) (Value.ref (hp.objs.size + 1) :: bs) := .cons rfl r
  refine wpAny_call (PySem.HandSPX.call_kw F.excBase_ValueError (fun Y => PySem.HandSPX.refsVE_contains Y bm hbm) (I.kIn _ _ hC) (PySem.W.looks_findIn I.kIn iC) (fun self => PySem.W.bind_fn I.kIn self tI) hz
    (codeAny_mono (F1.run _ X.stack _ _ ⟨Value.ref (hp.objs.size + 1) :: us, kw⟩ (Value.ref (hp.objs.size + 1) :: bs) _ _ E0' (hr.make C us kw) (I2.env0.make C us kw) (bt _ _ I2.kIn) r2 hq) fun r s' hq' => ?_))
  cases r with
  | error er => exact hx pins σ _ _ er s' I2 hq'
  | ok fl =>
    cases fl with
    | ret u =>
      obtain ⟨v, H', I3, rv, ev, q3⟩ := I2.after hq'
      subst ev
      exact ⟨rv, ⟨V.ref _, H', I3, rfl, q3⟩⟩
    | next => exact False.elim hq'
    | brk => exact False.elim hq'
    | cont => exact False.elim hq'
/-- C(e, ..), C(k = e, ..): the reading -/
def tOexV (C : Addr) (sp : Sp) (n : Nat) (gV : List V → List V) (t : TA) : TE := fun σ H Q => t σ H fun vs H1 => vs.length = n ∧ ∀ a, H1 a = none → sp (.ref a :: gV vs) (upd H1 a (exo a C none)) (fun v H2 => v = .non ∧ Q (.ref a) H2) E0'
theorem pe_oexV (T : OexC X.K C) (iC : PySem.W.findIn X.K (.ref C) "__init__" = some (some (.ref fI))) (tI : PySem.W.typeIn X.K (.ref fI) = some (.type "function")) (F1 : FnOk X.prog X.w X.K X.mg X.base CX k fI fd ps sp) (hr : Room (k + 1) X.A) (hb : Binds X.K fd ps [])
    (hx : Passes CX X E0') (hg : Gl X x) (hm : X.mg x = some (.ref C)) (ha : PA X (e :: es) ta) (hn : ps.length ≤ 1000) (hdb : (x == ("__debug__" : Str)) = false := by decide) (he : starEach (e :: es) X.env = (false, eval e X.env) :: starEach es X.env := by rfl)
    (hpl : (backTo pos (starEach es X.env)).any (·.1) = false := by rfl) : PE X (.Call (.Name x p) (e :: es) [] pos) (tOexV C sp (ps.length - 1) id ta) := by
  refine ⟨fun pins s σ H Q I h => ?_⟩
  refine wpAny_Call_Name_kw (ld_glob I hg hm ?_ hdb)
  refine PySem.W.callWith_K (h₀ := X.base) I.ok.mod.kin T.kC (thn (ha.run pos pins s σ H _ I h) fun us s1 ⟨vs, H1, I1, r1, hz, q1⟩ => ⟨I1.kIn, ?_⟩) he hpl
  show wpAny _ _ (call (.ref C) us) _ _ _
  have e1 := r1.length
  obtain ⟨a0, ha0⟩ : ∃ a0, H1 a0 = none := ⟨_, I1.hok.fresh (Nat.le_refl _)⟩
  have l0 := F1.len _ _ _ _ (q1 a0 ha0)
  have l0 : vs.length + 1 = ps.length := l0
  refine run_oex (kw := []) T iC tI F1 hr hx I1 (by rw [sizeLine_eq]; omega) (fun s self hin => ?_) r1 q1
  have := hb s (self :: us) hin (by simp only [List.append_nil, List.length_cons]; omega)
  rw [List.append_nil] at this
  exact this
theorem pe_oexV0 (T : OexC X.K C) (iC : PySem.W.findIn X.K (.ref C) "__init__" = some (some (.ref fI))) (tI : PySem.W.typeIn X.K (.ref fI) = some (.type "function")) (F1 : FnOk X.prog X.w X.K X.mg X.base CX k fI fd ps sp) (hr : Room (k + 1) X.A) (hb : Binds X.K fd ps [])
    (hx : Passes CX X E0') (hg : Gl X x) (hm : X.mg x = some (.ref C)) (hl : ps.length = 1) (hdb : (x == ("__debug__" : Str)) = false := by decide) : PE X (.Call (.Name x p) [] [] pos) (tOexV C sp 0 id tNil) := by
  refine ⟨fun pins s σ H Q I h => ?_⟩
  refine wpAny_Call_Name_kw (ld_glob I hg hm ?_ hdb)
  refine PySem.W.callWith_K0 I.kIn T.kC ?_
  refine run_oex (us := []) (bs := []) (bvs := []) (kw := []) T iC tI F1 hr hx I (by rw [sizeLine_eq]; exact Nat.zero_le _) (fun s self hin => ?_) .nil h.2
  have := hb s [self] hin (by simpa using hl.symm)
  rw [List.append_nil] at this
  exact this
theorem pe_oexVK (T : OexC X.K C) (iC : PySem.W.findIn X.K (.ref C) "__init__" = some (some (.ref fI))) (tI : PySem.W.typeIn X.K (.ref fI) = some (.type "function")) (F1 : FnOk X.prog X.w X.K X.mg X.base CX k fI fd ps sp) (hr : Room (k + 1) X.A) (hb : KwB X.K fd ps 1 ks ix)
    (hx : Passes CX X E0') (hg : Gl X x) (hm : X.mg x = some (.ref C)) (hkw : PK X kws tk) (hall : (backToKw pos (keywordEach kws X.env)).all (·.1.isSome) = true := by rfl) (hks : (backToKw pos (keywordEach kws X.env)).filterMap (·.1) = ks := by rfl)
    (hdb : (x == ("__debug__" : Str)) = false := by decide) (hpl : ((backTo pos (starEach [] X.env)).any (·.1) || (backToKw pos (keywordEach kws X.env)).any (·.1.isNone)) = false := by rfl) : PE X (.Call (.Name x p) [] kws pos) (tOexV C sp ks.length (permL ix) tk) := by
  refine ⟨fun pins s σ H Q I h => ?_⟩
  refine wpAny_Call_Name_kw (ld_glob I hg hm ?_ hdb)
  refine PySem.W.callWith_KW0 (h₀ := X.base) I.ok.mod.kin T.kC hall ?_ hpl
  refine thn (hkw.run pos pins s σ H _ I h) fun ws s2 ⟨zs, H2, I2, rz, l2, q2⟩ => ⟨I2.kIn, ?_⟩
  rw [hks]
  refine run_oex (us := []) T iC tI F1 hr hx I2 (by rw [sizeLine_eq]; exact Nat.zero_le _) (fun s self hin => ?_) (vals_perm rz ix) q2
  exact hb.to s [self] ws hin rfl (rz.length.symm.trans l2)
end
end DL
set_option Elab.async false
set_option linter.all false
set_option maxRecDepth 100000
set_option maxHeartbeats 4000000
namespace DL
open PySem PySem.Spec L2
open PyProof.Rows hiding St
section
variable {X : Cx} {CX : CXT} {x : Str} {C CL fI : Addr} {k : Nat} {fd : FuncData} {ps ks : List Str} {sp : Sp} {ix : List Nat} {p p1 p2 pos : Pos} {e o : Expr} {es : List Expr} {kws : List Keyword} {ta tk : TA} {te to : TE}
/-- Base.__init__(self, ..), Base an own class over ValueError -/
theorem pe_basinit {pl : Sem Bool} (hg : Gl X x) (hm : X.mg x = some (.ref CL)) (rd : ClX.CRead X.K CL (.type "type")) (kv : PySem.W.findCls X.K (.ref CL) (.type "type") "__init__" = some (.val (.builtin "ValueError.__init__"))) (ha : PA X (e :: es) ta) (hdb : (x == ("__debug__" : Str)) = false := by decide)
    (hc : eval (.Call (.Attribute (.Name x p1) "__init__" p2) (e :: es) [] pos) X.env = (do
      let ov ← eval (.Name x p1) X.env
      standAt p2.atName
      let (f, first) ← holding [ov] (getMethod ov "__init__" pl)
      callWith pos f first (backTo pos (starEach (e :: es) X.env)) (backToKw pos (keywordEach [] X.env))) := by rfl)
    (he : starEach (e :: es) X.env = (false, eval e X.env) :: starEach es X.env := by rfl) (hpl : (backTo pos (starEach es X.env)).any (·.1) = false := by rfl) :
    PE X (.Call (.Attribute (.Name x p1) "__init__" p2) (e :: es) [] pos) (tVeI X.K ta) := by
  refine ⟨fun pins s σ H Q I h => ?_⟩
  refine PySem.W.methodCall_KW (ld_glob I hg hm ?_ hdb) hc
  refine PySem.W.method_cls I.kIn rd.ga ?_
  refine PySem.W.cls_value I.kIn rd.rd kv (by decide +kernel) ?_
  show wpAny _ _ (callWith pos (Value.builtin "ValueError.__init__") [] (backTo pos (starEach (e :: es) X.env)) []) _ _ _
  refine PyProof.Rows.callWith_method1 (thn (ha.run pos pins _ σ H _ (I.tok _) h) fun us s1 ⟨vs, H1, I1, r1, a, C, ws, ev, hl, T, ea, q⟩ => ?_) he hpl
  subst ev
  cases r1 with
  | @cons _ u0 _ ur ra rw' =>
    obtain rfl : u0 = Value.ref a := ra
    have hlen : ur.length ≤ sizeLine := by
      rw [← Paired.length rw', sizeLine_eq]
      omega
    exact oinit_ok T I1 ea hlen fun s' J => ⟨.non, H1, J, rfl, q⟩
end
end DL
set_option Elab.async false
set_option linter.all false
set_option maxRecDepth 100000
set_option maxHeartbeats 4000000
namespace DL
open PySem PySem.Spec L2
open PyProof.Rows hiding St
/-- a caught exception that is kept: its class, its dict -/
def exv (a C : Addr) (d : Option Addr) : HO := .ext fun h => ∃ oe vs, h.get? a = some oe ∧ Zc (.ref C) d oe ∧ oe.data = .fields vs
/-- an exception of the class at C is held at a -/
inductive HeldX (H : Hp) (a C : Addr) : Prop
  | bare (h : H a = some (exo a C none)) : HeldX H a C
  | dict {d : Addr} {fs : List (Str × V)} (h : H a = some (exo a C (some d))) (hd : H d = some (exd d fs)) : HeldX H a C
  | kept (h : H a = some (exv a C none)) : HeldX H a C
  | keptD {d : Addr} {fs : List (Str × V)} (h : H a = some (exv a C (some d))) (hd : H d = some (exd d fs)) : HeldX H a C
theorem HeldX.mono {H H' : Hp} {a C : Addr} (h : HeldX H a C) (k : ∀ b u, H b = some u → H' b = some u) : HeldX H' a C := by
  cases h with
  | bare h => exact .bare (k _ _ h)
  | dict h hd => exact .dict (k _ _ h) (k _ _ hd)
  | kept h => exact .kept (k _ _ h)
  | keptD h hd => exact .keptD (k _ _ h) (k _ _ hd)
section
variable {X : Cx} {pins : List (Addr × Obj)} {σ : L2.St} {H : Hp} {s : Shared} {a C d : Addr} {fs : List (Str × V)}
theorem exv_at {P : Program} {w : World} {h : Heap} {od : Option Addr} (hok : HOk P w H h) (he : H a = some (exv a C od)) : ∃ oe vs, h.get? a = some oe ∧ Zc (.ref C) od oe ∧ oe.data = .fields vs := by
  have x : ObjOk P w H h a (.ext fun h => ∃ oe vs, h.get? a = some oe ∧ Zc (.ref C) od oe ∧ oe.data = .fields vs) := hok a _ he
  exact x.1
theorem exd_look {P : Program} {w : World} {h : Heap} (hok : HOk P w H h) (e : H d = some (exd d fs)) : ∃ od, h.get? d = some od ∧ ∀ n v, fs.lookup n = some v → ∃ u, PySem.W.lookIn n od = some (some u) ∧ RelV v u := by
  obtain ⟨mA, hns, hr⟩ := exd_at hok e
  obtain ⟨od, ho, hl⟩ := lookIn_ns hns
  refine ⟨od, ho, fun n v q => ?_⟩
  have r := hr n
  rw [q] at r
  obtain ⟨u, hu, ru⟩ := RelO.some_of r
  exact ⟨u, by rw [hl, hu], ru⟩
theorem HeldX.inst (I : Inv X pins σ H s) (h : HeldX H a C) : ∃ oe od, PySem.W.InstAt s.heap a oe C od := by
  cases h with
  | bare h =>
    obtain ⟨t, e⟩ := exo_at I.hok h
    exact ⟨_, none, e, rfl, rfl, trivial⟩
  | dict h hd =>
    obtain ⟨t, e⟩ := exo_at I.hok h
    obtain ⟨od, ho, _⟩ := exd_look I.hok hd
    exact ⟨_, some od, e, rfl, rfl, ho⟩
  | kept h =>
    obtain ⟨oe, vs, e, z, dd⟩ := exv_at I.hok h
    exact ⟨oe, none, e, z.1, by unfold PySem.W.notCls; rw [dd] <;> rfl, by rw [z.2]; trivial⟩
  | keptD h hd =>
    obtain ⟨oe, vs, e, z, dd⟩ := exv_at I.hok h
    obtain ⟨od, ho, _⟩ := exd_look I.hok hd
    exact ⟨oe, some od, e, z.1, by unfold PySem.W.notCls; rw [dd] <;> rfl, by rw [z.2]; exact ho⟩
def tXv (K : PySem.W.Frag) (f : Str) (te : TE) : TE := fun σ H Q => te σ H fun x H1 => ∃ (a C d : Addr) (fs : List (Str × V)) (v : V), x = .ref a ∧ XfC K C ∧ PySem.W.findIn K (.ref C) f = some none ∧
  H1 a = some (exo a C (some d)) ∧ H1 d = some (exd d fs) ∧ fs.lookup f = some v ∧ Q v H1
theorem pe_xv {e : Expr} {te : TE} {pos : Pos} {n : Str} (he : PE X e te) (hb : attributeBase e n X.env (eval e X.env) = eval e X.env := by rfl) : PE X (.Attribute e n pos) (tXv X.K n te) := by
  refine ⟨fun pins s σ H Q I h => attr_of hb (thn (he.run pins s σ H _ I h) fun u s1 hh => ?_)⟩
  obtain ⟨x, H1, I1, rx, a, C, d, fs, v, rfl, T, hno, ea, ed, l, q⟩ := hh
  obtain rfl : u = Value.ref a := rx
  obtain ⟨t, eo⟩ := exo_at I1.hok ea
  obtain ⟨od, ho, hl⟩ := exd_look I1.hok ed
  obtain ⟨w, hw, rw_⟩ := hl n v l
  have J : PySem.W.InstAt s1.heap a _ C (some od) := ⟨eo, rfl, rfl, ho⟩
  exact HandSPX.exc_get I1.kIn J T.ga T.gg T.exC (PySem.W.findObj_own T.hdC hno rfl hw) (handed_of rw_) ⟨v, H1, I1.tok _, rw_, q⟩
/-- what isinstance asks of the class at C -/
structure IsX (K : PySem.W.Frag) (C : Addr) : Prop where
  x : XfC K C
  cl : (PySem.W.clsIn K C).isSome = true
  ha : PySem.W.findIn K (.ref C) "__class__" = some (some (.builtin "object.__class__"))
  hm : PySem.W.mroIn K C (.type "object") = some true
  hn : PySem.W.specialIn K (.builtin "object.__class__") "__get__" = some (some (.builtin "getset_descriptor.__get__"))
  ht : PySem.W.takesIn K (.builtin "object.__class__") = some true
def rIsX (K : PySem.W.Frag) : List V → Hp → VK → Prop := fun xs H Q => ∃ (a C : Addr) (c : V) (u : Value) (b : Bool), xs = [.ref a, c] ∧ HeldX H a C ∧ IsX K C ∧ ClsV c u ∧ PySem.W.kitOne K (.ref C) u = some b ∧ Q (.bl b) H
theorem call_isX : CallR X (.builtin "isinstance") (rIsX X.K) := by
  intro pins s σ H xs us Q I r h
  obtain ⟨a, C, c, u, b, rfl, hx, T, k, e, q⟩ := h
  obtain ⟨u1, u2, rfl, r1, r2⟩ := vals2 r
  have e2 := k.eq r2
  subst e2
  obtain rfl : u1 = Value.ref a := r1
  obtain ⟨oe, od, J⟩ := hx.inst I
  exact PySem.W.kia_one (PySem.W.kitx_exc T.cl T.x.ga T.x.gg T.x.exC T.ha T.hn T.ht T.hm) I.kIn J e (fun z => nomatch z) fun tk => ⟨.bl b, H, I.tok tk, rfl, q⟩
theorem pmk_held {e : Expr} {te : TE} (hx : X.ex = []) (he : PE X e te) :
    PMk X e (fun σ H Q => te σ H fun x H1 => ∃ a C od, x = .ref a ∧ H1 a = some (exo a C od) ∧ Fr0 X.H_0 a ∧ Raises X (.ref C) ∧ Q (.ref C) od (delH H1 a)) := by
  intro pins s σ H Q I h
  refine wpAny_mono (he.run pins s σ H _ I h) (fun u s1 hu => ?_) fun _ _ x => x
  obtain ⟨v, H1, I1, r1, a, C, od, rfl, ha, h0, hr, q⟩ := hu
  obtain rfl : u = Value.ref a := r1
  obtain ⟨t, eo⟩ := exo_at I1.hok ha
  obtain ⟨G, gs, ga, J⟩ := I1.untrack (φ := fun h => ∃ t1 : Addr, h.get? a = some ({ cls := .ref C, dict := od, data := .fields #[.ref t1, .none, .none, .none, .bool false, .none] } : Obj)) ha h0 hx
  exact ⟨a, _, _, { s1 with heap := G }, delH H1 a, .ref C, od, rfl, J, gs, ga, eo, ⟨rfl, rfl⟩, rfl, rfl, delH_same, rfl, I1.bare, hr, q⟩
end
end DL
set_option Elab.async false
set_option linter.all false
set_option maxRecDepth 100000
set_option maxHeartbeats 4000000
namespace DL
open PySem PySem.Spec L2
open PyProof.Rows hiding St
section
variable {X : Cx} {pins : List (Addr × Obj)} {σ : L2.St} {H : Hp} {s : Shared} {a C : Addr}
/-- an object of the heap that was not tracked, new since the entry, is tracked from here on -/
theorem grab {o : HO} (I : Inv X pins σ H s) (na : H a = none) (nL : a ≠ X.env.locals) (nC : ∀ x c, X.env.cells.lookup x = some c → c ≠ a) (n0 : X.s_0.heap.get? a = none)
    (np : ∀ p ∈ X.pn ++ pins, p.1 ≠ a) (ok : ObjOk X.prog X.w (upd H a o) s.heap a o) : Inv X pins σ (upd H a o) s := by
  have ne : ∀ {b u}, H b = some u → b ≠ a := fun q => ne_of_none q na
  have n1 : ∀ {b u}, X.s_0.heap.get? b = some u → b ≠ a := fun {b u} q z => by rw [z, n0] at q; cases q
  have bs : Un X.fs X.ex X.H_0 (upd H a o) X.s_0.heap s.heap := ⟨I.base.keep, I.base.slot, fun b u q n hx => (upd_ne (n1 q)).trans (I.base.free b u q n hx), I.base.there,
    fun b xs q => (upd_ne (ne (I.base.tups b xs q))).trans (I.base.tups b xs q), fun b v u q => (upd_ne (ne (I.base.frzs b v u q))).trans (I.base.frzs b v u q), fun b ps q => by
      obtain ⟨m, z⟩ := I.base.tbls b ps q
      exact ⟨m, (upd_ne (ne z)).trans z⟩⟩
  refine ⟨I.ok, I.os, I.bare, bs, I.loc, I.cell, (upd_ne (Ne.symm nL)).trans I.free, fun x c e => (upd_ne (nC x c e)).trans (I.freeC x c e), fun p hp => ?_, fun b u q => ?_, I.len⟩
  · obtain ⟨e, n, r⟩ := I.pin p hp
    exact ⟨e, (upd_ne (np p hp)).trans n, r⟩
  · by_cases hb : b = a
    · subst hb
      rw [upd_same] at q
      cases q
      exact ok
    · rw [upd_ne hb] at q
      exact (I.hok b u q).stay (fun _ _ _ z => z) (fun c z => (upd_ne (ne z)).trans z) fun c xs z => (upd_ne (ne z)).trans z
/-- what the clause wishes: the suite's end is the end; behind it the exception is held at a -/
def wHeld (K : PySem.W.Frag) (c : Value) (i : Nat) (ts : TS) (D : Ends) : WX := fun cls d σ H => PySem.W.exmOne K cls c = some true ∧ ∃ C, cls = .ref C ∧ ∀ a, H a = none →
  ts { nx := fun σ' H' => D.nx (σ'.set i none) (upd H' a (exv a C d)), rt := fun _ _ => False, bk := fun _ _ => False, ct := fun _ _ => False } (σ.set i (some (.ref a))) H
theorem ps_try_held {x n : Str} {c : Value} {i : Nat} {body suite : List Stmt} {b₀ : Stmt} {np pos pos' : Pos} {tb : WX → TS} {ts : TS} (hst : X.stack = X.env :: X.outer) (hfr : X.env.frame = some X.env.locals) (hN : X.N.Nodup) (hi : X.N[i]? = some n) (hln : X.env.kindOf n = some .local) (hc : Names X x c)
    (hex : X.ex = [])
    (hb : ∀ (W : WX) (pn : List (Addr × Obj)) (xe : Value → Shared → Prop), Takes (X.tr pn xe) W → PassesOwn (model X.prog X.w) X.A X.env xe → PSs (X.tr pn xe) body (tb W))
    (hsu : ∀ (a : Addr) (pn : List (Addr × Obj)), PSs (X.suite a pn) (b₀ :: suite) ts) :
    PS X (.Try body [.ExceptHandler (some (.Name x np)) (some n) (b₀ :: suite) pos'] [] [] pos) (fun D σ H => tb (wHeld X.K c i ts D) D σ H) := by
  constructor
  intro pins s σ H D I h
  have okX := I.ok
  have hfrm : X.A.frames = some (X.env :: X.outer) := okX.frames.trans (congrArg some hst)
  refine wpAny_Try_except (wpAny_mono ((hb (wHeld X.K c i ts D) (X.pn ++ pins) (fun err t1 => wpAny (model X.prog X.w) X.A (noteFrame err X.env) (fun _ t2 => wpAny (model X.prog X.w) X.A (setFlight err none)
    (fun _ t3 => wpAny (model X.prog X.w) X.A (handleBy err X.env [.ExceptHandler (some (.Name x np)) (some n) (b₀ :: suite) pos']) (SP X pins D) X.xe t3) X.xe t2) X.xe t1) ?caught PassesOwn.looking).run [] s σ H D (I.toTry _) h) ?ended fun _ _ z => z)
  case ended =>
    intro fl t1 hfl
    cases fl with
    | next => obtain ⟨σ1, H1, J, q⟩ := hfl; exact wpAny_execs_nil ⟨σ1, H1, J.ofTry okX, q⟩
    | brk => obtain ⟨σ1, H1, J, q⟩ := hfl; exact ⟨σ1, H1, J.ofTry okX, q⟩
    | cont => obtain ⟨σ1, H1, J, q⟩ := hfl; exact ⟨σ1, H1, J.ofTry okX, q⟩
    | ret u => obtain ⟨v, σ1, H1, J, r, q⟩ := hfl; exact ⟨v, σ1, H1, J.ofTry okX, r, q⟩
  case caught =>
    rintro u t0 ⟨a, G, sI, pn1, σ1, H1, cls, d, rfl, K1, hG, hup, hsky, na, hos, hag, hm, C, rfl, hgo⟩
    have K0 : Inv X pins σ1 H1 sI := K1.ofTry okX
    rw [show (X.tr (X.pn ++ pins) _).stack = X.env :: X.outer from hst] at hsky
    show wpAny (model X.prog X.w) X.A (noteFrame (.ref a) X.env) _ _ _
    refine Sky.land Zc.steady hfrm hfr hsky fun h1 f1 u1 => ?_
    obtain ⟨o1, v1, g1, z1, d1⟩ := f1.there
    have off : a ∉ frs (X.env :: X.outer) := fun hmem => by
      obtain ⟨_, o', e', nf⟩ := (f1.2.2.1).mem hmem
      rw [g1] at e'
      cases e'
      exact nf _ d1
    have offL : a ≠ X.env.locals := fun e => off (List.mem_filterMap.mpr ⟨X.env, List.mem_cons_self, by rw [hfr, e]⟩)
    have offF : a ∉ X.fs := fun hmem => by
      obtain ⟨en, hen, q⟩ := List.mem_filterMap.mp hmem
      exact off (List.mem_filterMap.mpr ⟨en, List.mem_cons_of_mem _ hen, q⟩)
    have gnd : G.get? a = none := f1.2.1
    have newA : ∀ {b o}, sI.heap.get? b = some o → b ∉ frs X.stack → b ≠ a := fun {b o} q nf e => by
      have := hG b o q nf
      rw [e, gnd] at this
      cases this
    have inS : ∀ {b}, b ≠ X.env.locals → b ∉ X.fs → b ∉ frs X.stack := fun {b} n1 n2 hmem => by
      rw [hst] at hmem
      obtain ⟨en, hen, q⟩ := List.mem_filterMap.mp hmem
      rcases List.mem_cons.mp hen with e | hen
      · subst e; rw [hfr] at q; exact n1 (Option.some.inj q).symm
      · exact n2 (List.mem_filterMap.mpr ⟨en, hen, q⟩)
    have n0 : X.s_0.heap.get? a = none := by
      cases e : X.s_0.heap.get? a with
      | none => rfl
      | some o =>
        obtain ⟨o', e'⟩ := K0.base.there a o e (by rw [hex]; exact fun z => nomatch z)
        exact absurd rfl (newA e' (by rw [hst]; exact off))
    have npin : ∀ p ∈ X.pn ++ pins, p.1 ≠ a := fun p hp => by
      obtain ⟨e, _, n1, n2, _⟩ := K0.pin p hp
      exact newA e (inS n1 n2)
    have K2 : Inv X pins σ1 H1 { t0 with heap := h1 } := K0.landed hG f1.1 (hup.trans u1) hos hag
    have S2 := K2.suite g1 d1 na offL offF
    have lt : PySem.W.Looks (model X.prog X.w) h1 (typeOf (.ref a)) (.ref C) := fun A' Q' E' s' k q => wpAny_typeOf_ref (k _ _ g1) (by rw [z1.1]; exact q)
    have lm := PySem.W.exm_one (M := model X.prog X.w) K2.kIn lt hm
    refine wpAny_handleBy_cons (codeAny_handlers_test ?_) (by intro q; cases q)
    have named : ∀ {Q : Value → Shared → Prop} {E : Value → Shared → Prop}, Q c { t0 with heap := h1 } → wpAny (model X.prog X.w) (X.A.mark (some (.ref a))) (eval (.Name x np) X.env) Q E { t0 with heap := h1 } := fun {Q E} q => by
      obtain ⟨hgl, hdb, hm1 | ⟨hm1, hv, hnn⟩⟩ := hc
      · exact ld_glob (X := X.suite a ((a, o1) :: (X.pn ++ pins))) S2 hgl hm1 q hdb
      · exact ld_blt (X := X.suite a ((a, o1) :: (X.pn ++ pins))) S2 hgl hm1 hv q hnn hdb
    refine named (lm.here (codeAny_handlers_suite_as ?_))
    refine HandSPX.lands_againZ f1 fun h2 f2 u2 => ?_
    obtain ⟨o2, v2, g2, z2, d2⟩ := f2.there
    have K3 : Inv X pins σ1 H1 { t0 with heap := h2 } := K0.landed hG f2.1 ((hup.trans u1).trans u2) hos hag
    have S3 := K3.suite g2 d2 na offL offF
    refine store_ok (X := X.suite a ((a, o2) :: (X.pn ++ pins))) (v := .ref a) S3 hN hi (Or.inl hln) rfl (fun t5 S5 => ?_) (.inr hln)
    refine wpAny_mono ((hsu a ((a, o2) :: (X.pn ++ pins))).run [] t5 _ H1 _ S5 (hgo a na)) (fun fl t6 hfl => ?_) fun _ _ z => z.elim
    cases fl with
    | next =>
      obtain ⟨σ6, H6, S6, q6⟩ := hfl
      have K6 : Inv X ((a, o2) :: pins) σ6 H6 t6 := { S6 with ok := okX, pin := fun p hp => S6.pin p (by
        rw [List.append_nil]
        rcases List.mem_append.mp hp with m | m
        · exact List.mem_cons_of_mem _ (List.mem_append_left _ m)
        · rcases List.mem_cons.mp m with m | m
          · rw [m]; exact List.mem_cons_self
          · exact List.mem_cons_of_mem _ (List.mem_append_right _ m)) }
      refine gone_ok K6 hN hi hln fun t7 K7 => ?_
      obtain ⟨ga, na7, _, _, nc⟩ := K7.pin (a, o2) (List.mem_append_right _ List.mem_cons_self)
      have K8 : Inv X pins (σ6.set i none) H6 t7 := { K7 with pin := fun p hp => K7.pin p (by
        rcases List.mem_append.mp hp with m | m
        · exact List.mem_append_left _ m
        · exact List.mem_append_right _ (List.mem_cons_of_mem _ m)) }
      refine ⟨σ6.set i none, upd H6 a (exv a C d), grab K8 na7 offL (fun y b e z => ?_) n0 npin ?_, q6⟩
      · obtain ⟨w, ob, e1, e2⟩ := K8.cell y b e
        rw [z] at e1
        rw [show t7.heap.get? a = some o2 from ga] at e1
        cases e1
        exact nc _ e2
      · exact ⟨⟨o2, v2, ga, z2, d2⟩, ⟨o2, ga⟩, fun k1 k2 ⟨o, v, e1, e2⟩ kk => ⟨o, v, kk o e1, e2⟩⟩
    | brk => obtain ⟨_, _, _, q⟩ := hfl; exact q.elim
    | cont => obtain ⟨_, _, _, q⟩ := hfl; exact q.elim
    | ret u => obtain ⟨_, _, _, _, _, q⟩ := hfl; exact q.elim
end
end DL
set_option Elab.async false
set_option linter.all false
set_option maxRecDepth 100000
set_option maxHeartbeats 4000000
namespace DL
open PySem PySem.Spec L2
open PyProof.Rows hiding St
/-- a promise: what is asked, what is given -/
def spS (pre : List DV → Prop) (post : List DV → RV → Prop) : SpP := fun ds Q => pre ds ∧ ∀ r, post ds r → Q r
def spT (pre : OB → List DV → Prop) (post : OB → List DV → RV → OB → Prop) : SpI := fun o ds Q => pre o ds ∧ ∀ r o', post o ds r o' → Q r o'
theorem spS.mono {pre : List DV → Prop} {post : List DV → RV → Prop} : MonoP (spS pre post) := fun ds Q Q' h hq => ⟨h.1, fun r p => hq r (h.2 r p)⟩
theorem spT.mono {pre : OB → List DV → Prop} {post : OB → List DV → RV → OB → Prop} : MonoI (spT pre post) := fun o ds Q Q' h hq => ⟨h.1, fun r o' p => hq r o' (h.2 r o' p)⟩
/-- a def of the module, known by its name -/
structure Kn (P : Program) (w : World) (K : PySem.W.Frag) (mg : Str → Option Value) (base : Heap) (k : Nat) (x : Str) (st : Stmt) (ps : List Str) (sp : Sp) : Prop where
  ex : ∃ f fd, mg x = some (.ref f) ∧ FunD K x x (defArgs st) (defBody st) (defScope st) [] [] f fd ∧ FnOk P w K mg base CX0 k f fd ps sp ∧ L2.Binds K fd ps []
section
variable {X : Cx} {Wx : WX} {e : Expr} {es : List Expr} {pos p : Pos} {t : TD} {u : TDA} {k : Nat} {ps : List Str} {x : Str} {st : Stmt}
theorem de_kn {S : SpP} (c : Kn X.prog X.w X.K X.mg X.base k x st ps (spP (wdOf X) S)) (ms : MonoP S) (hr : Room k X.A) (hg : Gl X x) (ha : DA X Wx (e :: es) u) (hdb : (x == ("__debug__" : Str)) = false := by decide)
    (he : starEach (e :: es) X.env = (false, eval e X.env) :: starEach es X.env := by rfl) (hpl : (backTo pos (starEach es X.env)).any (·.1) = false := by rfl) : DE X Wx (.Call (.Name x p) (e :: es) [] pos) (dCallP S u) := by
  obtain ⟨f, fd, hm, Fd, F, hb⟩ := c.ex
  exact de_call ms F hr hg hm Fd.kp hb pass0 ha hdb he hpl
theorem de_knB {S : SpP} (c : Kn X.prog X.w X.K X.mg X.base k x st ps (spP (wdOf X) S)) (ms : MonoP S) (hr : Room k X.A) (hg : Gl X x) (ha : DA X Wx (e :: es) u) (hdb : (x == ("__debug__" : Str)) = false := by decide)
    (he : starEach (e :: es) X.env = (false, eval e X.env) :: starEach es X.env := by rfl) (hpl : (backTo pos (starEach es X.env)).any (·.1) = false := by rfl) : DE X Wx (.Call (.Name x p) (e :: es) [] pos) (dCallB S u) := by
  obtain ⟨f, fd, hm, Fd, F, hb⟩ := c.ex
  exact de_callB ms F hr hg hm Fd.kp hb pass0 ha hdb he hpl
theorem de_knI {S : SpI} {i : Nat} (c : Kn X.prog X.w X.K X.mg X.base k x st ps (spI (wdOf X) S)) (ms : MonoI S) (hr : Room k X.A) (hg : Gl X x) (h0 : PE X e (tVar i)) (ha : DA X Wx es u) (hdb : (x == ("__debug__" : Str)) = false := by decide)
    (he : starEach (e :: es) X.env = (false, eval e X.env) :: starEach es X.env := by rfl) (hpl : (backTo pos (starEach es X.env)).any (·.1) = false := by rfl) : DE X Wx (.Call (.Name x p) (e :: es) [] pos) (dCallI S i u) := by
  obtain ⟨f, fd, hm, Fd, F, hb⟩ := c.ex
  exact de_callI ms F hr hg hm Fd.kp hb pass0 h0 ha hdb he hpl
end
section
variable {X : Cx} {Wx : WX}
theorem units65 {k : Nat} {A : Around} (r : Room k A) : A.units + 65 < cLine := by have := r.un; omega
theorem DCl.mg {scope : Scope} {vs : List Nat} {tg elt : Expr} {ifs : List Expr} {tgd : TDG} {tt : TDB} {te : TD} (c : DCl X scope vs tg ifs elt tgd tt te) : ∀ r ρ (Q Q' : DEnv → Prop), tgd r ρ Q → (∀ ρ', Q ρ' → Q' ρ') → tgd r ρ Q' := (c.g X.s_0 X.H_0 0 [] []).mono
theorem DCl.mt {scope : Scope} {vs : List Nat} {tg elt : Expr} {ifs : List Expr} {tgd : TDG} {tt : TDB} {te : TD} (c : DCl X scope vs tg ifs elt tgd tt te) : Mono tt := (c.t X.s_0 X.H_0 0 [] []).mono
theorem DCl.me {scope : Scope} {vs : List Nat} {tg elt : Expr} {ifs : List Expr} {tgd : TDG} {tt : TDB} {te : TD} (c : DCl X scope vs tg ifs elt tgd tt te) : Mono te := (c.e X.s_0 X.H_0 0 [] []).mono
theorem de_cp {elt tg iter : Expr} {ifs : List Expr} {scope : Scope} {own : List (Str × Nat)} {pos : Pos} {w : TDI} {tgd : TDG} {tt : TDB} {te : TD} (hc : X.calm = true) (hN : X.N.Nodup) (hi : DI X Wx tg iter w) (ok : BlkOk X.N X.env.scope scope own)
    (c : DCl X scope (snds own) tg ifs elt tgd tt te) (hs : ∀ x, foldedSetIterable iter X.env x = pure x := by intro _; rfl) : DE X Wx (.ListComp elt [⟨tg, iter, ifs, 0⟩] scope pos) (dComp w tgd tt te (snds own)) := de_comp hc hN hi ok c c.mg c.mt c.me hs
theorem ds_setCp {i : Nat} {y : Str} {py : Pos} {elt tg iter : Expr} {ifs : List Expr} {scope : Scope} {own : List (Str × Nat)} {pos spos : Pos} {ios : List Nat} {w : TDI} {tgd : TDG} {tt : TDB} {te : TD} (hc : X.calm = true) (hN : X.N.Nodup) (hy : X.N[i]? = some y) (hyl : X.env.scope.names.lookup y = some .local)
    (hsw : swapsWith (.ListComp elt [⟨tg, iter, ifs, 0⟩] scope pos) (some (.Name y py)) spos.line X.env = pure true) (hi : DI X Wx tg iter w) (ok : BlkOk X.N X.env.scope scope own)
    (c : DCl X scope (snds own) tg ifs elt tgd tt te) (hs : ∀ x, foldedSetIterable iter X.env x = pure x := by intro _; rfl) : DS X Wx ios (.Assign [.Name y py] (.ListComp elt [⟨tg, iter, ifs, 0⟩] scope pos) spos) (dAsg (dComp w tgd tt te (snds own)) (dgName ios i)) := ds_setComp hc hN hy hyl hsw hi ok c c.mg c.mt c.me hs
theorem pe_ty {x : Str} {T : String} {pos : Pos} (hg : Gl X x) (hm : X.mg x = none) (hv : bootBuiltins x = some (.type T)) (hn : x ≠ "__name__" := by decide) (hd : (x == ("__debug__" : Str)) = false := by decide) : PE X (.Name x pos) (tC (.ty T)) := pe_bltn hg hm hv rfl hn hd
theorem ds_setN {ios : List Nat} {i : Nat} {x : Str} {e : Expr} {t : TD} {pos' pos : Pos} (hN : X.N.Nodup) (hi : X.N[i]? = some x) (hx : Loc X.env.scope x) (he : DE X Wx e t) (hs : swapsWith e (some (.Name x pos')) pos.line X.env = pure false := by rfl) (hf : X.fn x = true ∨ X.env.scope.names.lookup x = some .local := by first | exact .inl rfl | exact .inr rfl | assumption) :
    DS X Wx ios (.Assign [.Name x pos'] e pos) (dAsg t (dgName ios i)) := ds_set he fun _ h => ps_set hN hi hx h hs hf
/-- a, b = x, y -/
def dPar2 (ios : List Nat) (i j : Nat) (ua : TDA) : TDS := fun ρ Q E => i ∉ ios ∧ j ∉ ios ∧ ua ρ (fun rs ρ1 => match rs with
  | [r, r'] => r' ≠ .slot i ∧ putR i r ρ1 fun ρ2 => putR j r' ρ2 fun ρ3 => Q .nx ρ3
  | _ => False) E
theorem ds_par2 {ios : List Nat} {i j : Nat} {x y : Str} {a b : Expr} {ua : TDA} {px py pt pos : Pos} {kt k2 pt2} (hc : X.calm = true) (hN : X.N.Nodup) (hi : X.N[i]? = some x) (hj : X.N[j]? = some y) (hij : i ≠ j)
    (hx : X.env.scope.names.lookup x = some .local) (hy : X.env.scope.names.lookup y = some .local) (ha : DA X Wx [a, b] ua)
    (hw : swappedStores [.Tuple [.Name x px, .Name y py] kt pt] (.Tuple [a, b] k2 pt2) X.env = pure (some [x, y]))
    (hs : swapsWithSole [.Tuple [.Name x px, .Name y py] kt pt] (.Tuple [a, b] k2 pt2) pos.line X.env = pure false := by rfl) :
    DS X Wx ios (.Assign [.Tuple [.Name x px, .Name y py] kt pt] (.Tuple [a, b] k2 pt2) pos) (dPar2 ios i j ua) := ds_par (fun B => ps_par hc hN hi hj hij hx hy (ha.run B) hw hs) ha.mono
end
/-- the facts of a def of the module, as the head tells them -/
structure Df (K : PySem.W.Frag) (mg : Str → Option Value) (x : Str) (st : Stmt) : Prop where
  ex : ∃ f fd, mg x = some (.ref f) ∧ FunD K x x (defArgs st) (defBody st) (defScope st) [] [] f fd
/-- how a def binds its arguments -/
def BindsOk (x : Str) (st : Stmt) (ps : List Str) : Prop := ∀ (kV doc pm : Value) (an : Option Addr) (cdv ct : Value) (us : List Value), us.length = ps.length → bindArgs (PySem.W.fnOf x x (defArgs st) (defBody st) (defScope st) .none kV doc pm an cdv ct) ⟨us, []⟩ = pure (ps.zip us)
section
variable {P : Program} {w : World} {K : PySem.W.Frag} {mg : Str → Option Value} {base : Heap} {x : Str} {st : Stmt} {N ps : List Str} {k : Nat}
theorem kn_p {pre : List DV → Prop} {post : List DV → RV → Prop} (d : Df K mg x st) (sc : FnScope N ps (defScope st)) (hb : BindsOk x st ps) (hlen : ∀ ds, pre ds → ds.length = ps.length) (g : TDS)
    (hd : ∀ (f : Addr) (cdv : Value) (A : Around) (outer : List Env) (s : Shared) (H : Hp) (E : XK), Room k (A.deeper (envOfC x (defScope st) s.heap.objs.size f cdv)) → DSs (cxOf CX0 P w K mg base N x (defScope st) f cdv A outer s H E).nox W0 [] (defBody st) g)
    (hS : ∀ ds Q, pre ds → (∀ r, post ds r → Q r) → bodyP N.length g ds Q) : Kn P w K mg base (k + 1) x st ps (spP ⟨P, w, K⟩ (spS pre post)) := by
  obtain ⟨f, fd, hm, F⟩ := d.ex
  exact ⟨f, fd, hm, F, okP F sc (fun ds Q h => hlen ds h.1) g (hd f) fun ds Q h => hS ds Q h.1 h.2, F.bindsN hb⟩
theorem kn_i {pre : OB → List DV → Prop} {post : OB → List DV → RV → OB → Prop} (d : Df K mg x st) (sc : FnScope N ps (defScope st)) (hb : BindsOk x st ps) (hlen : ∀ o ds, pre o ds → ds.length + 1 = ps.length) (g : TDS)
    (hd : ∀ (f : Addr) (cdv : Value) (A : Around) (outer : List Env) (s : Shared) (H : Hp) (E : XK), Room k (A.deeper (envOfC x (defScope st) s.heap.objs.size f cdv)) → DSs (cxOf CX0 P w K mg base N x (defScope st) f cdv A outer s H E).nox W0 [0] (defBody st) g)
    (hS : ∀ o ds Q, pre o ds → (∀ r o', post o ds r o' → Q r o') → bodyI N.length g o ds Q) : Kn P w K mg base (k + 1) x st ps (spI ⟨P, w, K⟩ (spT pre post)) := by
  obtain ⟨f, fd, hm, F⟩ := d.ex
  exact ⟨f, fd, hm, F, okI F sc (fun o ds Q h => hlen o ds h.1) g (hd f) fun o ds Q h => hS o ds Q h.1 h.2, F.bindsN hb⟩
theorem Kn.mono {j : Nat} {sp : Sp} (c : Kn P w K mg base k x st ps sp) (h : k ≤ j) : Kn P w K mg base j x st ps sp := by
  obtain ⟨f, fd, hm, hk, F, hb⟩ := c.ex
  exact ⟨f, fd, hm, hk, F.mono h, hb⟩
end
end DL
set_option Elab.async false
set_option linter.all false
set_option maxRecDepth 100000
set_option maxHeartbeats 4000000
namespace DL
open PySem PySem.Spec L2
open PyProof.Rows hiding St
mutual
theorem data_inj : ∀ {k k' : NestedKey}, k.data = k'.data → k = k'
  | .none, .none, _ => rfl
  | .num i, .num j, e => by have e : PyData.int i = PyData.int j := e; cases e; rfl
  | .text i, .text j, e => by have e : PyData.str i = PyData.str j := e; cases e; rfl
  | .tup ks, .tup ks', e => by
    have e : PyData.tuple (NestedKey.datas ks) = PyData.tuple (NestedKey.datas ks') := e
    rw [datas_inj (PyData.tuple.inj e)]
  | .none, .num _, e => nomatch (show PyData.none = PyData.int _ from e)
  | .none, .text _, e => nomatch (show PyData.none = PyData.str _ from e)
  | .none, .tup _, e => nomatch (show PyData.none = PyData.tuple _ from e)
  | .num _, .none, e => nomatch (show PyData.int _ = PyData.none from e)
  | .num _, .text _, e => nomatch (show PyData.int _ = PyData.str _ from e)
  | .num _, .tup _, e => nomatch (show PyData.int _ = PyData.tuple _ from e)
  | .text _, .none, e => nomatch (show PyData.str _ = PyData.none from e)
  | .text _, .num _, e => nomatch (show PyData.str _ = PyData.int _ from e)
  | .text _, .tup _, e => nomatch (show PyData.str _ = PyData.tuple _ from e)
  | .tup _, .none, e => nomatch (show PyData.tuple _ = PyData.none from e)
  | .tup _, .num _, e => nomatch (show PyData.tuple _ = PyData.int _ from e)
  | .tup _, .text _, e => nomatch (show PyData.tuple _ = PyData.str _ from e)
theorem datas_inj : ∀ {ks ks' : List NestedKey}, NestedKey.datas ks = NestedKey.datas ks' → ks = ks'
  | [], [], _ => rfl
  | k :: ks, k' :: ks', e => by
    have e : k.data :: NestedKey.datas ks = k'.data :: NestedKey.datas ks' := e
    rw [data_inj (List.cons.inj e).1, datas_inj (List.cons.inj e).2]
  | [], _ :: _, e => nomatch (show ([] : List PyData) = _ :: _ from e)
  | _ :: _, [], e => nomatch (show _ :: _ = ([] : List PyData) from e)
end
section
variable {X : Cx} {B : Bs} {pins : List (Addr × Obj)} {σ σ' : L2.St} {F H : Hp} {ρ : DEnv} {s : Shared}
theorem sqT_obj (J : Inv X pins σ H s) {a : Addr} {xs : List V} (h : SqT X.K H a xs) : ∃ (o : Obj) (its : Array Value) (n : Nat), s.heap.get? a = some o ∧ o.cls = .type "tuple" ∧ o.data = .seq its n ∧ Vals xs its.toList := by
  rcases h with h | ⟨o, its, n, h1, h2, h3, _, h5⟩
  · obtain ⟨_, its, rv, o, h1, h2, n, h3⟩ := h.ok J.hok
    exact ⟨o, its.toArray, n, h1, h2, h3, by simpa using rv⟩
  · exact ⟨o, its, n, J.kIn _ _ h1, h2, h3, h5⟩
mutual
theorem nested_is (J : Inv X pins σ H s) (I : RE (wdOf X) B F H σ' ρ) : ∀ (k : NestedKey) (v : V) (u : Value), Rp (wdOf X) F v k.data → RelV v u → NestedIs s.heap k u
  | .none, v, u, r, rv => by
    have r : Rp (wdOf X) F v PyData.none := r
    cases r; cases (show u = Value.none from rv); exact .none
  | .num i, v, u, r, rv => by
    have r : Rp (wdOf X) F v (PyData.int i) := r
    cases r; obtain ⟨t, rfl⟩ := (show ∃ t, u = Value.int i t from rv); exact .int i t
  | .text x, v, u, r, rv => by
    have r : Rp (wdOf X) F v (PyData.str x) := r
    cases r; obtain ⟨t, rfl⟩ := (show ∃ t, u = Value.str x t from rv); exact .text x t
  | .tup ks, v, u, r, rv => by
    have r : Rp (wdOf X) F v (PyData.tuple (NestedKey.datas ks)) := r
    cases r with
    | tup hs ra =>
      rename_i a xs
      cases (show u = Value.ref a from rv)
      obtain ⟨o, its, n, h1, h2, h3, h4⟩ := sqT_obj J (I.sqT hs)
      exact .tup h1 h2 h3 (nested_all J I ks xs its.toList ra h4)
theorem nested_all (J : Inv X pins σ H s) (I : RE (wdOf X) B F H σ' ρ) : ∀ (ks : List NestedKey) (vs : List V) (us : List Value), RpAll (wdOf X) F vs (NestedKey.datas ks) → Vals vs us → NestedAll s.heap ks us
  | [], vs, us, r, rv => by
    have r : RpAll (wdOf X) F vs [] := r
    cases r; cases rv; exact .nil
  | k :: ks, vs, us, r, rv => by
    have r : RpAll (wdOf X) F vs (k.data :: NestedKey.datas ks) := r
    cases r with
    | cons a b =>
      cases rv with
      | cons c d => exact .cons (nested_is J I k _ _ a c) (nested_all J I ks _ _ b d)
end
end
open Classical in
noncomputable def dget : List (D × D) → D → Option D
  | [], _ => none
  | p :: r, k => if p.1 = k then some p.2 else dget r k
open Classical in
noncomputable def dput (kvs : List (D × D)) (k v : D) : List (D × D) := if (dget kvs k).isSome = true then kvs.map fun p => if p.1 = k then (p.1, v) else p else kvs ++ [(k, v)]
def vget : List (NestedKey × Addr × V) → NestedKey → Option V
  | [], _ => none
  | p :: r, k => if p.1 = k then some p.2.2 else vget r k
def vput (xs : List (NestedKey × Addr × V)) (k : NestedKey) (q : Addr) (v : V) : List (NestedKey × Addr × V) := if (vget xs k).isSome = true then xs.map fun p => if p.1 = k then (p.1, p.2.1, v) else p else xs ++ [(k, q, v)]
section
variable {W : Wd} {F : Hp}
theorem RpKV.look (k : NestedKey) : ∀ {xs : List (NestedKey × Addr × V)} {kvs : List (D × D)}, RpKV W F xs kvs → (vget xs k = none ∧ dget kvs k.data = none) ∨ ∃ v d, vget xs k = some v ∧ dget kvs k.data = some d ∧ Rp W F v d
  | _, _, .nil => .inl ⟨rfl, rfl⟩
  | _, _, .cons (k := k0) (v := v) (d := d) _ _ a b => by
    unfold vget dget
    by_cases c : k0 = k
    · subst c
      rw [if_pos rfl, if_pos rfl]
      exact .inr ⟨v, d, rfl, rfl, a⟩
    · rw [if_neg c, if_neg fun z => c (data_inj z)]
      exact b.look k
theorem RpKV.map (k : NestedKey) {v : V} {d : D} (rv : Rp W F v d) : ∀ {xs : List (NestedKey × Addr × V)} {kvs : List (D × D)}, RpKV W F xs kvs → RpKV W F (xs.map fun p => if p.1 = k then (p.1, p.2.1, v) else p) (open Classical in kvs.map fun p => if p.1 = k.data then (p.1, d) else p)
  | _, _, .nil => .nil
  | _, _, .cons (k := k0) z kr a b => by
    rw [List.map_cons, List.map_cons]
    by_cases c : k0 = k
    · subst c
      rw [if_pos rfl, if_pos rfl]
      exact .cons z kr rv (b.map k0 rv)
    · rw [if_neg c, if_neg fun q => c (data_inj q)]
      exact .cons z kr a (b.map k rv)
theorem RpKV.append : ∀ {xs ys : List (NestedKey × Addr × V)} {ks ls : List (D × D)}, RpKV W F xs ks → RpKV W F ys ls → RpKV W F (xs ++ ys) (ks ++ ls)
  | _, _, _, _, .nil, r => r
  | _, _, _, _, .cons z k a b, r => .cons z k a (b.append r)
theorem RpKV.put {k : NestedKey} {q : Addr} {v : V} {d : D} (hz : k.depth ≤ 8) (rk : Rp W F (.ref q) k.data) (rv : Rp W F v d) {xs : List (NestedKey × Addr × V)} {kvs : List (D × D)} (h : RpKV W F xs kvs) : RpKV W F (vput xs k q v) (dput kvs k.data d) := by
  unfold vput dput
  rcases h.look k with ⟨e1, e2⟩ | ⟨v', d', e1, e2, _⟩
  · rw [e1, e2]
    exact h.append (.cons hz rk rv .nil)
  · rw [e1, e2]
    exact h.map k rv
theorem RpKV.keyOf {key : D} {d : D} : ∀ {xs : List (NestedKey × Addr × V)} {kvs : List (D × D)}, RpKV W F xs kvs → dget kvs key = some d → ∃ k : NestedKey, k.data = key ∧ k.depth ≤ 8
  | _, _, .nil, e => by cases e
  | _, _, .cons (k := k0) z _ _ b, e => by
    unfold dget at e
    by_cases c : k0.data = key
    · exact ⟨k0, c, z⟩
    · rw [if_neg c] at e
      exact b.keyOf e
end
abbrev PKV : List (NestedKey × Addr × V) → List (NestedKey × Addr × Value) → Prop := Paired fun p q => p.1 = q.1 ∧ p.2.1 = q.2.1 ∧ RelV p.2.2 q.2.2
theorem pkv_get (k : NestedKey) : ∀ {xs : List (NestedKey × Addr × V)} {ys : List (NestedKey × Addr × Value)}, PKV xs ys → (vget xs k = none ∧ atKey ys k = none) ∨ ∃ v a u, vget xs k = some v ∧ atKey ys k = some (a, u) ∧ RelV v u
  | _, _, .nil => .inl ⟨rfl, rfl⟩
  | p :: _, q :: _, .cons e r => by
    obtain ⟨e1, e2, e3⟩ := e
    unfold vget
    by_cases c : p.1 = k
    · rw [if_pos c]
      refine .inr ⟨p.2.2, q.2.1, q.2.2, rfl, ?_, e3⟩
      unfold atKey
      rw [List.find?_cons_of_pos (by rw [← e1]; exact decide_eq_true c)]
      rfl
    · rw [if_neg c]
      have e : ∀ r', atKey (q :: r') k = atKey r' k := fun r' => by
        unfold atKey
        rw [List.find?_cons_of_neg (by rw [← e1, decide_eq_true_eq]; exact c)]
      rw [e]
      exact pkv_get k r
theorem pkv_map (k : NestedKey) {v : V} {u : Value} (rv : RelV v u) : ∀ {xs : List (NestedKey × Addr × V)} {ys : List (NestedKey × Addr × Value)}, PKV xs ys → PKV (xs.map fun p => if p.1 = k then (p.1, p.2.1, v) else p) (ys.map (putAt k u))
  | _, _, .nil => .nil
  | p :: _, q :: _, .cons e r => by
    obtain ⟨e1, e2, e3⟩ := e
    rw [List.map_cons, List.map_cons]
    refine .cons ?_ (pkv_map k rv r)
    unfold putAt
    by_cases c : p.1 = k
    · rw [if_pos c, if_pos (by rw [← e1]; exact c)]
      exact ⟨e1, e2, rv⟩
    · rw [if_neg c, if_neg (by rw [← e1]; exact c)]
      exact ⟨e1, e2, e3⟩
theorem pkv_app {xs xs' : List (NestedKey × Addr × V)} {ys ys' : List (NestedKey × Addr × Value)} : PKV xs ys → PKV xs' ys' → PKV (xs ++ xs') (ys ++ ys') := by
  intro h h'
  induction h with
  | nil => exact h'
  | cons a b ih => exact .cons a ih
theorem pkv_put {k : NestedKey} {q : Addr} {v : V} {u : Value} (rv : RelV v u) {xs : List (NestedKey × Addr × V)} {ys : List (NestedKey × Addr × Value)} (h : PKV xs ys) : PKV (vput xs k q v) (storedH ys k q u) := by
  unfold vput storedH
  rcases pkv_get k h with ⟨e1, e2⟩ | ⟨v', a, u', e1, e2, _⟩
  · rw [e1, e2]
    exact pkv_app h (.cons ⟨rfl, rfl, rv⟩ .nil)
  · rw [e1, e2]
    exact pkv_map k rv h
section
variable {X : Cx} {B : Bs} {pins : List (Addr × Obj)} {σ σ' : L2.St} {F H : Hp} {ρ : DEnv} {s : Shared} {a : Addr} {xs : List (NestedKey × Addr × V)} {kvs : List (D × D)}
theorem rpkv_is (J : Inv X pins σ H s) (I : RE (wdOf X) B F H σ' ρ) : ∀ {xs : List (NestedKey × Addr × V)} {ys : List (NestedKey × Addr × Value)} {kvs : List (D × D)}, RpKV (wdOf X) F xs kvs → PKV xs ys → ∀ y ∈ ys, (nestedKind X.prog X.w).is s.heap y.1 y.2.1
  | _, _, _, .nil, .nil, y, hy => nomatch hy
  | _, _, _, .cons z kr _ b, .cons e r, y, hy => by
    rcases List.mem_cons.mp hy with rfl | hy
    · obtain ⟨e1, e2, _⟩ := e
      dsimp only at e1 e2
      rw [← e1, ← e2]
      exact ⟨nested_is J I _ _ _ kr rfl, z⟩
    · exact rpkv_is J I b r y hy
theorem dic_at (J : Inv X pins σ H s) (I : RE (wdOf X) B F H σ' ρ) (h : Rd H a (dicO (wdOf X) a xs)) (r : RpKV (wdOf X) F xs kvs) : (a == sysModules) = false ∧ xs.length ≤ sizeLine ∧ ∃ ys, PKV xs ys ∧ s.heap.DictOfH (nestedKind X.prog X.w) a ys := by
  obtain ⟨⟨hz, hs, ys, pr, o, es, ep, ho, hx, hd, he, hn⟩, _⟩ := h.ok J.hok
  exact ⟨hs, hz, ys, pr, o, es, ep, ho, hx, hd, he, rpkv_is J I r pr, hn⟩
/-- a dict at a is told -/
structure DicV (X : Cx) (H : Hp) (x y : V) (a : Addr) (xs : List (NestedKey × Addr × V)) (k : NestedKey) : Prop where
  ex : ∃ (B : Bs) (F : Hp) (σ : L2.St) (ρ : DEnv) (kvs : List (D × D)) (q : Addr), RE (wdOf X) B F H σ ρ ∧ x = .ref a ∧ Rd H a (dicO (wdOf X) a xs) ∧ RpKV (wdOf X) F xs kvs ∧ y = .ref q ∧ Rp (wdOf X) F y k.data ∧ k.depth ≤ 8
def rGetD (X : Cx) : R2 := fun x y H Q => ∃ a xs k v, DicV X H x y a xs k ∧ vget xs k = some v ∧ Q v H
theorem room_dic {A : Around} (hu : A.units + 64 < cLine) {P : Program} {w : World} : (nestedKind P w).room A.in1 := by
  show A.units + 1 + 8 < cLine
  omega
theorem ix_dic (hu : X.A.units + 64 < cLine) : IxR X (rGetD X) := by
  intro value slice pins s σ H x y v u Q J rx ry h hp
  obtain ⟨a, xs, k, v', ⟨B, F, σ', ρ, kvs, q, I, rfl, hr, rk, rfl, rq, hz⟩, hv, hQ⟩ := h
  cases (show v = Value.ref a from rx)
  cases (show u = Value.ref q from ry)
  obtain ⟨hs, hl, ys, pr, hd⟩ := dic_at J I hr rk
  rcases pkv_get k pr with ⟨e1, e2⟩ | ⟨w', p, u', e1, e2, rr⟩
  · rw [hv] at e1; cases e1
  · rw [hv] at e1
    cases e1
    refine tail_any hd.typeIs PySem.F.slot_dict_getitem.lookup (wpAny_getItem_heap (room_dic hu) ⟨nested_is J I k _ _ rq rfl, hz⟩ hd e2 ?_) hp
    exact ⟨v', H, J.tok _, rr, hQ⟩
def rInD (X : Cx) (neg : Bool) : R2 := fun y x H Q => ∃ a xs k, DicV X H x y a xs k ∧ Q (.bl (if neg then !(vget xs k).isSome else (vget xs k).isSome)) H
theorem some_eq {k : NestedKey} {xs : List (NestedKey × Addr × V)} {ys : List (NestedKey × Addr × Value)} (pr : PKV xs ys) : (atKey ys k).isSome = (vget xs k).isSome := by
  rcases pkv_get k pr with ⟨e1, e2⟩ | ⟨w', p, u', e1, e2, rr⟩ <;> rw [e1, e2] <;> rfl
theorem op_inDic (hu : X.A.units + 64 < cLine) : OpR X (compareOp .In) (rInD X false) := by
  intro pins s σ H x y v u Q J rx ry h
  obtain ⟨a, xs, k, ⟨B, F, σ', ρ, kvs, q, I, rfl, hr, rk, rfl, rq, hz⟩, hQ⟩ := h
  cases (show u = Value.ref a from ry)
  cases (show v = Value.ref q from rx)
  obtain ⟨hs, hl, ys, pr, hd⟩ := dic_at J I hr rk
  refine wpAny_in_heap (room_dic hu) ⟨nested_is J I k _ _ rq rfl, hz⟩ hs hd ?_
  rw [some_eq pr]
  exact ⟨.bl _, H, J.tok _, rfl, hQ⟩
theorem op_notinDic (hu : X.A.units + 64 < cLine) : OpR X (compareOp .NotIn) (rInD X true) := by
  intro pins s σ H x y v u Q J rx ry h
  obtain ⟨a, xs, k, ⟨B, F, σ', ρ, kvs, q, I, rfl, hr, rk, rfl, rq, hz⟩, hQ⟩ := h
  cases (show u = Value.ref a from ry)
  cases (show v = Value.ref q from rx)
  obtain ⟨hs, hl, ys, pr, hd⟩ := dic_at J I hr rk
  refine notIn_keyed (room_dic hu) ⟨nested_is J I k _ _ rq rfl, hz⟩ hs ⟨ys, hd, rfl⟩ ?_
  rw [valueAt_pairsH, Option.isSome_map, some_eq pr]
  exact ⟨.bl _, H, J.tok _, rfl, hQ⟩
/-- d.get(k, e) -/
def rGetOr (X : Cx) : V → List V → Hp → VK → Prop := fun x vs H Q => ∃ a xs k y z, vs = [y, z] ∧ DicV X H x y a xs k ∧ Q ((vget xs k).getD z) H
theorem mt_getOr (hu : X.A.units + 64 < cLine) : MtR X "dict.get" (rGetOr X) := by
  intro pins s σ H x vs v us Q J rx rv h
  obtain ⟨a, xs, k, y, z, rfl, ⟨B, F, σ', ρ, kvs, q, I, rfl, hr, rk, rfl, rq, hz⟩, hQ⟩ := h
  cases (show v = Value.ref a from rx)
  obtain ⟨u1, u2, rfl, r1, r2⟩ := vals2 rv
  cases (show u1 = Value.ref q from r1)
  obtain ⟨hs, hl, ys, pr, hd⟩ := dic_at J I hr rk
  refine getOr_keyed (room_dic hu) ⟨nested_is J I k _ _ rq rfl, hz⟩ hs ⟨ys, hd, rfl⟩ ?_
  rw [valueAt_pairsH]
  rcases pkv_get k pr with ⟨e1, e2⟩ | ⟨w', p, u', e1, e2, rr⟩
  · rw [e2]
    rw [e1] at hQ
    exact ⟨z, H, J.tok _, r2, hQ⟩
  · rw [e2]
    rw [e1] at hQ
    exact ⟨w', H, J.tok _, rr, hQ⟩
theorem dic_ty (J : Inv X pins σ H s) (h : Rd H a (dicO (wdOf X) a xs)) : s.TypeIs (.ref a) "dict" ∧ ∀ b, Value.ref a = .ref b → ∃ ob, s.heap.get? b = some ob ∧ ob.dict = none := by
  obtain ⟨⟨hz, hs, ys, pr, o, es, ep, ho, hx, hd, he, hn⟩, _⟩ := h.ok J.hok
  refine ⟨⟨o, ho, hx.1⟩, fun b e => ?_⟩
  cases e
  exact ⟨o, ho, hx.2.1⟩
/-- d[k] = v -/
def rSetD (X : Cx) : TSet := fun x y v H Q => ∃ a xs k q, y = .ref q ∧ H a = some (dicO (wdOf X) a xs) ∧ DicV X H x y a xs k ∧ xs.length < sizeLine ∧ Q (L2.upd H a (dicO (wdOf X) a (vput xs k q v)))
theorem vput_length {xs : List (NestedKey × Addr × V)} {k : NestedKey} {q : Addr} {v : V} : (vput xs k q v).length ≤ xs.length + 1 := by
  unfold vput
  split
  · rw [List.length_map]; omega
  · rw [List.length_append]; exact Nat.le_refl _
theorem set_dic (hu : X.A.units + 64 < cLine) : PSet X (rSetD X) := by
  intro pins s σ H o i v ov iv u Q J ro ri rv h
  obtain ⟨a, xs, k, q, rfl, hH, ⟨B, F, σ', ρ, kvs, q', I, rfl, hr, rk, eq, rq, hz⟩, hl', hQ⟩ := h
  cases eq
  cases (show ov = Value.ref a from ro)
  cases (show iv = Value.ref q from ri)
  obtain ⟨hs, hl, ys, pr, hd⟩ := dic_at J I hr rk
  have ll : xs.length = ys.length := Paired.length pr
  refine wpAny_setItem_heap (hsz := by omega) (room_dic hu) ⟨nested_is J I k _ _ rq rfl, hz⟩ hd fun h' hd' sb => ?_
  refine ⟨_, ?_, hQ⟩
  obtain ⟨o', es', ep', ho', hx', hdt', he', _, hn'⟩ := hd'
  refine J.write (t' := s.toks + (nestedKind X.prog X.w).draws k) (x := a) (e := a) (o := dicO (wdOf X) a (vput xs k q v)) (by rw [hH]; trivial) (.inl rfl) (fun b ob hb e => (sb.2 b hb).trans e) ⟨o', ho'⟩ ?_
  refine ⟨⟨?_, hs, storedH ys k q u, pkv_put rv pr, o', es', ep', ho', hx', hdt', he', hn'⟩, ⟨o', ho'⟩, fun h1 h2 z kk => ?_⟩
  · have := @vput_length xs k q v
    omega
  · obtain ⟨z1, z2, ys2, z3, o2, es2, ep2, y1, y2⟩ := z
    exact ⟨z1, z2, ys2, z3, o2, es2, ep2, kk _ y1, y2⟩
theorem dic_new {h : Heap} (hb : sysModules < h.objs.size) : ObjOk X.prog X.w (L2.upd H h.objs.size (dicO (wdOf X) h.objs.size [])) (h.push { cls := .type "dict", data := .dict #[] }) h.objs.size (dicO (wdOf X) h.objs.size []) := by
  obtain ⟨o, es, ep, ho, hx, hd, he, _, hn⟩ := Heap.DictOfH.new (knd := nestedKind X.prog X.w) h
  refine ⟨⟨Nat.zero_le _, ?_, [], .nil, o, es, ep, ho, hx, hd, he, hn⟩, ⟨o, ho⟩, fun h1 h2 z kk => ?_⟩
  · exact beq_eq_false_iff_ne.mpr (Nat.ne_of_gt hb)
  · obtain ⟨z1, z2, ys2, z3, o2, es2, ep2, y1, y2⟩ := z
    exact ⟨z1, z2, ys2, z3, o2, es2, ep2, kk _ y1, y2⟩
theorem pe_dnewD {pos : Pos} : PE X (.Dict [] [] pos) (fun _ H Q => ∀ p, H p = none → Q (.ref p) (L2.upd H p (dicO (wdOf X) p []))) := ⟨fun pins s σ H Q I h =>
  wpAny_Dict_empty ⟨.ref s.heap.objs.size, _, I.laid (a := s.heap.objs.size) (o := dicO (wdOf X) s.heap.objs.size []) (t' := s.toks) (fun _ _ q => Heap.get?_push_of_some _ q) (Nat.le_refl _) (dic_new I.big), rfl, h _ (I.hok.fresh (Nat.le_refl _))⟩⟩
end
end DL
set_option Elab.async false
set_option linter.all false
set_option maxRecDepth 100000
set_option maxHeartbeats 4000000
namespace DL
open PySem PySem.Spec L2
open PyProof.Rows hiding St
/-- a tuple that may be a key -/
def isKey (d : D) : Prop := ∃ ks : List NestedKey, d = (NestedKey.tup ks).data ∧ (NestedKey.tup ks).depth ≤ 8
section
variable {X : Cx} {Wx : WX} {a b e e2 : Expr} {es : List Expr} {pos p : Pos} {t ta tb : TD} {u : TDA} {B : Bs} {F H : Hp} {σ : L2.St} {ρ : DEnv}
theorem View.key {v : V} {ks : List NestedKey} (I : RE (wdOf X) B F H σ ρ) (h : View (wdOf X) F H v (NestedKey.tup ks).data) : ∃ q, v = .ref q ∧ Rp (wdOf X) F v (NestedKey.tup ks).data := by
  obtain ⟨q, us, e, _, _, r⟩ := View.tup I (ds := NestedKey.datas ks) h
  exact ⟨q, e, r⟩
theorem RpKV.tupKey {W : Wd} {key d : D} : ∀ {xs : List (NestedKey × Addr × V)} {kvs : List (D × D)}, RpKV W F xs kvs → dget kvs key = some d → isKey key
  | _, _, .nil, e => by cases e
  | _, _, .cons (k := k0) z kr _ b, e => by
    unfold dget at e
    by_cases c : k0.data = key
    · subst c
      cases k0 with
      | tup ks => exact ⟨ks, rfl, z⟩
      | none => exact absurd (show Rp W F (.ref _) PyData.none from kr) (fun h => by cases h)
      | num i => exact absurd (show Rp W F (.ref _) (PyData.int i) from kr) (fun h => by cases h)
      | text i => exact absurd (show Rp W F (.ref _) (PyData.str i) from kr) (fun h => by cases h)
    · rw [if_neg c] at e
      exact b.tupKey e
theorem dicV_of {x y : V} {kvs : List (D × D)} {ks : List NestedKey} (I : RE (wdOf X) B F H σ ρ) (vx : View (wdOf X) F H x (.dict kvs)) (vy : View (wdOf X) F H y (NestedKey.tup ks).data) (hz : (NestedKey.tup ks).depth ≤ 8) :
    ∃ a xs, x = .ref a ∧ RpKV (wdOf X) F xs kvs ∧ DicV X H x y a xs (.tup ks) := by
  obtain ⟨a, xs, ex, hr, rk⟩ := vx.dict I
  obtain ⟨q, ey, ry⟩ := vy.key I
  exact ⟨a, xs, ex, rk, B, F, σ, ρ, kvs, q, I, ex, hr, rk, ey, ry, hz⟩
def gIxA : G2 := fun a b Q => match a with
  | .dict kvs => ∃ v, dget kvs b = some v ∧ Q (.pure v)
  | a => gIx a b Q
theorem gIxA.mono : ∀ a b (Q Q' : RV → Prop), gIxA a b Q → (∀ r, Q r → Q' r) → gIxA a b Q' := fun a b Q Q' h hq => by
  cases a with
  | dict kvs => obtain ⟨v, e, q⟩ := h; exact ⟨v, e, hq _ q⟩
  | none => exact gIx.mono .none b Q Q' h hq
  | bool x => exact gIx.mono (.bool x) b Q Q' h hq
  | int x => exact gIx.mono (.int x) b Q Q' h hq
  | str x => exact gIx.mono (.str x) b Q Q' h hq
  | list x => exact gIx.mono (.list x) b Q Q' h hq
  | tuple x => exact gIx.mono (.tuple x) b Q Q' h hq
theorem de_ixA (hu : X.A.units + 64 < cLine) (ha : DE X Wx a ta) (hb : DE X Wx b tb) (hs : PlainIx b) : DE X Wx (.Subscript a b pos) (dOp gIxA ta tb) := by
  refine ⟨fun B => PE.imp (pe_ix (IxR.or ix_seq (ix_dic hu)) (ha.run B) (hb.run B) hs) fun σ H Q hh => ?_, dOp.mono gIxA.mono ha.mono hb.mono⟩
  obtain ⟨F, ρ, I, hv⟩ := hh
  refine two_of ha hb I hv fun F2 H2 ρ2 x y da db l I2 vx vy h2 => ?_
  have main : gIx da db (fun r => ∀ v F' H', Le F F' → RE (wdOf X) B F' H' σ ρ2 → RVok (wdOf X) B F' H' σ ρ2 v r → Q v H') → rIx X.K x y H2 Q := fun h3 => by
    clear h2
    have h2 := h3
    clear h3
    unfold gIx at h2
    split at h2
    · rename_i xs i
      obtain ⟨d, e1, q⟩ := h2
      obtain ⟨p, us, ep, hp, rp⟩ := vx.list I2
      obtain ⟨v, e2, rv⟩ := rp.atI e1
      exact .inl ⟨p, us, i, v, ep, vy.int, .inl hp, e2, q _ _ _ l I2 rv⟩
    · rename_i xs i
      obtain ⟨d, e1, q⟩ := h2
      obtain ⟨p, us, ep, hp, rp, _⟩ := vx.tup I2
      obtain ⟨v, e2, rv⟩ := rp.atI e1
      exact .inr (.inl ⟨p, us, i, v, ep, vy.int, hp, e2, q _ _ _ l I2 rv⟩)
    · rename_i z i
      obtain ⟨hz, c, e1, q⟩ := h2
      exact .inr (.inr ⟨z, i, c, vx.str, vy.int, hz, e1, q _ _ _ l I2 (Rp.str _)⟩)
    · exact h2.elim
  cases da with
  | dict kvs =>
    obtain ⟨v, e1, q⟩ := h2
    obtain ⟨a0, xs0, ex0, hr0, rk0⟩ := vx.dict I2
    obtain ⟨ks, ek, hz⟩ := rk0.tupKey e1
    subst ek
    obtain ⟨a1, xs, ex, rk, dv⟩ := dicV_of I2 vx vy hz
    rcases rk.look (.tup ks) with ⟨_, z⟩ | ⟨v', d', e3, e4, r⟩
    · rw [e1] at z; cases z
    · rw [e1] at e4
      cases e4
      exact .inr ⟨a1, xs, .tup ks, v', dv, e3, q _ _ _ l I2 r⟩
  | _ => exact .inl (main h2)
def gInA (neg : Bool) : GC := fun a b Q => match b with
  | .dict kvs => isKey a ∧ Q (if neg then !(dget kvs a).isSome else (dget kvs a).isSome)
  | b => gIn neg a b Q
theorem gInA.mono (neg : Bool) : ∀ a b (Q Q' : Bool → Prop), gInA neg a b Q → (∀ r, Q r → Q' r) → gInA neg a b Q' := fun a b Q Q' h hq => by
  cases b with
  | dict kvs => exact ⟨h.1, hq _ h.2⟩
  | none => exact gIn.mono neg a .none Q Q' h hq
  | bool x => exact gIn.mono neg a (.bool x) Q Q' h hq
  | int x => exact gIn.mono neg a (.int x) Q Q' h hq
  | str x => exact gIn.mono neg a (.str x) Q Q' h hq
  | list x => exact gIn.mono neg a (.list x) Q Q' h hq
  | tuple x => exact gIn.mono neg a (.tuple x) Q Q' h hq
theorem vget_some {ks : NestedKey} {xs : List (NestedKey × Addr × V)} {kvs : List (D × D)} (rk : RpKV (wdOf X) F xs kvs) : (vget xs ks).isSome = (dget kvs ks.data).isSome := by
  rcases rk.look ks with ⟨e1, e2⟩ | ⟨v, d, e1, e2, _⟩ <;> rw [e1, e2] <;> rfl
theorem g_inA (hu : X.A.units + 65 < cLine) : GCmp X .In (gInA false) where
  mono := gInA.mono false
  ex := by
    refine ⟨_, OpR.or (op_inD hu) (op_inDic (by omega)), fun B F H σ ρ x y a b Q Q' I vx vy h k => ?_⟩
    cases b with
    | dict kvs =>
      obtain ⟨⟨ks, ek, hz⟩, q⟩ := h
      subst ek
      obtain ⟨a1, xs, ex, rk, dv⟩ := dicV_of I vy vx hz
      exact .inr ⟨a1, xs, .tup ks, dv, by rw [vget_some rk]; exact k _ q⟩
    | list ds => exact .inl ⟨_, _, vx.dp I (SeqAt.canLay_of_shaped h.1), vy.dp I (SeqAt.canLay_of_shaped h.2.1), h.1, h.2.1, k _ h.2.2⟩
    | _ => exact (show False from h).elim
theorem g_notinA (hu : X.A.units + 65 < cLine) : GCmp X .NotIn (gInA true) where
  mono := gInA.mono true
  ex := by
    refine ⟨_, OpR.or (op_notInD hu) (op_notinDic (by omega)), fun B F H σ ρ x y a b Q Q' I vx vy h k => ?_⟩
    cases b with
    | dict kvs =>
      obtain ⟨⟨ks, ek, hz⟩, q⟩ := h
      subst ek
      obtain ⟨a1, xs, ex, rk, dv⟩ := dicV_of I vy vx hz
      exact .inr ⟨a1, xs, .tup ks, dv, by
        have := k _ q
        rw [if_pos rfl] at this ⊢
        rw [vget_some rk]; exact this⟩
    | list ds => exact .inl ⟨_, _, vx.dp I (SeqAt.canLay_of_shaped h.1), vy.dp I (SeqAt.canLay_of_shaped h.2.1), h.1, h.2.1, k _ h.2.2⟩
    | _ => exact (show False from h).elim
def dDict0 : TD := fun ρ Q _ => Q (.tmp (.dic [])) ρ
theorem de_dict0 : DE X Wx (.Dict [] [] pos) dDict0 := by
  refine ⟨fun B => PE.imp pe_dnewD fun σ H Q hh => ?_, fun _ _ _ _ _ h hq _ => hq _ _ h⟩
  obtain ⟨F, ρ, I, hv⟩ := hh
  intro q hq
  obtain ⟨I2, r2⟩ := ok_newobj (u := dicO (wdOf X) q []) (o := .dic []) I hq ⟨[], rfl, .nil⟩
  exact hv _ F _ (Le.refl F) I2 r2
theorem PSet.or {r r' : TSet} (h : PSet X r) (h' : PSet X r') : PSet X (fun o i v H Q => r o i v H Q ∨ r' o i v H Q) := fun pins s σ H o i v ov iv u Q I ro ri rv q => q.elim (h pins s σ H o i v ov iv u Q I ro ri rv) (h' pins s σ H o i v ov iv u Q I ro ri rv)
def dgItemA (i : Nat) (ti : TD) : TDG := fun r ρ Q => keepR r ρ fun d ρ1 => (∃ ob, HasD ρ1 i (.own ob)) ∧ ti ρ1 (fun rk ρ2 => (∃ ds k j, HasD ρ2 i (.own (.lst ds)) ∧ rvData ρ2 rk = some (.int k) ∧ ixN ds.length k = some j ∧ Q (ρ2.set i (some (.own (.lst (ds.set j d)))))) ∨
  ∃ kvs key, HasD ρ2 i (.own (.dic kvs)) ∧ rvData ρ2 rk = some key ∧ isKey key ∧ kvs.length < sizeLine ∧ Q (ρ2.set i (some (.own (.dic (dput kvs key d)))))) fun _ _ => False
theorem own_dic {W : Wd} {i : Nat} {kvs : List (D × D)} (I : RE W B F H σ ρ) (hd : HasD ρ i (.own (.dic kvs))) : ∃ a xs, HasV σ i (.ref a) ∧ F a = none ∧ H a = some (dicO W a xs) ∧ RpKV W F xs kvs := by
  obtain ⟨v, e1, a, y, ev, f, hh, xs, eu, ra⟩ := I.sl i _ hd
  subst ev
  subst eu
  exact ⟨a, xs, e1, f, hh, ra⟩
theorem dg_itemA {ios : List Nat} {i : Nat} {o k : Expr} {ti : TD} (hu : X.A.units + 64 < cLine) (ho : PE X o (tVar i)) (hi : DE X W0 k ti)
    (ha : ∀ v, assign (.Subscript o k pos) X.env v = (do
      let ov ← holding [v] (eval o X.env)
      let iv ← holding [v, ov] (eval k X.env)
      standAt pos
      holding [v, ov, iv] (setItem ov iv v)
      release [v, ov, iv] []) := by intro _; rfl) : DG X ios (.Subscript o k pos) (dgItemA i ti) := by
  refine ⟨fun B hb => ⟨fun pins s σ H v u Q I0 r hh => ?_⟩, fun r ρ Q Q' kk hq => keepR.mono kk fun d ρ1 k1 => ⟨k1.1, hi.mono _ _ _ _ _ k1.2 (fun rk ρ2 k2 => ?_) fun _ _ z => z⟩⟩
  · obtain ⟨F, ρ, r0, I, ok, hv⟩ := hh
    obtain ⟨F1, ρ1, d, l1, I1, rp, ⟨ob0, hd0⟩, k1⟩ := keep_of I ok hv
    obtain ⟨x, e1, a, y, ev, f, hh, rr⟩ := I1.sl i _ hd0
    subst ev
    refine (pg_sub ho (hi.run { B with F := F1 }) (PSet.or set_list (set_dic hu)) ha).run pins s σ H v u Q I0 r ⟨.ref a, e1, F1, ρ1, I1.reF, hi.mono _ _ _ _ _ k1 (fun rk ρ2 k2 w F2 H2 l2 I2 ok2 => ?_) fun _ _ z => z.elim⟩
    rcases k2 with ⟨ds, k, j, hd, ek, hj, q⟩ | ⟨kvs, key, hd, ek, ⟨ks, eks, hz⟩, hl, q⟩
    · obtain ⟨a', xs', e1', f', hh', ra'⟩ := own_lst I2 hd
      cases HasV.inj e1 e1'
      have wk := (view_of I2 ok2 ek).int
      subst wk
      refine .inl ⟨a, xs', k, j, rfl, rfl, hh', by rw [ra'.length]; exact hj, q σ F2 _ (I1.unF ?_)⟩
      exact I2.write hd e1 (ob' := .lst (ds.set j d)) ⟨_, rfl, RpAll.set (Rp.mono l2 rp) j ra'⟩
    · subst eks
      obtain ⟨a', xs', e1', f', hh', ra'⟩ := own_dic I2 hd
      cases HasV.inj e1 e1'
      obtain ⟨q', eq', rk'⟩ := (view_of I2 ok2 ek).key I2
      subst eq'
      have ll := ra'.length
      refine .inr ⟨a, xs', .tup ks, q', rfl, hh', ⟨_, F2, σ, ρ2, kvs, q', I2, rfl, .inl hh', ra', rfl, rk', hz⟩, by omega, q σ F2 _ (I1.unF ?_)⟩
      exact I2.write hd e1 (ob' := .dic (dput kvs (NestedKey.tup ks).data d)) ⟨_, rfl, ra'.put hz rk' (Rp.mono l2 rp)⟩
  · rcases k2 with ⟨ds, k, j, h1, h2, h3, q⟩ | ⟨kvs, key, h1, h2, h3, h4, q⟩
    · exact .inl ⟨ds, k, j, h1, h2, h3, hq _ q⟩
    · exact .inr ⟨kvs, key, h1, h2, h3, h4, hq _ q⟩
theorem pe_bmG {T id : String} {name : Str} {r : V → List V → Hp → VK → Prop} {o : Expr} {to : TE} {tA : TA} {apos cpos : Pos} {ty : V → Hp → Prop} (hty0 : ∀ (pins : List (Addr × Obj)) (σ : L2.St) (H : Hp) (s : Shared) (x : V) (v : Value), Inv X pins σ H s → RelV x v → ty x H → s.TypeIs v T ∧ ∀ b, v = .ref b → ∃ ob, s.heap.get? b = some ob ∧ ob.dict = none)
    (pa : PlainAttrs T) (slot : Slot T name id) (hty : typeOf (.builtin id) = pure (.type "method_descriptor")) (hm : MtR X id r) (ho : PE X o to) (ha : PA X (e :: es) tA)
    (hbase : attributeBase o name X.env (eval o X.env) = eval o X.env := by rfl)
    (hfew : ((backTo cpos (starEach (e :: es) X.env)).all (fun x => !x.1) && (backToKw cpos (keywordEach [] X.env)).all (fun x => x.1.isSome)
      && decide ((e :: es).length + ([] : List Keyword).length + (if ([] : List Keyword).isEmpty then 0 else 1) < 30)) = true := by rfl)
    (hline : (apos.endLine == cpos.line) = true := by rfl) (hs : starEach (e :: es) X.env = (false, eval e X.env) :: starEach es X.env := by rfl) (hplain : (backTo cpos (starEach es X.env)).any (·.1) = false := by rfl) :
    PE X (.Call (.Attribute o name apos) (e :: es) [] cpos) (fun σ H Q => to σ H fun x H1 => ty x H1 ∧ tA σ H1 fun xs H2 => r x xs H2 Q) := by
  refine ⟨fun pins s σ H Q I h => ?_⟩
  refine wpAny_Call_method_late hbase hfew hline rfl (thn (ho.run pins s σ H _ I h) fun v s1 ⟨x, H1, I1, r1, ty, q1⟩ => ?_)
  obtain ⟨h1, h2⟩ := hty0 pins σ H1 s1 x v I1 r1 ty
  refine ⟨T, id, pa, slot, hty, h1, h2, ?_⟩
  have hA := ha.run cpos pins s1 σ H1 _ I1 q1
  rw [hs] at hA ⊢
  refine Calls.callWith_builtin (by show (false || (backTo cpos (starEach es X.env)).any (·.1)) = false; rw [hplain] <;> rfl) (Calls.evalArgs_plain ?_)
  exact thn hA fun us s2 ⟨vs, H2, I2, r2, q2⟩ => hm pins s2 σ H2 x vs v us Q I2 r1 r2 q2
end
end DL
set_option Elab.async false
set_option linter.all false
set_option maxRecDepth 100000
set_option maxHeartbeats 4000000
namespace DL
open PySem PySem.Spec L2
open PyProof.Rows hiding St
theorem dx_dictSet {X : Cx} {pins : List (Addr × Obj)} {σ : L2.St} {H : Hp} {s : Shared} {E : Value → Shared → Prop} {D : Addr} {xs : List (NestedKey × Addr × V)} {k : NestedKey} {q : Addr} {v : V} {u r : Value} {Q : Unit → Shared → Prop} (hu : X.A.units + 64 < cLine) (J : Inv X pins σ H s) (hH : H D = some (dicO (wdOf X) D xs)) (hz : xs.length < sizeLine)
    (dv : DicV X H (.ref D) (.ref q) D xs k) (ry : RelV (.ref q) u) (rv : RelV v r) (h : ∀ s', Inv X pins σ (L2.upd H D (dicO (wdOf X) D (vput xs k q v))) s' → Q () s') : wpAny (model X.prog X.w) X.A (dictSet D u r) Q E s := by
  obtain ⟨B, F, σ', ρ, kvs, q', I, _, hr, rk, eq, rq, hzk⟩ := dv
  cases eq
  cases (show u = Value.ref q from ry)
  obtain ⟨hs, hl, ys, pr, hd⟩ := dic_at J I hr rk
  have ll : xs.length = ys.length := Paired.length pr
  refine wpAny_dictSet_heap (hsz := by omega) (show (nestedKind X.prog X.w).room X.A from by show X.A.units + 8 < cLine; omega) ⟨nested_is J I k _ _ rq rfl, hzk⟩ hd fun h' hd' sb => h _ ?_
  obtain ⟨o', es', ep', ho', hx', hdt', he', _, hn'⟩ := hd'
  refine J.write (t' := s.toks + (nestedKind X.prog X.w).draws k) (x := D) (e := D) (o := dicO (wdOf X) D (vput xs k q v)) (by rw [hH]; trivial) (.inl rfl) (fun b ob hb e => (sb.2 b hb).trans e) ⟨o', ho'⟩ ?_
  refine ⟨⟨?_, hs, storedH ys k q r, pkv_put rv pr, o', es', ep', ho', hx', hdt', he', hn'⟩, ⟨o', ho'⟩, fun h1 h2 z kk => ?_⟩
  · have := @vput_length xs k q v
    omega
  · obtain ⟨z1, z2, ys2, z3, o2, es2, ep2, y1, y2⟩ := z
    exact ⟨z1, z2, ys2, z3, o2, es2, ep2, kk _ y1, y2⟩
/-- {k: v for target in iter if ..}, keys nested tuples: D the new dict -/
def tDcx (X : Cx) (wi : TI) (g : TG) (tt : TT) (tk tv : TE) (vs : List Nat) : TE := fun σ H Q => wi σ H fun J H1 => ∀ D, H1 D = none → ∃ W : Nat → Nat → Hp → Prop, (∃ m, W 0 m (L2.upd H1 D (dicO (wdOf X) D []))) ∧ ∀ i m H, W i m H →
  (J.stop i H ∧ Q (.ref D) H) ∨ (J.go i H ∧ ∃ Nx : Hp → Prop, (∀ H', Nx H' → ∃ m', m' < m ∧ W (i + 1) m' H') ∧ ∀ x H', J.yld i H x H' → g x (wipe σ vs) H' fun σ2 H2 => wipe σ2 vs = wipe σ vs ∧ tt σ2 H2 fun b H3 =>
    if b = true then tk σ2 H3 fun y H4 => tv σ2 H4 fun z H5 => ∃ xs k q, y = .ref q ∧ H5 D = some (dicO (wdOf X) D xs) ∧ xs.length < sizeLine ∧ DicV X H5 (.ref D) (.ref q) D xs k ∧ Nx (L2.upd H5 D (dicO (wdOf X) D (vput xs k q z))) else Nx H3)
section
variable {X : Cx}
theorem dcx_core {pins : List (Addr × Obj)} {s : Shared} {σ : L2.St} {H : Hp} {Q : VK} {kx vx tg iter : Expr} {ifs : List Expr} {scope : Scope} {own : List (Str × Nat)} {pos pos' : Pos} {wi : TI} {g : TG} {tt : TT} {tk tv : TE} {use : Option (Value → Sem Unit)} {Qf : Value → Shared → Prop}
    (hu : X.A.units + 64 < cLine) (hc : X.calm = true) (hN : X.N.Nodup) (I : Inv X pins σ H s) (hi : PI X tg iter wi) (ok : BlkOk X.N X.env.scope scope own)
    (hg : ∀ (s : Shared) (H : Hp) (C : Addr) (cl : List (Str × Addr)) (fp : List Addr), PG (X.blk s H scope (compEnvC scope cl C X.env) fp) tg g) (ht : ∀ (s : Shared) (H : Hp) (C : Addr) (cl : List (Str × Addr)) (fp : List Addr), PTs (X.blk s H scope (compEnvC scope cl C X.env) fp) ifs tt)
    (hk : ∀ (s : Shared) (H : Hp) (C : Addr) (cl : List (Str × Addr)) (fp : List Addr), PE (X.blk s H scope (compEnvC scope cl C X.env) fp) kx tk)
    (he : ∀ (s : Shared) (H : Hp) (C : Addr) (cl : List (Str × Addr)) (fp : List Addr), PE (X.blk s H scope (compEnvC scope cl C X.env) fp) vx tv) (hs : ∀ x, foldedSetIterable iter X.env x = pure x)
    (h : tDcx X wi g tt tk tv (own.map (·.2)) σ H Q)
    (hRR : ∀ D C s' m H', Inv X pins σ H' s' → Q (.ref D) H' → s'.heap.Ns C m → FpOk X pins H' C → compPost (model X.prog X.w) X.A X.xe use Qf (.ref D) C (.ok .next) s') :
    wpAny (model X.prog X.w) X.A (comprehension (.DictComp kx vx [⟨tg, iter, ifs, 0⟩] scope pos) scope X.env pos' newDict false (eval iter X.env) use) Qf X.xe s := by
  have hfree : ∀ y ∈ scope.names, y.2 = .free → ∃ c, X.env.cells.lookup y.1 = some c := fun y hy e => by
    rcases ok.free y hy e with k | k
    · exact I.ok.has _ (.inl k)
    · exact I.ok.has _ (.inr k)
  refine wpAny_comprehension_free (use := use) rfl hs (closure_ok hfree) ok.kind (fun y hy e => by rw [ok.uniq y hy, e])
    (thn (hi.run pins s σ H _ I h) fun xv s1 hx => thn hx fun itv s2 h2 => ?_)
  obtain ⟨it, fp, tn, J, H2, e, I2, T, st2, f2, q⟩ := h2
  subst e
  refine wpAny_newObj_type (newEnv_comp ?_)
  generalize hD : s2.heap.objs.size = D
  have hDn : H2 D = none := I2.hok.fresh (Nat.le_of_eq hD)
  obtain ⟨W, ⟨m0, w0⟩, turn⟩ := q D hDn
  -- the new list
  generalize hs3 : ({ s2 with heap := s2.heap.push { cls := .type "dict", data := .dict #[] } } : Shared) = s3
  have I3 : Inv X pins σ (L2.upd H2 D (dicO (wdOf X) D [])) s3 := by
    rw [← hs3]
    refine I2.laid (t' := s2.toks) (fun b o e => Heap.get?_push_of_some _ e) (Nat.le_of_eq hD) ?_
    rw [← hD]
    exact dic_new I2.big
  have h3 : s3.heap = s2.heap.push { cls := .type "dict", data := .dict #[] } := by rw [← hs3]
  have sz : ∀ b ∈ fp, b < s2.heap.objs.size := fun b hb => by
    obtain ⟨o, e, _⟩ := T.obj _ _ st2 b hb
    exact Heap.lt_size e
  have f3 : ∀ b ∈ fp, FpOk X pins (L2.upd H2 D (dicO (wdOf X) D [])) b ∧ b < s3.heap.objs.size := fun b hb => by
    have hlt := sz b hb
    refine ⟨⟨?_, (f2 b hb).2⟩, by rw [h3, Heap.size_push]; exact Nat.lt_succ_of_lt hlt⟩
    rw [upd_ne (by rw [← hD]; exact Nat.ne_of_lt hlt)]
    exact (f2 b hb).1
  have st3 : tn 0 s3.heap := T.keep _ _ _ st2 fun b _ o e => by rw [h3]; exact Heap.get?_push_of_some _ e
  have I4 := block_start I3 ok hN f3
  have pg := hg s3 (L2.upd H2 D (dicO (wdOf X) D [])) s3.heap.objs.size (cellsFrom (s3.heap.objs.size + 1) scope.names (cloFrom X.env.cells scope.names [])) fp
  have pt := ht s3 (L2.upd H2 D (dicO (wdOf X) D [])) s3.heap.objs.size (cellsFrom (s3.heap.objs.size + 1) scope.names (cloFrom X.env.cells scope.names [])) fp
  have pk := hk s3 (L2.upd H2 D (dicO (wdOf X) D [])) s3.heap.objs.size (cellsFrom (s3.heap.objs.size + 1) scope.names (cloFrom X.env.cells scope.names [])) fp
  have pe := he s3 (L2.upd H2 D (dicO (wdOf X) D [])) s3.heap.objs.size (cellsFrom (s3.heap.objs.size + 1) scope.names (cloFrom X.env.cells scope.names [])) fp
  show codeAny _ _ (.compStart (.DictComp kx vx [⟨tg, iter, ifs, 0⟩] scope pos) 0 (.ref it) (.ref D) (compEnvC scope (cellsFrom (s3.heap.objs.size + 1) scope.names (cloFrom X.env.cells scope.names [])) s3.heap.objs.size X.env)) (compPost (model X.prog X.w) X.A X.xe use Qf (.ref D) s3.heap.objs.size) { s3 with heap := pushCells (s3.heap.push { cls := .type "dict", data := .dict #[] }) scope.names }
  have nfp : ∀ b ∈ fp, (L2.upd H2 D (dicO (wdOf X) D [])) b = none := fun b hb => (f3 b hb).1.1
  generalize hce : compEnvC scope (cellsFrom (s3.heap.objs.size + 1) scope.names (cloFrom X.env.cells scope.names [])) s3.heap.objs.size X.env = ce at I4 pg pt pk pe ⊢
  have cL : ce.locals = s3.heap.objs.size := by subst hce; rfl
  generalize hH3 : L2.upd H2 D (dicO (wdOf X) D []) = H3 at I3 I4 pg pt pk pe w0 nfp f3
  generalize hs4 : ({ s3 with heap := pushCells (s3.heap.push { cls := .type "dict", data := .dict #[] }) scope.names } : Shared) = s4 at I4 ⊢
  have st4 : tn 0 s4.heap := T.keep _ _ _ st3 fun b _ o e => by rw [← hs4]; exact pushCells_keeps _ _ _ _ (Heap.get?_push_of_some _ e)
  have stat : ∀ {σ' : St} {H' : Hp} {s' : Shared}, Inv (X.blk s3 H3 scope ce fp) [] σ' H' s' → (∀ b ∈ fp, H' b = none) → ∀ b ∈ fp, FpOk (X.blk s3 H3 scope ce fp) [] H' b := fun {σ' H' s'} I' hn b hb =>
    ⟨hn b hb, (I'.ok.exf b hb).1, I'.ok.exfs b hb, .inl hb, fun x c e => (I'.ok.exf b hb).2 x c e, fun p hp => absurd (show p ∈ ([] : List (Addr × Obj)) ++ [] from hp) (by simp)⟩
  have loop : codeAny (model X.prog X.w) X.A (.compLoop (.DictComp kx vx [⟨tg, iter, ifs, 0⟩] scope pos) 0 (.ref it) (.ref D) ce) (compPost (model X.prog X.w) X.A X.xe use Qf (.ref D) s3.heap.objs.size) s4 := by
    refine compLoop_anyD (fun n s' => ∃ i H', Inv (X.blk s3 H3 scope ce fp) [] (wipe σ (own.map (·.2))) H' s' ∧ tn i s'.heap ∧ (∀ b ∈ fp, H' b = none) ∧ W i n H') ?_ m0 ⟨0, H3, I4, st4, nfp, w0⟩
    rintro n s5 ⟨i, H5, I5, st5, n5, w5⟩
    rcases turn i n H5 w5 with ⟨stop, qq⟩ | ⟨go, Nx, hNx, step⟩
    · have td := T.done (X.blk s3 H3 scope ce fp) rfl rfl rfl hc i [] s5 _ H5 (fun _ _ => False) I5 (stat I5 n5) st5 stop
      refine thnF td fun r s6 ⟨hr, I6⟩ => ?_
      subst hr
      -- back in the def's context
      have I7 : Inv X pins σ H5 s6 := I3.call' (ch := fp) I6.os I6.base I6.hok I6.bare fun b hb => ⟨(f3 b hb).1.2.2.2.1, (f3 b hb).1.2.1, (f3 b hb).1.2.2.2.2.1, (f3 b hb).1.2.2.2.2.2⟩
      have nC : H5 s3.heap.objs.size = none := by
        have z : H5 ce.locals = none := I6.free
        rw [cL] at z
        exact z
      obtain ⟨m, hn, _⟩ := I6.loc
      have hn : s6.heap.Ns ce.locals m := hn
      rw [cL] at hn
      exact hRR D s3.heap.objs.size s6 m H5 I7 qq hn (I3.fpOk (Nat.le_refl _) nC)
    · have ti := T.item (X.blk s3 H3 scope ce fp) rfl rfl rfl hc i [] s5 _ H5 (fun _ _ => False) I5 (stat I5 n5) st5 go
      refine thnF ti fun r s6 ⟨u, hr, h6⟩ => ?_
      subst hr
      refine thnF h6 fun _ s7 ⟨x, H7, I7, r7, y7, st7, n7⟩ => ?_
      have I7' := I7.pinned (stat I7 n7) (T.obj _ _ st7)
      refine thnF (pg.run _ s7 _ H7 x u _ I7' r7 (step x H7 y7)) fun _ s8 ⟨σ8, H8, I8, hw8, q8⟩ => ?_
      refine thnF (pt.run _ s8 σ8 H8 _ I8 q8) fun b s9 ⟨H9, I9, q9⟩ => ?_
      -- the turn's end
      have fin : ∀ {s' : Shared} {H' : Hp}, Inv (X.blk s3 H3 scope ce fp) ([] ++ pinsAt fp s7.heap) σ8 H' s' → Nx H' → ∃ m, m < n ∧ ∃ i H', Inv (X.blk s3 H3 scope ce fp) [] (wipe σ (own.map (·.2))) H' s' ∧ tn i s'.heap ∧ (∀ b ∈ fp, H' b = none) ∧ W i m H' := fun {s' H'} I' nx => by
        obtain ⟨m', hm, w'⟩ := hNx H' nx
        have pin' : ∀ b ∈ fp, ∀ o, s7.heap.get? b = some o → s'.heap.get? b = some o ∧ H' b = none := fun b hb o e =>
          let z := I'.pin (b, o) (List.mem_append_right _ (List.mem_append_right _ (mem_pinsAt hb e)))
          ⟨z.1, z.2.1⟩
        have hl : (wipe σ (own.map (·.2))).length = σ8.length := by rw [← hw8, wipe_length]
        refine ⟨m', hm, i + 1, H', (I'.unpinned (pins := [])).weak hl (fun j v e => ?_), T.keep _ _ _ st7 fun b hb o e => (pin' b hb o e).1, fun b hb => ?_, w'⟩
        · rw [← hw8] at e
          exact (wipe_some e).1
        · obtain ⟨o, e, _⟩ := T.obj _ _ st7 b hb
          exact (pin' b hb o e).2
      cases b with
      | false =>
        simp only [Bool.false_eq_true, if_false] at q9 ⊢
        exact fin I9 q9
      | true =>
        simp only [if_true] at q9 ⊢
        refine thnF (pk.run _ s9 σ8 H9 _ I9 q9) fun z s10 ⟨yk, H10, I10, r10, q10⟩ => ?_
        refine thnF (pe.run _ s10 σ8 H10 _ I10 q10) fun z2 s11 ⟨yv, H11, I11, r11, xs, k, q, ek, hD11, hz11, dv, nx⟩ => ?_
        subst ek
        exact dx_dictSet (X := X.blk s3 H3 scope ce fp) hu I11 hD11 hz11 ⟨dv.ex⟩ r10 r11 fun s12 I12 => fin I12 nx
  exact codeAny_compStart_dict loop (T.self X.A 0 _ _ _ st4 loop)
/-- as a value -/
theorem pe_dcx {kx vx tg iter : Expr} {ifs : List Expr} {scope : Scope} {own : List (Str × Nat)} {pos : Pos} {wi : TI} {g : TG} {tt : TT} {tk tv : TE} (hu : X.A.units + 64 < cLine) (hc : X.calm = true) (hN : X.N.Nodup) (hi : PI X tg iter wi) (ok : BlkOk X.N X.env.scope scope own)
    (hg : ∀ (s : Shared) (H : Hp) (C : Addr) (cl : List (Str × Addr)) (fp : List Addr), PG (X.blk s H scope (compEnvC scope cl C X.env) fp) tg g) (ht : ∀ (s : Shared) (H : Hp) (C : Addr) (cl : List (Str × Addr)) (fp : List Addr), PTs (X.blk s H scope (compEnvC scope cl C X.env) fp) ifs tt)
    (hk : ∀ (s : Shared) (H : Hp) (C : Addr) (cl : List (Str × Addr)) (fp : List Addr), PE (X.blk s H scope (compEnvC scope cl C X.env) fp) kx tk)
    (he : ∀ (s : Shared) (H : Hp) (C : Addr) (cl : List (Str × Addr)) (fp : List Addr), PE (X.blk s H scope (compEnvC scope cl C X.env) fp) vx tv) (hs : ∀ x, foldedSetIterable iter X.env x = pure x := by intro _; rfl) :
    PE X (.DictComp kx vx [⟨tg, iter, ifs, 0⟩] scope pos) (tDcx X wi g tt tk tv (own.map (·.2))) := by
  refine ⟨fun pins s σ H Q I h => ?_⟩
  rw [arm_eval_DictComp]
  refine dcx_core hu hc hN I hi ok hg ht hk he hs h fun D C s' m H' I' q hn f => ⟨m, hn, fun h'' sb => ?_⟩
  obtain ⟨f0, f1, f2, f3, f4, f5⟩ := f
  exact ⟨.ref D, H', I'.turned (t' := s'.toks) (fun b o hb e => (sb.2 b hb).trans e) f0 f1 f3 f4 f5, rfl, q⟩
end
end DL
set_option Elab.async false
set_option linter.all false
set_option maxRecDepth 100000
set_option maxHeartbeats 4000000
namespace DL
open PySem PySem.Spec L2
open PyProof.Rows hiding St
def compDD (tg : TDG) (tt : TDB) (tk tv : TD) (vs : List Nat) : List D → List (D × D) → DEnv → (List (D × D) → DEnv → Prop) → Prop
  | [], acc, ρ, Q => Q acc ρ
  | d :: ds, acc, ρ, Q => tg (.pure d) ρ fun ρ1 => tt ρ1 (fun b ρ2 => if b = true then tk ρ2 (fun rk ρ3 => keepR rk ρ3 fun key ρ4 => isKey key ∧ tv ρ4 (fun r ρ5 => keepR r ρ5 fun y ρ6 => acc.length < sizeLine ∧ compDD tg tt tk tv vs ds (dput acc key y) (wipeD ρ6 vs) Q) (fun _ _ => False)) (fun _ _ => False)
      else compDD tg tt tk tv vs ds acc (wipeD ρ2 vs) Q) fun _ _ => False
def dDComp (w : TDI) (tg : TDG) (tt : TDB) (tk tv : TD) (vs : List Nat) : TD := fun ρ Q E => w ρ (fun ds ρ1 => compDD tg tt tk tv vs ds [] (wipeD ρ1 vs) fun acc ρ2 => Q (.tmp (.dic acc)) ρ2) E
theorem compDD.mono {tg : TDG} {tt : TDB} {tk tv : TD} {vs : List Nat} (mg : ∀ r ρ (Q Q' : DEnv → Prop), tg r ρ Q → (∀ ρ', Q ρ' → Q' ρ') → tg r ρ Q') (mt : Mono tt) (mk : Mono tk) (mv : Mono tv) : ∀ {ds acc ρ} {Q Q' : List (D × D) → DEnv → Prop}, compDD tg tt tk tv vs ds acc ρ Q → (∀ a ρ', Q a ρ' → Q' a ρ') → compDD tg tt tk tv vs ds acc ρ Q'
  | [], _, _, _, _, h, hq => hq _ _ h
  | d :: ds, acc, ρ, Q, Q', h, hq => mg _ _ _ _ h fun ρ1 h1 => mt _ _ _ _ _ h1 (fun b ρ2 h2 => by
      cases b with
      | false => exact compDD.mono mg mt mk mv h2 hq
      | true => exact mk _ _ _ _ _ h2 (fun r ρ3 h3 => keepR.mono h3 fun y ρ4 h4 => ⟨h4.1, mv _ _ _ _ _ h4.2 (fun r ρ5 h5 => keepR.mono h5 fun y ρ6 h6 => ⟨h6.1, compDD.mono mg mt mk mv h6.2 hq⟩) fun _ _ z => z⟩) fun _ _ z => z) fun _ _ z => z
section
variable {X : Cx} {Wx : WX}
theorem dcx_of {B : Bs} {n : Nat} {vs : List Nat} {tg : TDG} {tt : TDB} {tk tv : TD} (mg : ∀ r ρ (Q Q' : DEnv → Prop), tg r ρ Q → (∀ ρ', Q ρ' → Q' ρ') → tg r ρ Q') (mt : Mono tt) (mk : Mono tk) (mv : Mono tv)
    {σ : L2.St} {F1 H1 : Hp} {ρ1 : DEnv} {J : It} {ds : List D} {Q : VK} (hn : σ.length = n) (hpv : ∀ p ∈ B.pin, p.1 ∉ vs) (I1 : RE (wdOf X) B F1 H1 σ ρ1) (ok : IterOk (wdOf X) J F1 H1 ds)
    (k : compDD tg tt tk tv vs ds [] (wipeD ρ1 vs) fun acc ρ2 => ∀ v F' H', Le F1 F' → RE (wdOf X) B F' H' σ ρ2 → RVok (wdOf X) B F' H' σ ρ2 v (.tmp (.dic acc)) → Q v H') :
    ∀ D, H1 D = none → ∃ W : Nat → Nat → Hp → Prop, (∃ m, W 0 m (L2.upd H1 D (dicO (wdOf X) D []))) ∧ ∀ i m H, W i m H →
      (J.stop i H ∧ Q (.ref D) H) ∨ (J.go i H ∧ ∃ Nx : Hp → Prop, (∀ H', Nx H' → ∃ m', m' < m ∧ W (i + 1) m' H') ∧ ∀ x H', J.yld i H x H' →
        (∃ B', B'.pin.map (·.1) = others n vs ∧ AG (wdOf X) B' tg x (wipe σ vs) H' fun σ2 H2 => σ2.length = n → wipe σ2 vs = wipe σ vs ∧ ∃ B'', AT (wdOf X) W0 B'' tt σ2 H2 fun b H3 =>
          if b = true then ∃ B3, AE (wdOf X) W0 B3 tk σ2 H3 fun y H4 => ∃ B4, AE (wdOf X) W0 B4 tv σ2 H4 fun z H5 => ∃ xs k q, y = .ref q ∧ H5 D = some (dicO (wdOf X) D xs) ∧ xs.length < sizeLine ∧ DicV X H5 (.ref D) (.ref q) D xs k ∧ Nx (L2.upd H5 D (dicO (wdOf X) D (vput xs k q z))) else Nx H3)) := by
  intro D hD
  have IA : RE (wdOf X) (B.at F1 H1) F1 H1 σ ρ1 := I1.atB
  have Iw : RE (wdOf X) (B.at F1 H1) F1 H1 (wipe σ vs) (wipeD ρ1 vs) := IA.wipeAll hpv
  have hb : (B.at F1 H1).H D = none := IA.bnone hD
  have hl : ¬ (B.at F1 H1).L D := fun z => by obtain ⟨u, q⟩ := IA.bL D z; rw [hD] at q; cases q
  have hf1 : (B.at F1 H1).F D = none := IA.fnone hD
  have wl : (wipe σ vs).length = n := by rw [wipe_length]; exact hn
  have hpin : ∀ p ∈ (B.at F1 H1).pin, p.1 ∈ others n vs ∧ (wipe σ vs)[p.1]? = some p.2 := fun p hp => by
    have e := Iw.pin p hp
    refine ⟨mem_others ?_ (hpv p hp), e⟩
    rw [← wl]
    exact (List.getElem?_eq_some_iff.mp e).1
  have hpo : ∀ i ∈ others n vs, i < (wipe σ vs).length ∧ (wipe σ vs)[i]? = (wipe σ vs)[i]? := fun i hi => ⟨by rw [wl]; exact (others_lt hi).1, rfl⟩
  have hpinmap : ∀ (u : HO), ((B.at F1 H1).cmp D u (wipe σ vs) (others n vs)).pin.map (·.1) = others n vs := fun u => by
    show ((others n vs).map fun i => (i, ((wipe σ vs)[i]?).getD none)).map (·.1) = others n vs
    rw [List.map_map]
    exact List.map_id _
  let G : Nat → Hp → Prop := fun i H => ∃ F ρ xs acc, RE (wdOf X) (B.at F1 H1) F H (wipe σ vs) ρ ∧ (∀ i dv, HasD ρ i dv → i ∉ vs) ∧ AtD (wdOf X) (B.at F1 H1) F H (wipe σ vs) ρ D (dicO (wdOf X) D xs) ∧ RpKV (wdOf X) F xs acc ∧
    compDD tg tt tk tv vs (ds.drop i) acc ρ fun acc ρ2 => ∀ v F' H', Le F1 F' → RE (wdOf X) B F' H' σ ρ2 → RVok (wdOf X) B F' H' σ ρ2 v (.tmp (.dic acc)) → Q v H'
  refine ⟨fun i m H => i + m = ds.length ∧ G i H, ⟨ds.length, by omega, F1, _, [], [], Iw.laid hD, fun i dv e => (wipeD_some e).2, ⟨hb, hl, IA.fnone hD, upd_same, fun i ob e q => ?_⟩, .nil, k⟩, fun i m H2 hW => ?_⟩
  · obtain ⟨v, e1, a, u, ev, f, hh, r⟩ := Iw.sl i _ e
    unfold HasV at q e1
    rw [q] at e1
    cases e1
    cases ev
    rw [hD] at hh
    cases hh
  · obtain ⟨em, F2, ρ2, xs, acc, I2, hnv, A2, ra, k2⟩ := hW
    have lx := ra.length
    obtain ⟨o1, o2, o3⟩ := ok _ (wipe σ vs) ρ2 F2 H2 i I2.bF I2.frzAt (I2.toCmp A2 hpo)
    by_cases hi : i < ds.length
    · refine .inr ⟨o1 hi, G (i + 1), fun H' z => ⟨m - 1, by omega, by omega, z⟩, fun x H3 hy => ?_⟩
      obtain ⟨F3, l3, I3, rp⟩ := o2 _ (List.getElem?_eq_getElem hi) x H3 hy
      rw [List.drop_eq_getElem_cons hi] at k2
      have back : ∀ {F4 H4 σ4 ρ4}, RE (wdOf X) ((B.at F1 H1).cmp D (dicO (wdOf X) D xs) (wipe σ vs) (others n vs)) F4 H4 σ4 ρ4 → σ4.length = n → wipe σ4 vs = wipe σ vs ∧ RE (wdOf X) (B.at F1 H1) F4 H4 (wipe σ vs) (wipeD ρ4 vs) ∧ AtD (wdOf X) (B.at F1 H1) F4 H4 (wipe σ vs) (wipeD ρ4 vs) D (dicO (wdOf X) D xs) := by
        intro F4 H4 σ4 ρ4 J4 hl4
        obtain ⟨J5, A5, e5⟩ := J4.unCmp hb hl hpin hf1
        have ew : wipe σ4 vs = wipe (wipe σ vs) vs := wipe_eq (by rw [hl4, wl]) fun i hi => by
          rw [hl4] at hi
          have := e5 i hi
          have l' := (hpo i hi).1
          rw [this, List.getElem?_eq_getElem l']
          rfl
        have eww : wipe (wipe σ vs) vs = wipe σ vs := wipe_eq (by rw [wipe_length]) fun i hi => wipe_out (others_lt hi).2
        rw [eww] at ew
        have J6 := J5.wipeAll (vs := vs) fun p hp => (others_lt (hpin p hp).1).2
        rw [ew] at J6
        refine ⟨ew, J6, A5.b, A5.l, A5.f, A5.h, fun i ob e q => ?_⟩
        obtain ⟨e1, ni⟩ := wipeD_some e
        refine A5.o i ob e1 ?_
        unfold HasV at q ⊢
        rw [← ew, wipe_out ni] at q
        exact q
      refine ⟨{ (B.at F1 H1).cmp D (dicO (wdOf X) D xs) (wipe σ vs) (others n vs) with F := F3 }, hpinmap (dicO (wdOf X) D xs), F3, ρ2, .pure ds[i], I3.reF, rp, mg _ _ _ _ k2 fun ρ3 k3 σ3 F4 H4 J4 hl4 => ⟨(back (I3.unF J4) hl4).1, _, F4, ρ3, I3.unF J4, mt _ _ _ _ _ k3 (fun b ρ5 k5 F5 H5 l5 J5 => ?_) fun _ _ z => z.elim⟩⟩
      cases b with
      | false =>
        rw [if_neg Bool.false_ne_true] at k5 ⊢
        obtain ⟨_, J6, A6⟩ := back J5 hl4
        exact ⟨F5, _, xs, acc, J6, fun i dv e => (wipeD_some e).2, A6, RpKV.mono (l3.trans (J4.bF.trans l5)) ra, k5⟩
      | true =>
        rw [if_pos rfl] at k5 ⊢
        refine ⟨_, F5, ρ5, J5, mk _ _ _ _ _ k5 (fun r ρ6 k6 v F6 H6 l6 J6 ok6 => ?_) fun _ _ z => z.elim⟩
        obtain ⟨F7, ρ7, key, l7, J7, rp7, ⟨ks, ek, hzk⟩, k7⟩ := keep_of J6 ok6 k6
        subst ek
        refine ⟨{ (B.at F1 H1).cmp D (dicO (wdOf X) D xs) (wipe σ vs) (others n vs) with F := F7 }, F7, ρ7, J7.reF, mv _ _ _ _ _ k7 (fun r2 ρ8 k8 z F8 H8 l8 J8 ok8 => ?_) fun _ _ z => z.elim⟩
        obtain ⟨F9, ρ9, y9, l9, J9, rp9, hz9, k9⟩ := keep_of J8 ok8 k8
        obtain ⟨_, J10, A10⟩ := back (J7.unF J9) hl4
        obtain ⟨J11, A11⟩ := J10.writeD A10 (dicO (wdOf X) D (vput xs (.tup ks) (match v with | .ref q => q | _ => 0) z))
        have rk9 : Rp (wdOf X) F9 v (NestedKey.tup ks).data := Rp.mono (l8.trans l9) rp7
        have vr : ∃ q, v = .ref q := by
          have rk9 : Rp (wdOf X) F9 v (PyData.tuple (NestedKey.datas ks)) := rk9
          cases rk9; exact ⟨_, rfl⟩
        obtain ⟨q, rfl⟩ := vr
        have ra9 : RpKV (wdOf X) F9 xs acc := RpKV.mono (l3.trans (J4.bF.trans (l5.trans (l6.trans (l7.trans (l8.trans l9)))))) ra
        refine ⟨xs, .tup ks, q, rfl, A10.h, by omega, ⟨_, F9, _, _, acc, q, J9, rfl, .inl A10.h, ra9, rfl, rk9, hzk⟩, F9, _, _, _, J11, fun i dv e => (wipeD_some e).2, A11, ra9.put hzk rk9 rp9, k9⟩
    · rw [List.drop_eq_nil_of_le (Nat.le_of_not_lt hi)] at k2
      refine .inl ⟨o3 (Nat.le_of_not_lt hi), k2 _ F2 H2 I2.bF ?_ ?_⟩
      · exact I1.unAt (I2.unwipe hnv hpv)
      · refine ⟨D, _, rfl, A2.f, A2.h, ⟨xs, rfl, ra⟩, I1.bnone hD, fun i ob e q => A2.o i ob e ?_⟩
        unfold HasV
        rw [wipe_out (hnv i _ e)]
        exact q
structure DClD (X : Cx) (scope : Scope) (vs : List Nat) (tg : Expr) (ifs : List Expr) (kx vx : Expr) (tgd : TDG) (tt : TDB) (tk tv : TD) : Prop where
  g : ∀ (s : Shared) (H : Hp) (C : Addr) (cl : List (Str × Addr)) (fp : List Addr), DG (X.blk s H scope (compEnvC scope cl C X.env) fp) (others X.N.length vs) tg tgd
  t : ∀ (s : Shared) (H : Hp) (C : Addr) (cl : List (Str × Addr)) (fp : List Addr), DTs (X.blk s H scope (compEnvC scope cl C X.env) fp) ifs tt
  k : ∀ (s : Shared) (H : Hp) (C : Addr) (cl : List (Str × Addr)) (fp : List Addr), DE (X.blk s H scope (compEnvC scope cl C X.env) fp) W0 kx tk
  v : ∀ (s : Shared) (H : Hp) (C : Addr) (cl : List (Str × Addr)) (fp : List Addr), DE (X.blk s H scope (compEnvC scope cl C X.env) fp) W0 vx tv
theorem dDComp.mono {w : TDI} {tgd : TDG} {tt : TDB} {tk tv : TD} {vs : List Nat} (mw : Mono w) (mg : ∀ r ρ (Q Q' : DEnv → Prop), tgd r ρ Q → (∀ ρ', Q ρ' → Q' ρ') → tgd r ρ Q') (mt : Mono tt) (mk : Mono tk) (mv : Mono tv) : Mono (dDComp w tgd tt tk tv vs) := fun ρ Q Q' E E' h hq he =>
  mw _ _ _ _ _ h (fun ds ρ1 h1 => compDD.mono mg mt mk mv h1 fun acc ρ2 => hq _ _) he
theorem de_dcp {kx vx tg iter : Expr} {ifs : List Expr} {scope : Scope} {own : List (Str × Nat)} {pos : Pos} {w : TDI} {tgd : TDG} {tt : TDB} {tk tv : TD} (hu : X.A.units + 64 < cLine) (hc : X.calm = true) (hN : X.N.Nodup) (hi : DI X Wx tg iter w) (ok : BlkOk X.N X.env.scope scope own)
    (c : DClD X scope (snds own) tg ifs kx vx tgd tt tk tv) (hs : ∀ x, foldedSetIterable iter X.env x = pure x := by intro _; rfl) : DE X Wx (.DictComp kx vx [⟨tg, iter, ifs, 0⟩] scope pos) (dDComp w tgd tt tk tv (snds own)) := by
  have mg := (c.g X.s_0 X.H_0 0 [] []).mono
  have mt := (c.t X.s_0 X.H_0 0 [] []).mono
  have mk := (c.k X.s_0 X.H_0 0 [] []).mono
  have mv := (c.v X.s_0 X.H_0 0 [] []).mono
  refine ⟨fun B => PE.impI (pe_dcx (g := gCl (wdOf X) X.N.length (snds own) tgd) hu hc hN (hi.run B) ok (fun s H C cl fp => pg_len (pg_ex (t := fun B' => AG (wdOf X) B' tgd) fun B' hB' => (c.g s H C cl fp).run B' hB')) (fun s H C cl fp => pts_ex (t := fun B' => AT (wdOf X) W0 B' tt) fun B' => (c.t s H C cl fp).run B')
      (fun s H C cl fp => pe_ex (t := fun B' => AE (wdOf X) W0 B' tk) fun B' => (c.k s H C cl fp).run B') (fun s H C cl fp => pe_ex (t := fun B' => AE (wdOf X) W0 B' tv) fun B' => (c.v s H C cl fp).run B') hs) fun σ H Q hl hh => ?_, dDComp.mono hi.mono mg mt mk mv⟩
  obtain ⟨F, ρ, I, hv⟩ := hh
  refine ⟨F, ρ, I, hi.mono _ _ _ _ _ hv (fun ds ρ1 k J F1 H1 l1 I1 okJ => ?_) fun _ _ z => z⟩
  exact dcx_of (B := { B with pin := [] }) mg mt mk mv hl (fun p hp => nomatch hp) I1.dropPin okJ (compDD.mono mg mt mk mv k fun acc ρ2 q v F' H' l J ok => q v F' H' (l1.trans l) (I1.addPin J) ok.addPin)
end
end DL
set_option Elab.async false
set_option linter.all false
set_option maxRecDepth 100000
set_option maxHeartbeats 4000000
namespace DL
open PySem PySem.Spec L2
open PyProof.Rows hiding St
section
variable {X : Cx} {Wx : WX} {a b e e2 : Expr} {es : List Expr} {pos p : Pos} {t ta tb tk tv : TD} {u : TDA}
theorem pe_disp1 {k v : Expr} {tk tv : TE} (hu : X.A.units + 64 < cLine) (hk : PE X k tk) (hv : PE X v tv) : PE X (.Dict [some k] [v] pos) (fun σ H Q => ∀ D, H D = none → tk σ (L2.upd H D (dicO (wdOf X) D [])) fun x H1 => tv σ H1 fun y H2 =>
    ∃ q key, x = .ref q ∧ H2 D = some (dicO (wdOf X) D []) ∧ DicV X H2 (.ref D) (.ref q) D [] key ∧ Q (.ref D) (L2.upd H2 D (dicO (wdOf X) D (vput [] key q y)))) := by
  refine ⟨fun pins s σ H Q I q => ?_⟩
  have hn := I.hok.fresh (Nat.le_refl s.heap.objs.size)
  have I1 := I.laid (a := s.heap.objs.size) (o := dicO (wdOf X) s.heap.objs.size []) (h' := s.heap.push { cls := .type "dict", data := .dict #[] }) (t' := s.toks) (fun _ _ q => Heap.get?_push_of_some _ q) (Nat.le_refl _) (dic_new I.big)
  have q2 := (pps_cons (pos := pos) hk hv pps_nil).run pins _ σ _ (fun ps H2 => match ps with
    | [(x, y)] => ∃ q key, x = V.ref q ∧ H2 s.heap.objs.size = some (dicO (wdOf X) s.heap.objs.size []) ∧ DicV X H2 (.ref s.heap.objs.size) (.ref q) s.heap.objs.size [] key ∧ Q (.ref s.heap.objs.size) (L2.upd H2 s.heap.objs.size (dicO (wdOf X) s.heap.objs.size (vput [] key q y)))
    | _ => False) I1 (q _ hn)
  refine wpAny_Dict_any rfl rfl (by simp) (by show 1 ≤ 15; decide) (thn q2 fun ws s2 ⟨ps, H2, I2, rel, h⟩ => ?_)
  cases rel with
  | nil => exact h.elim
  | @cons p w0 ps' ws' hp hr =>
    cases hr with
    | cons _ _ => exact h.elim
    | nil =>
      obtain ⟨x, y⟩ := p
      obtain ⟨q0, key, ex, hD, dv, hQ⟩ := h
      subst ex
      unfold storeAll
      rw [List.forIn_cons]
      refine wpAny_bind (wpAny_bind (dx_dictSet hu I2 hD (by rw [sizeLine_eq]; decide) dv hp.1 hp.2 fun s3 I3 => wpAny_pure ?_))
      dsimp only
      rw [List.forIn_nil]
      exact wpAny_pure ⟨.ref s.heap.objs.size, _, I3, rfl, hQ⟩
/-- {k: v} -/
def dDisp1 (tk tv : TD) : TD := fun ρ Q _ => tk ρ (fun rk ρ1 => keepR rk ρ1 fun key ρ2 => isKey key ∧ tv ρ2 (fun r ρ3 => keepR r ρ3 fun y ρ4 => Q (.tmp (.dic [(key, y)])) ρ4) (fun _ _ => False)) (fun _ _ => False)
theorem de_disp1 {k v : Expr} (hu : X.A.units + 64 < cLine) (hk : DE X W0 k tk) (hv : DE X W0 v tv) : DE X Wx (.Dict [some k] [v] pos) (dDisp1 tk tv) := by
  refine ⟨fun B => PE.imp (pe_disp1 hu (pe_ex (t := fun B' => AE (wdOf X) W0 B' tk) fun B' => hk.run B') (pe_ex (t := fun B' => AE (wdOf X) W0 B' tv) fun B' => hv.run B')) fun σ H Q hh => ?_,
    fun ρ Q Q' E E' h hq he => hk.mono _ _ _ _ _ h (fun rk ρ1 k1 => keepR.mono k1 fun key ρ2 k2 => ⟨k2.1, hv.mono _ _ _ _ _ k2.2 (fun r ρ3 k3 => keepR.mono k3 fun y ρ4 => hq _ _) fun _ _ z => z⟩) fun _ _ z => z⟩
  obtain ⟨F, ρ, I, hv1⟩ := hh
  intro D hD
  have I0 := I.dropPin
  have hb : ({ B with pin := [] } : Bs).H D = none := I0.bnone hD
  have hl : ¬ ({ B with pin := [] } : Bs).L D := fun z => by obtain ⟨u, q⟩ := I0.bL D z; rw [hD] at q; cases q
  have hbf : ({ B with pin := [] } : Bs).F D = none := (by
    cases e : B.F D with
    | none => rfl
    | some u => have := I.bF D u e; rw [I.fnone hD] at this; cases this)
  have no : notOwn ρ σ D := fun i ob e q => by
    obtain ⟨v, e1, a, u, ev, f, hh, r⟩ := I.sl i _ e
    unfold HasV at q e1
    rw [q] at e1
    cases e1
    cases ev
    rw [hD] at hh
    cases hh
  have A0 : AtD (wdOf X) { B with pin := [] } F (L2.upd H D (dicO (wdOf X) D [])) σ ρ D (dicO (wdOf X) D []) := ⟨hb, hl, I.fnone hD, upd_same, no⟩
  have I1 := (I0.laid (o := dicO (wdOf X) D []) hD).toCmp (os := []) (σ0 := σ) A0 (fun i hi => nomatch hi)
  refine ⟨_, F, ρ, I1, hk.mono _ _ _ _ _ hv1 (fun rk ρ1 k1 x F1 H1 l1 I2 ok2 => ?_) fun _ _ z => z.elim⟩
  obtain ⟨F2, ρ2, key, l2, I3, rpk, ⟨ks, ek, hz⟩, k2⟩ := keep_of I2 ok2 k1
  subst ek
  refine ⟨{ (({ B with pin := [] } : Bs).cmp D (dicO (wdOf X) D []) σ []) with F := F2 }, F2, ρ2, I3.reF, hv.mono _ _ _ _ _ k2 (fun r ρ3 k3 y F3 H3 l3 I4 ok4 => ?_) fun _ _ z => z.elim⟩
  obtain ⟨F4, ρ4, dy, l4, I5, rpy, k4⟩ := keep_of I4 ok4 k3
  have rk : Rp (wdOf X) F4 x (NestedKey.tup ks).data := Rp.mono (l3.trans l4) rpk
  have vr : ∃ q, x = .ref q := by
    have rk : Rp (wdOf X) F4 x (PyData.tuple (NestedKey.datas ks)) := rk
    cases rk; exact ⟨_, rfl⟩
  obtain ⟨q, rfl⟩ := vr
  obtain ⟨I6, A6, _⟩ := (I3.unF I5).unCmp hb hl (fun p hp => nomatch hp) hbf
  obtain ⟨I7, A7⟩ := I6.writeD A6 (dicO (wdOf X) D (vput [] (.tup ks) q y))
  refine ⟨q, .tup ks, rfl, A6.h, ⟨_, F4, σ, ρ4, [], q, I5, rfl, .inl A6.h, .nil, rfl, rk, hz⟩, k4 _ F4 _ (l1.trans (l2.trans (l3.trans l4))) (I.addPin I7) ?_⟩
  exact RVok.addPin ⟨D, _, rfl, A7.f, A7.h, ⟨_, rfl, .cons hz rk rpy .nil⟩, hb, A7.o⟩
end
end DL
set_option Elab.async false
set_option linter.all false
set_option maxRecDepth 100000
set_option maxHeartbeats 4000000
namespace DL
open PySem PySem.Spec L2
open PyProof.Rows hiding St
section
variable {X : Cx} {Wx : WX} {a b e e2 : Expr} {es : List Expr} {pos p : Pos} {t ta tb tk tv : TD} {u : TDA}
def dGetOr (ta : TD) (u : TDA) : TD := fun ρ Q E => ta ρ (fun ra ρ1 => (∃ kvs, rvData ρ1 ra = some (.dict kvs)) ∧ u ρ1 (fun rs ρ2 => match rs with
  | [rk, rd] => ∃ kvs key, rvData ρ2 (frzR ra) = some (.dict kvs) ∧ rvData ρ2 rk = some key ∧ isKey key ∧ (match dget kvs key with
    | some v => Q (.pure v) ρ2
    | none => Q rd ρ2)
  | _ => False) E) E
def tyDic (X : Cx) : V → Hp → Prop := fun x H => ∃ a xs, x = V.ref a ∧ Rd H a (dicO (wdOf X) a xs)
theorem tyDic_ok {X : Cx} (pins : List (Addr × Obj)) (σ : L2.St) (H : Hp) (s : Shared) (x : V) (v : Value) (J : Inv X pins σ H s) (r : RelV x v) (h : tyDic X x H) : s.TypeIs v "dict" ∧ ∀ b, v = .ref b → ∃ ob, s.heap.get? b = some ob ∧ ob.dict = none := by
  obtain ⟨a, xs, rfl, hr⟩ := h
  cases (show v = Value.ref a from r)
  exact dic_ty J hr
theorem de_getOr {o k d : Expr} {apos cpos : Pos} (hu : X.A.units + 64 < cLine) (ho : DE X Wx o ta) (ha : DA X Wx [k, d] u)
    (hbase : attributeBase o "get" X.env (eval o X.env) = eval o X.env := by rfl)
    (hfew : ((backTo cpos (starEach [k, d] X.env)).all (fun x => !x.1) && (backToKw cpos (keywordEach [] X.env)).all (fun x => x.1.isSome)
      && decide (([k, d] : List Expr).length + ([] : List Keyword).length + (if ([] : List Keyword).isEmpty then 0 else 1) < 30)) = true := by rfl)
    (hline : (apos.endLine == cpos.line) = true := by rfl) (hs : starEach [k, d] X.env = (false, eval k X.env) :: starEach [d] X.env := by rfl) (hplain : (backTo cpos (starEach [d] X.env)).any (·.1) = false := by rfl) :
    DE X Wx (.Call (.Attribute o "get" apos) [k, d] [] cpos) (dGetOr ta u) := by
  refine ⟨fun B => PE.imp (pe_bmG (ty := tyDic X) tyDic_ok PySem.F.plainAttrs_dict PySem.F.slot_dict_get PySem.F.type_dict_get (mt_getOr hu) (ho.run B) (ha.run B) hbase hfew hline hs hplain) fun σ H Q hh => ?_,
    fun ρ Q Q' E E' h hq he => ho.mono _ _ _ _ _ h (fun ra ρ1 h1 => ⟨h1.1, ha.mono _ _ _ _ _ h1.2 (fun rs ρ2 h2 => ?_) he⟩) he⟩
  · obtain ⟨F, ρ, I, hv⟩ := hh
    refine ⟨F, ρ, I, ho.mono _ _ _ _ _ hv (fun ra ρ1 ⟨⟨kv0, e0⟩, k1⟩ v F1 H1 l1 I1 ok1 => ?_) fun _ _ z => z⟩
    obtain ⟨F2, r', l2, I2, ok2, er⟩ := ok1.frz I1
    have er : r' = frzR ra := by rw [er]; cases ra <;> rfl
    subst er
    obtain ⟨a0, xs0, ex0, hr0, _⟩ := (view_of I1 ok1 e0).dict I1
    refine ⟨⟨a0, xs0, ex0, hr0⟩, F2, ρ1, I2, ha.mono _ _ _ _ _ k1 (fun rs ρ2 k2 vs F3 H3 l3 I3 ok3 => ?_) fun _ _ z => AX.le (l1.trans l2) z⟩
    cases ok3 with
    | nil => exact k2.elim
    | cons nt ok r =>
      cases r with
      | nil => exact k2.elim
      | cons nt' ok' r =>
        cases r with
        | cons _ _ _ => exact k2.elim
        | nil =>
          rename_i vk rk vd rd
          obtain ⟨kvs, key, e1, e2, ⟨ks, ek, hz⟩, q⟩ := k2
          subst ek
          have vx := view_of I3 (ok2.keep (frzR_nt ra) l3) e1
          have vy := view_of I3 ok e2
          obtain ⟨a1, xs, ex, rk', dv⟩ := dicV_of I3 vx vy hz
          refine ⟨a1, xs, .tup ks, vk, vd, rfl, dv, ?_⟩
          have l := l1.trans (l2.trans l3)
          rcases rk'.look (.tup ks) with ⟨z1, z2⟩ | ⟨v', d', z1, z2, rr⟩
          · rw [z2] at q
            rw [z1]
            exact q vd F3 H3 l I3 ok'
          · rw [z2] at q
            rw [z1]
            exact q v' F3 H3 l I3 rr
  · split at h2
    · obtain ⟨kvs, key, e1, e2, e3, q⟩ := h2
      refine ⟨kvs, key, e1, e2, e3, ?_⟩
      split at q <;> exact hq _ _ q
    · exact h2.elim
/-- d.get(k, {}) -/
def dGetNew (ta tk : TD) : TD := fun ρ Q E => ta ρ (fun ra ρ1 => (∃ kvs, rvData ρ1 ra = some (.dict kvs)) ∧ tk ρ1 (fun rk ρ2 => ∃ kvs key, rvData ρ2 (frzR ra) = some (.dict kvs) ∧ rvData ρ2 (frzR rk) = some key ∧ isKey key ∧ (match dget kvs key with
    | some v => Q (.pure v) ρ2
    | none => Q (.tmp (.dic [])) ρ2)) E) E
theorem de_getNew {o k : Expr} {apos cpos dpos : Pos} (hu : X.A.units + 64 < cLine) (ho : DE X Wx o ta) (hk : DE X Wx k tk)
    (hbase : attributeBase o "get" X.env (eval o X.env) = eval o X.env := by rfl)
    (hfew : ((backTo cpos (starEach [k, .Dict [] [] dpos] X.env)).all (fun x => !x.1) && (backToKw cpos (keywordEach [] X.env)).all (fun x => x.1.isSome)
      && decide (([k, .Dict [] [] dpos] : List Expr).length + ([] : List Keyword).length + (if ([] : List Keyword).isEmpty then 0 else 1) < 30)) = true := by rfl)
    (hline : (apos.endLine == cpos.line) = true := by rfl) (hs : starEach [k, .Dict [] [] dpos] X.env = (false, eval k X.env) :: starEach [.Dict [] [] dpos] X.env := by rfl)
    (hs2 : starEach [.Dict [] [] dpos] X.env = (false, eval (.Dict [] [] dpos) X.env) :: starEach [] X.env := by rfl) (hplain : (backTo cpos (starEach [.Dict [] [] dpos] X.env)).any (·.1) = false := by rfl) :
    DE X Wx (.Call (.Attribute o "get" apos) [k, .Dict [] [] dpos] [] cpos) (dGetNew ta tk) := by
  refine ⟨fun B => PE.imp (pe_bmG (ty := tyDic X) tyDic_ok PySem.F.plainAttrs_dict PySem.F.slot_dict_get PySem.F.type_dict_get (mt_getOr hu) (ho.run B) (pa_cons (hk.run B) (pa_cons pe_dnewD pa_nil hs2) hs) hbase hfew hline hs hplain) fun σ H Q hh => ?_,
    fun ρ Q Q' E E' h hq he => ho.mono _ _ _ _ _ h (fun ra ρ1 h1 => ⟨h1.1, hk.mono _ _ _ _ _ h1.2 (fun rk ρ2 ⟨kvs, key, e1, e2, e3, q⟩ => ⟨kvs, key, e1, e2, e3, by split at q <;> exact hq _ _ q⟩) he⟩) he⟩
  obtain ⟨F, ρ, I, hv⟩ := hh
  refine ⟨F, ρ, I, ho.mono _ _ _ _ _ hv (fun ra ρ1 ⟨⟨kv0, e0⟩, k1⟩ v F1 H1 l1 I1 ok1 => ?_) fun _ _ z => z⟩
  obtain ⟨F2, r', l2, I2, ok2, er⟩ := ok1.frz I1
  have er : r' = frzR ra := by rw [er]; cases ra <;> rfl
  subst er
  obtain ⟨a0, xs0, ex0, hr0, _⟩ := (view_of I1 ok1 e0).dict I1
  refine ⟨⟨a0, xs0, ex0, hr0⟩, F2, ρ1, I2, hk.mono _ _ _ _ _ k1 (fun rk ρ2 ⟨kvs, key, e1, e2, ⟨ks, ek, hz⟩, q⟩ w F3 H3 l3 I3 ok3 => ?_) fun _ _ z => AX.le (l1.trans l2) z⟩
  subst ek
  obtain ⟨F4, r4, l4, I4, ok4, er4⟩ := ok3.frz I3
  have er4 : r4 = frzR rk := by rw [er4]; cases rk <;> rfl
  subst er4
  intro D hD
  obtain ⟨I5, r5⟩ := ok_newobj (u := dicO (wdOf X) D []) (o := .dic []) I4 hD ⟨[], rfl, .nil⟩
  have vx := view_of I5 (ok2.keep (frzR_nt ra) (l3.trans l4)) e1
  have vy := view_of I5 (ok4.keep (frzR_nt rk) (Le.refl F4)) e2
  obtain ⟨a1, xs, ex, rk', dv⟩ := dicV_of I5 vx vy hz
  refine ⟨a1, xs, .tup ks, w, .ref D, rfl, dv, ?_⟩
  have l := l1.trans (l2.trans (l3.trans l4))
  rcases rk'.look (.tup ks) with ⟨z1, z2⟩ | ⟨v', d', z1, z2, rr⟩
  · rw [z2] at q
    rw [z1]
    exact q _ F4 _ l I5 r5
  · rw [z2] at q
    rw [z1]
    exact q v' F4 _ l I5 rr
end
end DL
set_option Elab.async false
set_option linter.all false
set_option maxRecDepth 100000
set_option maxHeartbeats 4000000
namespace DL
open PySem PySem.Spec L2
open PyProof.Rows hiding St
section
variable {X : Cx} {Wx : WX} {a b e e2 : Expr} {es : List Expr} {pos p : Pos} {t ta tb tk tv : TD} {u : TDA}
theorem eachIs_of {R : Value → V × D → Prop} : ∀ {us : List Value} {bs : List (V × D)}, us.length = bs.length → (∀ (i : Nat) (u : Value) (b : V × D), us[i]? = some u → bs[i]? = some b → R u b) → PySem.W.EachIs R us bs
  | [], [], _, _ => .nil
  | [], _ :: _, h, _ => by simp at h
  | _ :: _, [], h, _ => by simp at h
  | x :: us, y :: bs, h, r => .cons (r 0 x y rfl rfl) (eachIs_of (by simpa using h) fun i u b e1 e2 => r (i + 1) u b (by simpa using e1) (by simpa using e2))
theorem dpAll_get {K : PySem.W.Frag} {H : Hp} : ∀ {vs : List V} {ds : List D} {i : Nat} {v : V} {d : D}, DpAll K H vs ds → vs[i]? = some v → ds[i]? = some d → Dp K H v d
  | _, _, _, _, _, .nil, e, _ => by simp at e
  | _, _, 0, _, _, .cons a _, e1, e2 => by simp at e1 e2; subst e1 e2; exact a
  | _, _, i + 1, _, _, .cons _ b, e1, e2 => dpAll_get b (i := i) (by simpa using e1) (by simpa using e2)
theorem dpAll_len {K : PySem.W.Frag} {H : Hp} : ∀ {vs : List V} {ds : List D}, DpAll K H vs ds → vs.length = ds.length
  | _, _, .nil => rfl
  | _, _, .cons _ b => congrArg Nat.succ (dpAll_len b)
def srtD (ds : List D) : List D := ds.mergeSort (PySem.W.dataLe false id)
def srtP (zs : List (V × D)) : List (V × D) := zs.mergeSort (PySem.W.dataLe false Prod.snd)
theorem srtP_snd (zs : List (V × D)) : (srtP zs).map Prod.snd = srtD (zs.map Prod.snd) := by
  unfold srtP srtD
  rw [List.map_mergeSort]
  intro a _ b _
  rfl
def sortOk (ds : List D) : Prop := PySem.W.AllAlike ds ∧ PySem.W.Sortable ds ∧ PyData.canLayAll0 ds = true ∧ ∀ d ∈ ds, d.depth ≤ 60
def rSortD (X : Cx) : List V → Hp → VK → Prop := fun vs H Q => ∃ a ws ds, vs = [V.ref a] ∧ SqL X.K H a ws ∧ DpAll X.K H ws ds ∧ PySem.W.AllAlike ds ∧ PySem.W.Sortable ds ∧ (∀ d ∈ ds, d.depth ≤ 60) ∧ ∀ p, H p = none → Q (.ref p) (L2.upd H p (.lst ((srtP (ws.zip ds)).map Prod.fst)))
theorem cr_sortD (hu : X.A.units + 64 < cLine) : CallR X (.builtin "sorted") (rSortD X) := by
  intro pins s σ H vs us Q I r h
  obtain ⟨a, ws, ds, rfl, hs, dp, hal, hk, hz, q⟩ := h
  obtain ⟨its, rv, hl, hzz⟩ := I.list hs
  rw [Vals.ref1 r]
  have lw := dpAll_len dp
  have li := rv.length
  have lz : (ws.zip ds).length = ws.length := by rw [List.length_zip, lw]; omega
  have sn : (ws.zip ds).map Prod.snd = ds := List.map_snd_zip (by omega)
  have e1 : PySem.W.EachIs (fun (u : Value) (b : V × D) => RelV b.1 u) its (ws.zip ds) := eachIs_of (by rw [lz, li]) fun i u b h1 h2 => by
    obtain ⟨h3, _⟩ := List.getElem?_zip_eq_some.mp h2
    obtain ⟨u', hu', ru⟩ := rv.get h3
    rw [h1] at hu'
    cases hu'
    exact ru
  have e2 : PySem.W.EachIs (fun (u : Value) (b : V × D) => ∃ as, Reads s.heap u b.2 as) its (ws.zip ds) := eachIs_of (by rw [lz, li]) fun i u b h1 h2 => by
    obtain ⟨h3, h4⟩ := List.getElem?_zip_eq_some.mp h2
    obtain ⟨u', hu', ru⟩ := rv.get h3
    rw [h1] at hu'
    cases hu'
    exact Dp.reads I b.2 b.1 u (dpAll_get dp h3 h4) ru
  refine PySem.W.sorted_data (enc := Prod.snd) hl.isList e1 e2 (by rw [sn]; exact hal) (by rw [sn]; exact hk) (by rw [lz]; exact hzz) (fun b hb => ?_) fun out ho eo => ?_
  · have : b.2 ∈ ds := by rw [← sn]; exact List.mem_map_of_mem hb
    have := hz _ this
    omega
  · obtain ⟨ep, he'⟩ := PyProof.Rows.sortedAll_at s.heap its out.toArray
    have lo : out.length = ws.length := by rw [ho, lz]
    have vo : Vals ((srtP (ws.zip ds)).map Prod.fst) out := by
      have : ∀ {us : List Value} {bs : List (V × D)}, PySem.W.EachIs (fun (u : Value) (b : V × D) => RelV b.1 u) us bs → Vals (bs.map Prod.fst) us := by
        intro us bs hh
        induction hh with
        | nil => exact .nil
        | cons h1 _ ih => exact .cons h1 ih
      exact this eo
    have hlen : ((srtP (ws.zip ds)).map Prod.fst).length ≤ sizeLine := by rw [vo.length, lo]; exact hzz
    exact ⟨.ref _, L2.upd H (s.heap.objs.size + 1) (.lst ((srtP (ws.zip ds)).map Prod.fst)), I.laid (t' := s.toks) (fun _ _ => PyProof.Rows.sortedAll_old) (Nat.le_succ _) ⟨hlen, out, ep, vo, he'⟩, rfl, q _ (I.hok.fresh (Nat.le_succ _))⟩
theorem rp_zip {W : Wd} {F : Hp} : ∀ {vs : List V} {ds : List D}, RpAll W F vs ds → ∀ z ∈ vs.zip ds, Rp W F z.1 z.2
  | _, _, .nil, z, hz => by simp at hz
  | _, _, .cons a b, z, hz => by
    rcases List.mem_cons.mp (by simpa using hz) with e | hz
    · subst e; exact a
    · exact rp_zip b z hz
theorem rp_of_pairs {W : Wd} {F : Hp} : ∀ {zs : List (V × D)}, (∀ z ∈ zs, Rp W F z.1 z.2) → RpAll W F (zs.map Prod.fst) (zs.map Prod.snd)
  | [], _ => .nil
  | z :: zs, h => .cons (h z List.mem_cons_self) (rp_of_pairs fun y hy => h y (List.mem_cons_of_mem _ hy))
theorem rp_srt {W : Wd} {F : Hp} {vs : List V} {ds : List D} (r : RpAll W F vs ds) : RpAll W F ((srtP (vs.zip ds)).map Prod.fst) (srtD ds) := by
  have sn : (vs.zip ds).map Prod.snd = ds := List.map_snd_zip (by rw [r.length]; exact Nat.le_refl _)
  have := rp_of_pairs (W := W) (F := F) (zs := srtP (vs.zip ds)) fun z hz => rp_zip r z ((List.mergeSort_perm _ _).mem_iff.mp hz)
  rw [srtP_snd, sn] at this
  exact this
def gSorted : GL := fun ds Q => match ds with
  | [.list xs] => sortOk xs ∧ Q (.tmp (.lst (srtD xs)))
  | _ => False
theorem g_sorted (hu : X.A.units + 64 < cLine) : GCall X (.builtin "sorted") gSorted where
  mono := fun ds Q Q' h hq => by unfold gSorted at h ⊢; split at h <;> first | exact ⟨h.1, hq _ h.2⟩ | exact h.elim
  ex := by
    refine ⟨_, cr_sortD hu, fun B F H σ ρ vs ds Q Q' I vv h k => ?_⟩
    unfold gSorted at h
    split at h
    · obtain ⟨⟨h1, h2, h3, h4⟩, q⟩ := h
      obtain ⟨v, ev, w⟩ := vv.one
      obtain ⟨p, us, ep, hp, rp⟩ := w.list I
      subst ep
      refine ⟨p, us, _, ev, .inl hp, RpAll.dp I rp h3, h1, h2, h4, fun l hl => ?_⟩
      obtain ⟨I2, r2⟩ := ok_newobj (o := .lst (srtD _)) I hl ⟨_, rfl, rp_srt rp⟩
      exact k _ _ _ _ q (Le.refl F) I2 r2
    · exact h.elim
structure DK (X : Cx) (Wx : WX) (kws : List Keyword) (t : TDA) : Prop where
  run : ∀ B, PK X kws (AA (wdOf X) Wx B t)
  mono : Mono t
theorem PK.imp {kws : List Keyword} {t t' : TA} (h : PK X kws t') (f : ∀ σ H Q, t σ H Q → t' σ H Q) : PK X kws t := ⟨fun pos pins s σ H Q I hw => h.run pos pins s σ H Q I (f σ H Q hw)⟩
theorem dk_nil : DK X Wx [] dNil := by
  refine ⟨fun B => PK.imp pk_nil fun σ H Q hh => ?_, dNil.mono⟩
  obtain ⟨F, ρ, I, hv⟩ := hh
  exact hv [] F H (Le.refl F) I .nil
theorem dk_cons {nm : Option Str} {kpos : Pos} {kws : List Keyword} (h : DE X Wx e t) (hs : DK X Wx kws u) : DK X Wx (⟨nm, e, kpos⟩ :: kws) (dCons t u) := by
  refine ⟨fun B => PK.imp (pk_cons (h.run B) (hs.run B)) fun σ H Q hh => ?_, dCons.mono h.mono hs.mono⟩
  obtain ⟨F, ρ, I, hv⟩ := hh
  refine ⟨F, ρ, I, h.mono _ _ _ _ _ hv (fun r ρ1 h1 v F1 H1 l1 I1 ok1 => ?_) fun _ _ z => z⟩
  obtain ⟨F2, r', l2, I2, ok2, er⟩ := ok1.frz I1
  have er : r' = frzR r := by rw [er]; cases r <;> rfl
  subst er
  refine ⟨F2, ρ1, I2, hs.mono _ _ _ _ _ h1 (fun rs ρ2 h2 vs F3 H3 l3 I3 ok3 => ?_) fun _ _ z => AX.le (l1.trans l2) z⟩
  exact h2 (v :: vs) F3 H3 (l1.trans (l2.trans l3)) I3 (.cons (frzR_nt r) (ok2.keep (frzR_nt r) l3) ok3)
def dCallK (S : SpP) (n : Nat) (ix : List Nat) (u : TDA) : TD := fun ρ Q E => u ρ (fun rs ρ1 => rs.length = n ∧ argsD rs ρ1 fun ds ρ2 => S (permL ix ds) fun r => noSlot r ∧ Q r ρ2) E
theorem dCallK.mono {S : SpP} {n : Nat} {ix : List Nat} (ms : MonoP S) (m : Mono u) : Mono (dCallK S n ix u) := fun ρ Q Q' E E' h hq he =>
  m _ _ _ _ _ h (fun rs ρ1 h1 => ⟨h1.1, argsD.mono h1.2 fun ds ρ2 h2 => ms _ _ _ h2 fun r q => ⟨q.1, hq _ _ q.2⟩⟩) he
theorem rvs_len {W : Wd} {B : Bs} {F H : Hp} {σ : L2.St} {ρ : DEnv} : ∀ {vs : List V} {rs : List RV}, RVs W B F H σ ρ vs rs → vs.length = rs.length
  | _, _, .nil => rfl
  | _, _, .cons _ _ r => congrArg Nat.succ (rvs_len r)
theorem perm_pair {vs : List V} {ds : List DV} {P : V → DV → Prop} (hl : vs.length = ds.length) (h : ∀ (i : Nat) (dv : DV), ds[i]? = some dv → ∃ v, vs[i]? = some v ∧ P v dv) : ∀ ix : List Nat, (permL ix vs).length = (permL ix ds).length ∧ ∀ (i : Nat) (dv : DV), (permL ix ds)[i]? = some dv → ∃ v, (permL ix vs)[i]? = some v ∧ P v dv
  | [] => ⟨rfl, fun i dv e => by simp [permL] at e⟩
  | k :: ix => by
    obtain ⟨h1, h2⟩ := perm_pair hl h ix
    unfold permL at h1 h2 ⊢
    rw [List.filterMap_cons, List.filterMap_cons]
    cases e : ds[k]? with
    | none =>
      have e2 : vs[k]? = none := by rw [List.getElem?_eq_none_iff] at e ⊢; omega
      rw [e2]
      exact ⟨h1, h2⟩
    | some dv =>
      obtain ⟨v, hv, hp⟩ := h k dv e
      rw [hv]
      refine ⟨congrArg Nat.succ h1, fun i dw ei => ?_⟩
      cases i with
      | zero => cases (show some dv = some dw from ei); exact ⟨v, rfl, hp⟩
      | succ i => exact h2 i dw (by simpa using ei)
theorem perm_mem {α : Type} {xs : List α} {x : α} {ix : List Nat} (h : x ∈ permL ix xs) : x ∈ xs := by
  unfold permL at h
  obtain ⟨i, _, e⟩ := List.mem_filterMap.mp h
  exact List.mem_of_getElem? e
def KwOk (x : Str) (st : Stmt) (ps ks : List Str) (ix : List Nat) : Prop := ∀ (kV doc pm : Value) (an : Option Addr) (cdv ct : Value) (us ws : List Value), us.length = 0 → ws.length = ks.length → bindArgs (PySem.W.fnOf x x (defArgs st) (defBody st) (defScope st) .none kV doc pm an cdv ct) ⟨us, ks.zip ws⟩ = pure (ps.zip (us ++ permL ix ws))
theorem de_knK {x : Str} {st : Stmt} {ps ks : List Str} {ix : List Nat} {k : Nat} {kws : List Keyword} {S : SpP} (c : Kn X.prog X.w X.K X.mg X.base k x st ps (spP (wdOf X) S)) (ms : MonoP S) (hkb : KwOk x st ps ks ix) (hr : Room k X.A) (hg : Gl X x) (hk : DK X Wx kws u)
    (hall : (backToKw pos (keywordEach kws X.env)).all (·.1.isSome) = true := by rfl) (hks : (backToKw pos (keywordEach kws X.env)).filterMap (·.1) = ks := by rfl) (hdb : (x == ("__debug__" : Str)) = false := by decide)
    (hpl : ((backTo pos (starEach [] X.env)).any (·.1) || (backToKw pos (keywordEach kws X.env)).any (·.1.isNone)) = false := by rfl) : DE X Wx (.Call (.Name x p) [] kws pos) (dCallK S ks.length ix u) := by
  obtain ⟨f, fd, hm, Fd, F, hb⟩ := c.ex
  have kb : KwB X.K fd ps 0 ks ix := kwb_of Fd hkb
  refine ⟨fun B => ⟨fun pins s σ H Q I0 hh => ?_⟩, dCallK.mono ms hk.mono⟩
  obtain ⟨F0, ρ, I, hv⟩ := hh
  refine wpAny_Call_Name_kw (ld_glob I0 hg hm ?_ hdb)
  refine PySem.W.callWith_KW0 (h₀ := X.base) I0.ok.mod.kin Fd.kp hall ?_ hpl
  refine thn ((hk.run B).run pos pins s σ H (fun zs H2 => zs.length = ks.length ∧ spP (wdOf X) S (permL ix zs) H2 Q E0) I0 ⟨F0, ρ, I, hk.mono _ _ _ _ _ hv (fun rs ρ1 ⟨hn, h1⟩ vs F1 H1 l1 I1 ok1 => ⟨by rw [← hn]; exact rvs_len ok1, ?_⟩) fun _ _ z => z⟩) fun ws s2 ⟨zs, H2, I2, rz, lz, q2⟩ => ⟨I2.kIn, ?_⟩
  · obtain ⟨F2, ρ2, ds, l2, I2, no, len, sv, h2⟩ := argsD_of I1 ok1 h1
    obtain ⟨pl, psv⟩ := perm_pair len sv ix
    refine ⟨F2, permL ix ds, fun d hd => no d (perm_mem hd), I2.args rfl pl (fun d hd => no d (perm_mem hd)) psv, ms _ _ _ h2 fun r hr v F' H' l J okr => ?_⟩
    have ns : ∀ i, r ≠ .slot i := fun i e => by subst e; exact hr.1
    exact hr.2 v F' H' (l1.trans (l2.trans l)) (I2.after J) (RVok.after I2 okr ns)
  · rw [hks]
    show wpAny _ _ (call (.ref f) ([] ++ []) (ks.zip ws)) _ _ _
    have lw : ws.length = ks.length := by rw [← rz.length]; exact lz
    have r2 := vals_perm rz ix
    refine wpAny_call (codeAny_mono (F.run X.A X.stack s2 H2 ⟨[], ks.zip ws⟩ (permL ix ws) (permL ix zs) Q E0 hr I2.env0 (kb.to s2 [] ws I2.kIn rfl lw) r2 q2) fun r s' hq => ?_)
    cases r with
    | error e => exact False.elim hq
    | ok fl =>
      cases fl with
      | ret u => exact I2.after hq
      | next => exact False.elim hq
      | brk => exact False.elim hq
      | cont => exact False.elim hq
end
end DL
set_option Elab.async false
set_option linter.all false
set_option maxRecDepth 100000
set_option maxHeartbeats 4000000
namespace DL
open PySem PySem.Spec L2
open PyProof.Rows hiding St
section
variable {X : Cx} {Wx : WX}
theorem sw_trueD {kx vx : Expr} {gs : List Comprehension} {scope : Scope} {pos py : Pos} {y : Str} {l : Nat} {env : Env} (hk : env.scope.kind = .function) (hy : env.scope.names.lookup y = some .local) (hl : (py.line == pos.line) = true)
    (ha : (scope.names.any fun (n, k) => n == y && (k == .local || k == .cell)) = false) : swapsWith (.DictComp kx vx gs scope pos) (some (.Name y py)) l env = pure true := by
  have ky : env.kindOf y = some .local := hy
  have hb : env.blockKind = .function := by unfold Env.blockKind; rw [hk]; rfl
  unfold swapsWith
  simp only [hb, ky, ha, Expr.pos, hl]
  rfl
theorem ps_setDcx {i : Nat} {y : Str} {py : Pos} {kx vx tg iter : Expr} {ifs : List Expr} {scope : Scope} {own : List (Str × Nat)} {pos spos : Pos} {wi : TI} {g : TG} {tt : TT} {tk tv : TE} (hu : X.A.units + 64 < cLine) (hc : X.calm = true) (hN : X.N.Nodup) (hy : X.N[i]? = some y) (hyl : X.env.scope.names.lookup y = some .local)
    (hsw : swapsWith (.DictComp kx vx [⟨tg, iter, ifs, 0⟩] scope pos) (some (.Name y py)) spos.line X.env = pure true) (hi : PI X tg iter wi) (ok : BlkOk X.N X.env.scope scope own)
    (hg : ∀ (s : Shared) (H : Hp) (C : Addr) (cl : List (Str × Addr)) (fp : List Addr), PG (X.blk s H scope (compEnvC scope cl C X.env) fp) tg g) (ht : ∀ (s : Shared) (H : Hp) (C : Addr) (cl : List (Str × Addr)) (fp : List Addr), PTs (X.blk s H scope (compEnvC scope cl C X.env) fp) ifs tt)
    (hk : ∀ (s : Shared) (H : Hp) (C : Addr) (cl : List (Str × Addr)) (fp : List Addr), PE (X.blk s H scope (compEnvC scope cl C X.env) fp) kx tk)
    (he : ∀ (s : Shared) (H : Hp) (C : Addr) (cl : List (Str × Addr)) (fp : List Addr), PE (X.blk s H scope (compEnvC scope cl C X.env) fp) vx tv) (hs : ∀ x, foldedSetIterable iter X.env x = pure x := by intro _; rfl) :
    PS X (.Assign [.Name y py] (.DictComp kx vx [⟨tg, iter, ifs, 0⟩] scope pos) spos) (tAsg (tDcx X wi g tt tk tv (own.map (·.2))) (gName i)) := by
  refine ⟨fun pins s σ H D I h => ?_⟩
  rw [exec_Assign_Name_used _ _ _ _ hsw]
  refine wpAny_bind (wpAny_standAt (wpAny_bind ?_))
  show wpAny _ X.A (do let _ ← comprehension (.DictComp kx vx [⟨tg, iter, ifs, 0⟩] scope pos) scope X.env (firstIterPos [⟨tg, iter, ifs, 0⟩] pos) newDict false (eval iter X.env) (some (assign (.Name y py) X.env))) _ _ s
  have h : tDcx X wi g tt tk tv (own.map (·.2)) σ H (fun x H1 => gName i x σ H1 D.nx) := h
  refine wpAny_bind (thn (dcx_core (Qf := fun _ s' => SP X pins D .next s') hu hc hN I hi ok hg ht hk he hs h fun L C s' m H' I' q hn f => ?_) fun _ s' hq => wpAny_pure (wpAny_pure hq))
  show wpAny _ _ (assign (.Name y py) X.env (.ref L)) _ _ _
  refine wpAny_assign_Name (store_ok2 (v := V.ref L) I' hN hy (.inl hyl) rfl (fun s2 I2 ⟨a, sb, ha⟩ => ?_) (.inr hyl))
  obtain ⟨f0, f1, f2, f3, f4, f5⟩ := f
  have haC : C ≠ a := by
    rcases ha with z | z
    · rw [z]; exact f1
    · exact fun e => f4 y a z e.symm
  refine ⟨m, hn.sameBut sb haC, fun h3 sb3 => ?_⟩
  exact ⟨_, H', I2.turned (t' := s2.toks) (fun b o hb e => (sb3.2 b hb).trans e) f0 f1 f3 f4 f5, q⟩
theorem ds_setDcp {i : Nat} {y : Str} {py : Pos} {kx vx tg iter : Expr} {ifs : List Expr} {scope : Scope} {own : List (Str × Nat)} {pos spos : Pos} {ios : List Nat} {w : TDI} {tgd : TDG} {tt : TDB} {tk tv : TD} (hu : X.A.units + 64 < cLine) (hc : X.calm = true) (hN : X.N.Nodup) (hy : X.N[i]? = some y) (hyl : X.env.scope.names.lookup y = some .local)
    (hsw : swapsWith (.DictComp kx vx [⟨tg, iter, ifs, 0⟩] scope pos) (some (.Name y py)) spos.line X.env = pure true) (hi : DI X Wx tg iter w) (ok : BlkOk X.N X.env.scope scope own)
    (c : DClD X scope (snds own) tg ifs kx vx tgd tt tk tv) (hs : ∀ x, foldedSetIterable iter X.env x = pure x := by intro _; rfl) : DS X Wx ios (.Assign [.Name y py] (.DictComp kx vx [⟨tg, iter, ifs, 0⟩] scope pos) spos) (dAsg (dDComp w tgd tt tk tv (snds own)) (dgName ios i)) := by
  have mg := (c.g X.s_0 X.H_0 0 [] []).mono
  have mt := (c.t X.s_0 X.H_0 0 [] []).mono
  have mk := (c.k X.s_0 X.H_0 0 [] []).mono
  have mv := (c.v X.s_0 X.H_0 0 [] []).mono
  refine ⟨fun B hb => ?_, dAsg.mono (dDComp.mono hi.mono mg mt mk mv) fun r ρ Q Q' k hq => ⟨k.1, putR.mono k.2 hq⟩⟩
  have h := ps_setDcx (g := gCl (wdOf X) X.N.length (snds own) tgd) (X := X) hu hc hN hy hyl hsw (hi.run B) ok (fun s H C cl fp => pg_len (pg_ex (t := fun B' => AG (wdOf X) B' tgd) fun B' hB' => (c.g s H C cl fp).run B' hB')) (fun s H C cl fp => pts_ex (t := fun B' => AT (wdOf X) W0 B' tt) fun B' => (c.t s H C cl fp).run B')
      (fun s H C cl fp => pe_ex (t := fun B' => AE (wdOf X) W0 B' tk) fun B' => (c.k s H C cl fp).run B') (fun s H C cl fp => pe_ex (t := fun B' => AE (wdOf X) W0 B' tv) fun B' => (c.v s H C cl fp).run B') hs
  refine ⟨fun pins s σ H D I0 hh => h.run pins s σ H D I0 ?_⟩
  obtain ⟨F, ρ, I, hv⟩ := hh
  refine ⟨F, ρ, I, hi.mono _ _ _ _ _ hv (fun ds ρ1 k J F1 H1 l1 I1 okJ => ?_) fun _ _ z => z.of⟩
  exact dcx_of (B := { B with pin := [] }) (Q := fun x H1 => gName i x σ H1 D.nx) mg mt mk mv I0.len (fun p hp => nomatch hp) I1.dropPin okJ (compDD.mono mg mt mk mv k fun acc ρ2 q v F' H' l J' okv => by
    obtain ⟨F3, ρ3, I3, q3⟩ := put_of (I1.addPin J') (hb ▸ q.1) okv.addPin q.2
    exact q3 _ F3 H' I3)
/-- a, b, c = x, y, z -/
def dPar3 (ios : List Nat) (i j l : Nat) (ua : TDA) : TDS := fun ρ Q E => i ∉ ios ∧ j ∉ ios ∧ l ∉ ios ∧ ua ρ (fun rs ρ1 => match rs with
  | [r, r', r''] => r' ≠ .slot i ∧ r'' ≠ .slot i ∧ r'' ≠ .slot j ∧ putR i r ρ1 fun ρ2 => putR j r' ρ2 fun ρ3 => putR l r'' ρ3 fun ρ4 => Q .nx ρ4
  | _ => False) E
theorem RVok.reF {W : Wd} {B : Bs} {F H : Hp} {σ : L2.St} {ρ : DEnv} {v : V} {r : RV} (ok : RVok W B F H σ ρ v r) (F0 : Hp) : RVok W { B with F := F0 } F H σ ρ v r := by
  cases r <;> exact ok
theorem ds_par3 {ios : List Nat} {i j l : Nat} {x y z : Str} {a b c : Expr} {ua : TDA} {px py pz pt pos : Pos} {kt k2 pt2} (hc : X.calm = true) (hN : X.N.Nodup) (hi : X.N[i]? = some x) (hj : X.N[j]? = some y) (hl : X.N[l]? = some z) (hij : i ≠ j) (hil : i ≠ l) (hjl : j ≠ l)
    (hx : X.env.scope.names.lookup x = some .local) (hy : X.env.scope.names.lookup y = some .local) (hz : X.env.scope.names.lookup z = some .local) (ha : DA X Wx [a, b, c] ua)
    (hw : swappedStores [.Tuple [.Name x px, .Name y py, .Name z pz] kt pt] (.Tuple [a, b, c] k2 pt2) X.env = pure (some [x, y, z]))
    (hs : swapsWithSole [.Tuple [.Name x px, .Name y py, .Name z pz] kt pt] (.Tuple [a, b, c] k2 pt2) pos.line X.env = pure false := by rfl) :
    DS X Wx ios (.Assign [.Tuple [.Name x px, .Name y py, .Name z pz] kt pt] (.Tuple [a, b, c] k2 pt2) pos) (dPar3 ios i j l ua) := by
  refine ⟨fun B hb => PS.imp (ps_par3 hc hN hi hj hl hij hil hjl hx hy hz (ha.run B) hw hs) fun D σ H hh => ?_, fun ρ Q Q' E E' k hq he => ⟨k.1, k.2.1, k.2.2.1, ha.mono _ _ _ _ _ k.2.2.2 (fun rs ρ1 k1 => ?_) he⟩⟩
  · obtain ⟨F, ρ, I, ni, nj, nl, hv⟩ := hh
    refine ⟨F, ρ, I, ha.mono _ _ _ _ _ hv (fun rs ρ1 k vs F1 H1 l1 I1 ok1 => ?_) fun _ _ z => z.of⟩
    cases ok1 with
    | nil => exact k.elim
    | cons nt ok r =>
      cases r with
      | nil => exact k.elim
      | cons nt' ok' r =>
        cases r with
        | nil => exact k.elim
        | cons nt'' ok'' r =>
          cases r with
          | cons _ _ _ => exact k.elim
          | nil =>
            rename_i v1 r1 v2 r2 v3 r3
            obtain ⟨n1, n2, n3, k⟩ := k
            obtain ⟨F2, ρ2, I2, q2⟩ := put_of I1.reF (hb ▸ ni) (r := r1) (ok.reF F1) k
            have ok2 : RVok (wdOf X) B F2 H1 (σ.set i (some v1)) ρ2 v2 r2 := RVok.storeKeep I2.bF nt' n1 ok'
            have ok3 : RVok (wdOf X) B F2 H1 (σ.set i (some v1)) ρ2 v3 r3 := RVok.storeKeep I2.bF nt'' n2 ok''
            have I2' := I1.unF I2
            obtain ⟨F3, ρ3, I3, q3⟩ := put_of I2'.reF (hb ▸ nj) (ok2.reF F2) q2
            have ok4 : RVok (wdOf X) B F3 H1 ((σ.set i (some v1)).set j (some v2)) ρ3 v3 r3 := RVok.storeKeep I3.bF nt'' n3 ok3
            obtain ⟨F4, ρ4, I4, q4⟩ := put_of (I2'.unF I3) (hb ▸ nl) ok4 q3
            exact ⟨v1, v2, v3, rfl, q4 _ F4 H1 I4⟩
  · split at k1
    · exact ⟨k1.1, k1.2.1, k1.2.2.1, putR.mono k1.2.2.2 fun ρ2 k2 => putR.mono k2 fun ρ3 k3 => putR.mono k3 fun ρ4 => hq _ _⟩
    · exact k1.elim
end
end DL
set_option Elab.async false
set_option linter.all false
set_option maxRecDepth 100000
set_option maxHeartbeats 4000000
namespace DL
open PySem PySem.Spec L2
open PyProof.Rows hiding St
/-- the module's name x stands for the data d -/
structure KC (K : PySem.W.Frag) (mg : Str → Option Value) (x : Str) (d : D) : Prop where
  ex : ∃ v u, mg x = some u ∧ RelV v u ∧ ∀ (P : Program) (w : World) (F : Hp), Rp ⟨P, w, K⟩ F v d
theorem de_kc {X : Cx} {Wx : WX} {x : Str} {d : D} {p : Pos} (c : KC X.K X.mg x d) (hg : Gl X x) (hd : (x == ("__debug__" : Str)) = false := by decide) : DE X Wx (.Name x p) (dC d) := by
  obtain ⟨v, u, hm, hr, rp⟩ := c.ex
  exact de_c (pe_glob hg hm hr hd) fun F => rp X.prog X.w F
theorem kc_int {K : PySem.W.Frag} {mg : Str → Option Value} {x : Str} {i : Int} (h : ∃ t, mg x = some (.int i t)) : KC K mg x (.int i) := by
  obtain ⟨t, h⟩ := h
  exact ⟨.int i, _, h, ⟨t, rfl⟩, fun _ _ _ => .int i⟩
/-- a tuple of ints -/
theorem kc_tup {K : PySem.W.Frag} {mg : Str → Option Value} {x : Str} {a : Addr} {is : List Int} (h : mg x = some (.ref a)) (hs : ∀ F : Hp, SqT K F a (is.map V.int)) : KC K mg x (.tuple (is.map PyData.int)) := by
  refine ⟨.ref a, _, h, rfl, fun P w F => .tup (hs F) ?_⟩
  clear hs
  induction is with
  | nil => exact .nil
  | cons i is ih => exact .cons (.int i) ih
end DL
set_option Elab.async false
set_option linter.all false
set_option maxRecDepth 100000
set_option maxHeartbeats 4000000
namespace DL
open PySem PySem.Spec L2
open PyProof.Rows hiding St
section
variable {ρ : DEnv} {E : EK} {t ta tb tc tk tv : TD} {u : TDA} {ut ub : TDB} {g h : TDS}
/-- stuck forms -/
def dvK (o : Option (Option DV)) (i : Nat) (ρ : DEnv) (Q : RV → DEnv → Prop) : Prop := match o with
  | some (some (.pure d)) => Q (.pure d) ρ
  | some (some (.own _)) => Q (.slot i) ρ
  | some (some (.raw v)) => Q (.raw v) ρ
  | _ => False
def rvS (o : Option (Option DV)) : Option D := match o with
  | some (some (.pure d)) => some d
  | some (some (.own o)) => some o.data
  | _ => none
def keepS (o : Option (Option DV)) (i : Nat) (ρ : DEnv) (Q : D → DEnv → Prop) : Prop := match o with
  | some (some (.pure d)) => Q d ρ
  | some (some (.own o)) => Q o.data (ρ.set i (some (.pure o.data)))
  | _ => False
def op2K (g : G2) (a b : Option D) (K : RV → Prop) : Prop := ∃ x y, a = some x ∧ b = some y ∧ g x y K
def op2C (g : GC) (a b : Option D) (K : Bool → Prop) : Prop := ∃ x y, a = some x ∧ b = some y ∧ g x y K
def tstK (a : Option D) (K : Bool → Prop) : Prop := ∃ k, a = some (.bool k) ∧ K k
def atK (a : Option D) (K : RV → Prop) : Prop := ∃ d, a = some d ∧ K (.pure d)
def cgK (g : GL) (a : Option (List D)) (K : RV → Prop) : Prop := ∃ ds, a = some ds ∧ g ds K
def optCons (a : Option D) (b : Option (List D)) : Option (List D) := match a, b with
  | some d, some ds => some (d :: ds)
  | _, _ => none
def seqK (h : TDS) (Q : Fl → DEnv → Prop) (E : EK) (fl : Fl) (ρ : DEnv) : Prop := match fl with
  | .nx => h ρ Q E
  | .bk => Q .bk ρ
  | .ct => Q .ct ρ
  | .rt r => Q (.rt r) ρ
theorem e_var {i : Nat} {Q : RV → DEnv → Prop} : dVar i ρ Q E = dvK (ρ[i]?) i ρ Q := rfl
theorem e_dvp {i : Nat} {d : D} {Q : RV → DEnv → Prop} : dvK (some (some (.pure d))) i ρ Q = Q (.pure d) ρ := rfl
theorem e_dvo {i : Nat} {o : OB} {Q : RV → DEnv → Prop} : dvK (some (some (.own o))) i ρ Q = Q (.slot i) ρ := rfl
theorem e_dvr {i : Nat} {v : V} {Q : RV → DEnv → Prop} : dvK (some (some (.raw v))) i ρ Q = Q (.raw v) ρ := rfl
theorem e_c {d : D} {Q : RV → DEnv → Prop} : dC d ρ Q E = Q (.pure d) ρ := rfl
theorem e_op {g : G2} {Q : RV → DEnv → Prop} : dOp g ta tb ρ Q E = ta ρ (fun ra ρ1 => tb ρ1 (fun rb ρ2 => op2K g (rvData ρ2 (frzR ra)) (rvData ρ2 rb) fun r => Q r ρ2) E) E := rfl
theorem e_op2 {g : G2} {x y : D} {K : RV → Prop} : op2K g (some x) (some y) K = g x y K := by
  unfold op2K; simp
theorem e_op2C {g : GC} {x y : D} {K : Bool → Prop} : op2C g (some x) (some y) K = g x y K := by
  unfold op2C; simp
theorem e_rvp {d : D} : rvData ρ (.pure d) = some d := rfl
theorem e_rvt {o : OB} : rvData ρ (.tmp o) = some o.data := rfl
theorem e_rvs {i : Nat} : rvData ρ (.slot i) = rvS (ρ[i]?) := by
  unfold rvData rvS; rfl
theorem e_rvSp {d : D} : rvS (some (some (.pure d))) = some d := rfl
theorem e_rvSo {o : OB} : rvS (some (some (.own o))) = some o.data := rfl
theorem e_fp {d : D} : frzR (.pure d) = .pure d := rfl
theorem e_fs {i : Nat} : frzR (.slot i) = .slot i := rfl
theorem e_ft {o : OB} : frzR (.tmp o) = .pure o.data := rfl
theorem e_fr {v : V} : frzR (.raw v) = .raw v := rfl
theorem e_dl {ds : List D} : OB.data (.lst ds) = .list ds := rfl
theorem e_dd {ds : List (D × D)} : OB.data (.dic ds) = .dict ds := rfl
theorem e_ixl {xs : List D} {i : Int} {K : RV → Prop} : gIx (.list xs) (.int i) K = atK (atI xs i) K := rfl
theorem e_ixt {xs : List D} {i : Int} {K : RV → Prop} : gIx (.tuple xs) (.int i) K = atK (atI xs i) K := rfl
theorem e_atK {d : D} {K : RV → Prop} : atK (some d) K = K (.pure d) := by unfold atK; simp
theorem e_at0 {α : Type} {a : α} {l : List α} : atI (a :: l) 0 = some a := by
  unfold atI ixN; simp
theorem e_at1 {α : Type} {a b : α} {l : List α} : atI (a :: b :: l) 1 = some b := by
  have h : (1 : Int) < (a :: b :: l).length := by simp only [List.length_cons]; omega
  unfold atI ixN
  rw [if_pos (by decide), if_pos h]
  rfl
theorem e_at2 {α : Type} {a b c : α} {l : List α} : atI (a :: b :: c :: l) 2 = some c := by
  have h : (2 : Int) < (a :: b :: c :: l).length := by simp only [List.length_cons]; omega
  unfold atI ixN
  rw [if_pos (by decide), if_pos h]
  rfl
theorem e_at3 {α : Type} {a b c d : α} {l : List α} : atI (a :: b :: c :: d :: l) 3 = some d := by
  have h : (3 : Int) < (a :: b :: c :: d :: l).length := by simp only [List.length_cons]; omega
  unfold atI ixN
  rw [if_pos (by decide), if_pos h]
  rfl
theorem e_add {a b : Int} {K : RV → Prop} : gAdd (.int a) (.int b) K = K (.pure (.int (a + b))) := rfl
theorem e_sub {a b : Int} {K : RV → Prop} : gSub (.int a) (.int b) K = K (.pure (.int (a - b))) := rfl
theorem e_mul {a b : Int} {K : RV → Prop} : gMul (.int a) (.int b) K = (CMulW a b ∧ K (.pure (.int (a * b)))) := rfl
theorem e_ii {C : Int → Int → Prop} {f : Int → Int → Int} {a b : Int} {K : RV → Prop} : gII C f (.int a) (.int b) K = (C a b ∧ K (.pure (.int (f a b)))) := rfl
theorem e_ci {p : Int → Int → Bool} {a b : Int} {K : Bool → Prop} : gCI p (.int a) (.int b) K = K (p a b) := rfl
theorem e_cmpT {g : GC} {Q : Bool → DEnv → Prop} : dCmpT g ta tb ρ Q E = ta ρ (fun ra ρ1 => tb ρ1 (fun rb ρ2 => op2C g (rvData ρ2 (frzR ra)) (rvData ρ2 rb) fun r => Q r ρ2) E) E := rfl
theorem e_cmp {g : GC} : dCmp g ta tb = dOp (gB g) ta tb := rfl
theorem e_gB {g : GC} {a b : D} {K : RV → Prop} : gB g a b K = g a b fun k => K (.pure (.bool k)) := rfl
theorem e_test {Q : Bool → DEnv → Prop} : dTest ta ρ Q E = ta ρ (fun r ρ1 => tstK (rvData ρ1 r) fun k => Q k ρ1) E := rfl
theorem e_tst {k : Bool} {K : Bool → Prop} : tstK (some (.bool k)) K = K k := by unfold tstK; simp
theorem e_and {Q : Bool → DEnv → Prop} : dAnd ut ub ρ Q E = ut ρ (fun k ρ1 => if k = true then ub ρ1 Q E else Q false ρ1) E := rfl
theorem e_or {Q : Bool → DEnv → Prop} : dOr ut ub ρ Q E = ut ρ (fun k ρ1 => if k = true then Q true ρ1 else ub ρ1 Q E) E := rfl
theorem e_not {Q : Bool → DEnv → Prop} : dNot ut ρ Q E = ut ρ (fun k ρ1 => Q (!k) ρ1) E := rfl
theorem e_ifs {Q : Fl → DEnv → Prop} : dIfS ut g h ρ Q E = ut ρ (fun k ρ1 => if k = true then g ρ1 Q E else h ρ1 Q E) E := rfl
theorem e_if {Q : RV → DEnv → Prop} : dIf ut ta tb ρ Q E = ut ρ (fun k ρ1 => if k = true then ta ρ1 Q E else tb ρ1 Q E) E := rfl
theorem e_seq {Q : Fl → DEnv → Prop} : dSeq g h ρ Q E = g ρ (fun fl ρ1 => seqK h Q E fl ρ1) E := rfl
theorem e_sn {Q : Fl → DEnv → Prop} : seqK h Q E .nx ρ = h ρ Q E := rfl
theorem e_sr {r : RV} {Q : Fl → DEnv → Prop} : seqK h Q E (.rt r) ρ = Q (.rt r) ρ := rfl
theorem e_sb {Q : Fl → DEnv → Prop} : seqK h Q E .bk ρ = Q .bk ρ := rfl
theorem e_sc {Q : Fl → DEnv → Prop} : seqK h Q E .ct ρ = Q .ct ρ := rfl
theorem e_next {Q : Fl → DEnv → Prop} : dNext ρ Q E = Q .nx ρ := rfl
theorem e_asg {tg : TDG} {Q : Fl → DEnv → Prop} : dAsg t tg ρ Q E = t ρ (fun r ρ1 => tg r ρ1 fun ρ2 => Q .nx ρ2) E := rfl
theorem e_gn {ios : List Nat} {i : Nat} {r : RV} {Q : DEnv → Prop} : dgName ios i r ρ Q = (i ∉ ios ∧ putR i r ρ Q) := rfl
theorem e_pp {i : Nat} {d : D} {Q : DEnv → Prop} : putR i (.pure d) ρ Q = Q (ρ.set i (some (.pure d))) := rfl
theorem e_pt {i : Nat} {o : OB} {Q : DEnv → Prop} : putR i (.tmp o) ρ Q = Q (ρ.set i (some (.own o))) := rfl
theorem e_pr {i : Nat} {v : V} {Q : DEnv → Prop} : putR i (.raw v) ρ Q = Q (ρ.set i (some (.raw v))) := rfl
theorem e_ps {i j : Nat} {Q : DEnv → Prop} : putR i (.slot j) ρ Q = keepS (ρ[j]?) j ρ fun d ρ' => Q (ρ'.set i (some (.pure d))) := rfl
theorem e_kp {d : D} {Q : D → DEnv → Prop} : keepR (.pure d) ρ Q = Q d ρ := rfl
theorem e_kt {o : OB} {Q : D → DEnv → Prop} : keepR (.tmp o) ρ Q = Q o.data ρ := rfl
theorem e_ks {i : Nat} {Q : D → DEnv → Prop} : keepR (.slot i) ρ Q = keepS (ρ[i]?) i ρ Q := rfl
theorem e_kSp {i : Nat} {d : D} {Q : D → DEnv → Prop} : keepS (some (some (.pure d))) i ρ Q = Q d ρ := rfl
theorem e_kSo {i : Nat} {o : OB} {Q : D → DEnv → Prop} : keepS (some (some (.own o))) i ρ Q = Q o.data (ρ.set i (some (.pure o.data))) := rfl
theorem e_ret {Q : Fl → DEnv → Prop} : dRet t ρ Q E = t ρ (fun r ρ1 => Q (.rt r) ρ1) E := rfl
theorem e_drop {Q : Fl → DEnv → Prop} : dDrop t ρ Q E = t ρ (fun _ ρ1 => Q .nx ρ1) E := rfl
theorem e_cg {g : GL} {Q : RV → DEnv → Prop} : dCallG g u ρ Q E = u ρ (fun rs ρ1 => cgK g (rvDatas ρ1 rs) fun r => Q r ρ1) E := rfl
theorem e_cgK {g : GL} {ds : List D} {K : RV → Prop} : cgK g (some ds) K = g ds K := by unfold cgK; simp
theorem e_rds0 : rvDatas ρ [] = some [] := rfl
theorem e_rds {r : RV} {rs : List RV} : rvDatas ρ (r :: rs) = optCons (rvData ρ r) (rvDatas ρ rs) := rfl
theorem e_oc {d : D} {ds : List D} : optCons (some d) (some ds) = some (d :: ds) := rfl
theorem e_nil {Q : List RV → DEnv → Prop} : dNil ρ Q E = Q [] ρ := rfl
theorem e_cons {Q : List RV → DEnv → Prop} : dCons t u ρ Q E = t ρ (fun r ρ1 => u ρ1 (fun rs ρ2 => Q (frzR r :: rs) ρ2) E) E := rfl
theorem e_int {i : Int} {K : RV → Prop} : gInt [.int i] K = K (.pure (.int i)) := rfl
theorem e_abs {i : Int} {K : RV → Prop} : gAbs [.int i] K = K (.pure (.int (if i < 0 then -i else i))) := rfl
theorem e_len {xs : List D} {K : RV → Prop} : gLen [.list xs] K = K (.pure (.int xs.length)) := rfl
theorem e_lent {xs : List D} {K : RV → Prop} : gLen [.tuple xs] K = K (.pure (.int xs.length)) := rfl
theorem e_callP {S : SpP} {Q : RV → DEnv → Prop} : dCallP S u ρ Q E = u ρ (fun rs ρ1 => argsD rs ρ1 fun ds ρ2 => S ds fun r => noSlot r ∧ Q r ρ2) E := rfl
theorem e_as0 {Q : List DV → DEnv → Prop} : argsD [] ρ Q = Q [] ρ := rfl
theorem e_as {r : RV} {rs : List RV} {Q : List DV → DEnv → Prop} : argsD (r :: rs) ρ Q = argD r ρ fun d ρ1 => argsD rs ρ1 fun ds ρ2 => Q (d :: ds) ρ2 := rfl
theorem e_ap {d : D} {Q : DV → DEnv → Prop} : argD (.pure d) ρ Q = Q (.pure d) ρ := rfl
theorem e_ar {v : V} {Q : DV → DEnv → Prop} : argD (.raw v) ρ Q = Q (.raw v) ρ := rfl
theorem e_asl {i : Nat} {Q : DV → DEnv → Prop} : argD (.slot i) ρ Q = keepS (ρ[i]?) i ρ fun d ρ' => Q (.pure d) ρ' := rfl
theorem e_sps {pre : List DV → Prop} {post : List DV → RV → Prop} {ds : List DV} {K : RV → Prop} : spS pre post ds K = (pre ds ∧ ∀ r, post ds r → K r) := rfl
theorem e_spt {pre : OB → List DV → Prop} {post : OB → List DV → RV → OB → Prop} {o : OB} {ds : List DV} {K : RV → OB → Prop} : spT pre post o ds K = (pre o ds ∧ ∀ r o', post o ds r o' → K r o') := rfl
/-- own[k] = v where the slot holds a list -/
theorem e_it {i : Nat} {ti : TD} {r : RV} {Q : DEnv → Prop} : dgItem i ti r ρ Q = keepR r ρ fun d ρ1 => (∃ ds, HasD ρ1 i (.own (.lst ds))) ∧ ti ρ1 (fun rk ρ2 => ∃ ds k j, HasD ρ2 i (.own (.lst ds)) ∧ rvData ρ2 rk = some (.int k) ∧ ixN ds.length k = some j ∧ Q (ρ2.set i (some (.own (.lst (ds.set j d)))))) fun _ _ => False := rfl
def itK (o : Option (Option DV)) (P : Prop) : Prop := (∃ ds, o = some (some (.own (.lst ds)))) ∧ P
def itK2 (o : Option (Option DV)) (rk : Option D) (K : List D → Nat → Prop) : Prop := ∃ ds k j, o = some (some (.own (.lst ds))) ∧ rk = some (.int k) ∧ ixN ds.length k = some j ∧ K ds j
def ixK (o : Option Nat) (K : Nat → Prop) : Prop := ∃ j, o = some j ∧ K j
theorem e_item {i : Nat} {ti : TD} {r : RV} {Q : DEnv → Prop} : dgItem i ti r ρ Q = keepR r ρ fun d ρ1 => itK (ρ1[i]?) (ti ρ1 (fun rk ρ2 => itK2 (ρ2[i]?) (rvData ρ2 rk) fun ds j => Q (ρ2.set i (some (.own (.lst (ds.set j d)))))) fun _ _ => False) := rfl
theorem e_itK {ds : List D} {P : Prop} : itK (some (some (.own (.lst ds)))) P = P := by unfold itK; simp
theorem e_itK2 {ds : List D} {k : Int} {K : List D → Nat → Prop} : itK2 (some (some (.own (.lst ds)))) (some (.int k)) K = ixK (ixN ds.length k) (K ds) := by unfold itK2 ixK; simp
theorem e_ixK {j : Nat} {K : Nat → Prop} : ixK (some j) K = K j := by unfold ixK; simp
theorem e_n0 {α : Type} {a : α} {l : List α} : ixN (a :: l).length 0 = some 0 := by
  have h : (0 : Int) < (a :: l).length := by simp only [List.length_cons]; omega
  unfold ixN
  rw [if_pos (by decide), if_pos h]
  rfl
theorem e_n1 {α : Type} {a b : α} {l : List α} : ixN (a :: b :: l).length 1 = some 1 := by
  have h : (1 : Int) < (a :: b :: l).length := by simp only [List.length_cons]; omega
  unfold ixN
  rw [if_pos (by decide), if_pos h]
  rfl
theorem e_n3 {α : Type} {a b c d : α} {l : List α} : ixN (a :: b :: c :: d :: l).length 3 = some 3 := by
  have h : (3 : Int) < (a :: b :: c :: d :: l).length := by simp only [List.length_cons]; omega
  unfold ixN
  rw [if_pos (by decide), if_pos h]
  rfl
def partK (o : Option D) (K : Option Int → Prop) : Prop := ∃ i, o = some (.int i) ∧ K (some i)
def slK (o : Option D) (lo hi : Option Int) (K : RV → Prop) : Prop := ∃ x, o = some x ∧ gSl x lo hi K
def sumK (o : Option (List Int)) (K : RV → Prop) : Prop := ∃ ns, o = some ns ∧ K (.pure (.int ns.sum))
def allK (o : Option (List Bool)) (K : RV → Prop) : Prop := ∃ ns, o = some ns ∧ K (.pure (.bool (ns.all id)))
theorem e_np {Q : Option Int → DEnv → Prop} : dNoPart ρ Q E = Q none ρ := rfl
theorem e_part {Q : Option Int → DEnv → Prop} : dPart t ρ Q E = t ρ (fun r ρ1 => partK (rvData ρ1 r) fun i => Q i ρ1) E := rfl
theorem e_pk {i : Int} {K : Option Int → Prop} : partK (some (.int i)) K = K (some i) := by unfold partK; simp
theorem e_sl {tl th : TDO} {Q : RV → DEnv → Prop} : dSl ta tl th ρ Q E = ta ρ (fun ra ρ1 => tl ρ1 (fun lo ρ2 => th ρ2 (fun hi ρ3 => slK (rvData ρ3 (frzR ra)) lo hi fun r => Q r ρ3) E) E) E := rfl
theorem e_sll {xs : List D} {lo hi : Option Int} {K : RV → Prop} : slK (some (.list xs)) lo hi K = K (.tmp (.lst (DL.cutD xs lo hi))) := by unfold slK gSl; simp
theorem e_slt {xs : List D} {lo hi : Option Int} {K : RV → Prop} : slK (some (.tuple xs)) lo hi K = K (.pure (.tuple (DL.cutD xs lo hi))) := by unfold slK gSl; simp
theorem e_sum {xs : List D} {K : RV → Prop} : gSum [.list xs] K = sumK (intsOf xs) K := rfl
theorem e_sumK {ns : List Int} {K : RV → Prop} : sumK (some ns) K = K (.pure (.int ns.sum)) := by unfold sumK; simp
theorem e_all {xs : List D} {K : RV → Prop} : gAll [.list xs] K = allK (bolsOf xs) K := rfl
theorem e_allK {ns : List Bool} {K : RV → Prop} : allK (some ns) K = K (.pure (.bool (ns.all id))) := by unfold allK; simp
theorem e_tupl {xs : List D} {K : RV → Prop} : gTuple [.list xs] K = K (.pure (.tuple xs)) := rfl
theorem e_tupt {xs : List D} {K : RV → Prop} : gTuple [.tuple xs] K = K (.pure (.tuple xs)) := rfl
theorem e_lstl {xs : List D} {K : RV → Prop} : gList [.list xs] K = K (.tmp (.lst xs)) := rfl
theorem e_lstt {xs : List D} {K : RV → Prop} : gList [.tuple xs] K = K (.tmp (.lst xs)) := rfl
theorem e_max2 {a b : Int} {K : RV → Prop} : gMax2 [.int a, .int b] K = K (.pure (.int (if b > a then b else a))) := rfl
theorem e_min2 {a b : Int} {K : RV → Prop} : gMin2 [.int a, .int b] K = K (.pure (.int (if b < a then b else a))) := rfl
theorem e_srt {xs : List D} {K : RV → Prop} : gSorted [.list xs] K = (sortOk xs ∧ K (.tmp (.lst (srtD xs)))) := rfl
theorem e_tupD {Q : RV → DEnv → Prop} : dTup u ρ Q E = u ρ (fun rs ρ1 => keepAll rs ρ1 fun ds ρ2 => ds.length ≤ sizeLine ∧ Q (.pure (.tuple ds)) ρ2) E := rfl
theorem e_lstD {Q : RV → DEnv → Prop} : dLst u ρ Q E = u ρ (fun rs ρ1 => keepAll rs ρ1 fun ds ρ2 => ds.length ≤ sizeLine ∧ Q (.tmp (.lst ds)) ρ2) E := rfl
theorem e_ka0 {Q : List D → DEnv → Prop} : keepAll [] ρ Q = Q [] ρ := rfl
theorem e_ka {r : RV} {rs : List RV} {Q : List D → DEnv → Prop} : keepAll (r :: rs) ρ Q = keepR r ρ fun d ρ1 => keepAll rs ρ1 fun ds ρ2 => Q (d :: ds) ρ2 := rfl
theorem e_addt {xs ys : List D} {K : RV → Prop} : gAdd (.tuple xs) (.tuple ys) K = (xs.length + ys.length ≤ sizeLine ∧ K (.pure (.tuple (xs ++ ys)))) := rfl
theorem e_addl {xs ys : List D} {K : RV → Prop} : gAdd (.list xs) (.list ys) K = (xs.length + ys.length ≤ sizeLine ∧ K (.tmp (.lst (xs ++ ys)))) := rfl
def unK (o : Option D) (K : RV → Prop) : Prop := ∃ x, o = some x ∧ gNeg x K
theorem e_neg {Q : RV → DEnv → Prop} : dUn gNeg ta ρ Q E = ta ρ (fun ra ρ1 => unK (rvData ρ1 ra) fun r => Q r ρ1) E := rfl
theorem e_negK {i : Int} {K : RV → Prop} : unK (some (.int i)) K = K (.pure (.int (-i))) := by unfold unK gNeg; simp
def isiK (o : Option D) (T : String) (K : RV → Prop) : Prop := ∃ d, o = some d ∧ K (.pure (.bool (isT d T)))
theorem e_isi {T : String} {Q : RV → DEnv → Prop} : dIsi T t ρ Q E = t ρ (fun r ρ1 => isiK (rvData ρ1 r) T fun v => Q v ρ1) E := rfl
theorem e_isiK {d : D} {T : String} {K : RV → Prop} : isiK (some d) T K = K (.pure (.bool (isT d T))) := by unfold isiK; simp
def isiKT (o : Option D) (T : List String) (K : RV → Prop) : Prop := ∃ d, o = some d ∧ K (.pure (.bool (isAny d T)))
theorem e_isiT {T : List String} {Q : RV → DEnv → Prop} : dIsiT T t ρ Q E = t ρ (fun r ρ1 => isiKT (rvData ρ1 r) T fun v => Q v ρ1) E := rfl
theorem e_isiKT {d : D} {T : List String} {K : RV → Prop} : isiKT (some d) T K = K (.pure (.bool (isAny d T))) := by unfold isiKT; simp
def tvK (o : Option D) (K : Bool → Prop) : Prop := ∃ k, o = some (.bool k) ∧ K k
theorem e_tvK {k : Bool} {K : Bool → Prop} : tvK (some (.bool k)) K = K k := by unfold tvK; simp
theorem e_andV {Q : RV → DEnv → Prop} : dAndV ta tb ρ Q E = ta ρ (fun r ρ1 => tvK (rvData ρ1 r) fun k => if k = true then tb ρ1 Q E else Q (.pure (.bool false)) ρ1) E := rfl
theorem e_orV {Q : RV → DEnv → Prop} : dOrV ta tb ρ Q E = ta ρ (fun r ρ1 => tvK (rvData ρ1 r) fun k => if k = true then Q (.pure (.bool true)) ρ1 else tb ρ1 Q E) E := rfl
theorem e_notV {Q : RV → DEnv → Prop} : dNotV ta ρ Q E = ta ρ (fun r ρ1 => tvK (rvData ρ1 r) fun k => Q (.pure (.bool (!k))) ρ1) E := rfl
theorem e_eq {a b : D} {K : Bool → Prop} : gEq a b K = (SeqAt.shaped a = true ∧ SeqAt.shaped b = true ∧ K (PyData.eqv a b)) := rfl
theorem e_ne {a b : D} {K : Bool → Prop} : gNe a b K = (SeqAt.shaped a = true ∧ SeqAt.shaped b = true ∧ K (!PyData.eqv a b)) := rfl
theorem e_isN {a : D} {K : Bool → Prop} : gIs a .none K = K (isNoneD a) := rfl
theorem e_isB {a b : Bool} {K : Bool → Prop} : gIs (.bool a) (.bool b) K = K (decide (a = b)) := rfl
theorem e_isnN {a : D} {K : Bool → Prop} : gIsNot a .none K = K (!isNoneD a) := rfl
def seqIK (d : D) (K : List D → Prop) : Prop := match d with
  | .list ds => K ds
  | .tuple ds => K ds
  | _ => False
theorem e_seqIl {ds : List D} {K : List D → Prop} : seqIK (.list ds) K = K ds := rfl
theorem e_seqIt {ds : List D} {K : List D → Prop} : seqIK (.tuple ds) K = K ds := rfl
theorem e_for {w : TDI} {tg : TDG} {Q : Fl → DEnv → Prop} : dFor w tg g ρ Q E = w ρ (fun ds ρ1 => forD tg g ds ρ1 Q E) E := rfl
theorem e_callI {S : SpI} {i : Nat} {Q : RV → DEnv → Prop} : dCallI S i u ρ Q E = ((∃ ob0, HasD ρ i (.own ob0)) ∧ u ρ (fun rs ρ1 => argsD rs ρ1 fun ds ρ2 => ∃ ob, HasD ρ2 i (.own ob) ∧ S ob ds fun r ob' => noSlot r ∧ Q r (ρ2.set i (some (.own ob')))) E) := rfl
/-- a loop by an invariant over what is done and what is left -/
theorem for_inv {tg : TDG} {Q : Fl → DEnv → Prop} (Pv : List D → List D → DEnv → Prop) (hs : ∀ a d r ρ, Pv a (d :: r) ρ → tg (.pure d) ρ fun ρ1 => g ρ1 (fun fl ρ2 => match fl with
    | .nx => Pv (a ++ [d]) r ρ2
    | .ct => Pv (a ++ [d]) r ρ2
    | .bk => Q .nx ρ2
    | .rt v => Q (.rt v) ρ2) E) (mt : ∀ r ρ (Q Q' : DEnv → Prop), tg r ρ Q → (∀ ρ', Q ρ' → Q' ρ') → tg r ρ Q') (mg : Mono g) (he : ∀ a ρ, Pv a [] ρ → Q .nx ρ) : ∀ {ds a ρ}, Pv a ds ρ → forD tg g ds ρ Q E
  | [], a, ρ, h => he a ρ h
  | d :: ds, a, ρ, h => mt _ _ _ _ (hs a d ds ρ h) fun ρ1 h1 => mg _ _ _ _ _ h1 (fun fl ρ2 h2 => by
      cases fl with
      | nx => exact for_inv Pv hs mt mg he h2
      | ct => exact for_inv Pv hs mt mg he h2
      | bk => exact h2
      | rt v => exact h2) fun _ _ z => z
/-- a comprehension whose every turn gives f of its item and leaves the environment -/
theorem comp_map {tg : TDG} {tt : TDB} {te : TD} {vs : List Nat} {Q : List D → DEnv → Prop} (f : D → D) (ρ : DEnv) (mg : ∀ r ρ (Q Q' : DEnv → Prop), tg r ρ Q → (∀ ρ', Q ρ' → Q' ρ') → tg r ρ Q') (mt : Mono tt) (me : Mono te) :
    ∀ {ds : List D} {acc : List D}, (∀ d ∈ ds, tg (.pure d) ρ fun ρ1 => tt ρ1 (fun b ρ2 => b = true ∧ te ρ2 (fun r ρ3 => keepR r ρ3 fun y ρ4 => y = f d ∧ wipeD ρ4 vs = ρ) fun _ _ => False) fun _ _ => False) → acc.length + ds.length ≤ sizeLine → Q (acc ++ ds.map f) ρ → compD tg tt te vs ds acc ρ Q
  | [], acc, _, _, hq => by
    show Q acc ρ
    simpa using hq
  | d :: ds, acc, h, hz, hq => mg _ _ _ _ (h d List.mem_cons_self) fun ρ1 h1 => mt _ _ _ _ _ h1 (fun b ρ2 ⟨hb, h2⟩ => by
      subst hb
      rw [if_pos rfl]
      refine me _ _ _ _ _ h2 (fun r ρ3 h3 => keepR.mono h3 fun y ρ4 ⟨hy, hw⟩ => ?_) fun _ _ z => z
      rw [List.length_cons] at hz
      refine ⟨by omega, ?_⟩
      rw [hw, hy]
      refine comp_map f ρ mg mt me (fun d' hd => h d' (List.mem_cons_of_mem _ hd)) (by rw [List.length_append, List.length_singleton]; omega) ?_
      rw [List.append_assoc]
      exact hq) fun _ _ z => z
theorem e_rtp {d : D} {K : RV → Prop} : retR (.pure d) ρ K = K (.pure d) := rfl
theorem e_rtt {o : OB} {K : RV → Prop} : retR (.tmp o) ρ K = K (.tmp o) := rfl
def rtK (o : Option (Option DV)) (K : RV → Prop) : Prop := match o with
  | some (some (.own o)) => K (.tmp o)
  | some (some (.pure d)) => K (.pure d)
  | _ => False
theorem e_rts {i : Nat} {K : RV → Prop} : retR (.slot i) ρ K = rtK (ρ[i]?) K := by unfold retR rtK; rfl
theorem e_rtKo {o : OB} {K : RV → Prop} : rtK (some (some (.own o))) K = K (.tmp o) := rfl
theorem e_rtKp {d : D} {K : RV → Prop} : rtK (some (some (.pure d))) K = K (.pure d) := rfl
theorem e_par {ios : List Nat} {i j : Nat} {ua : TDA} {Q : Fl → DEnv → Prop} : dPar2 ios i j ua ρ Q E = (i ∉ ios ∧ j ∉ ios ∧ ua ρ (fun rs ρ1 => match rs with
  | [r, r'] => r' ≠ .slot i ∧ putR i r ρ1 fun ρ2 => putR j r' ρ2 fun ρ3 => Q .nx ρ3
  | _ => False) E) := rfl
theorem e_chain {g g' : GC} {Q : RV → DEnv → Prop} : dChain g g' ta tb tc ρ Q E = ta ρ (fun ra ρ1 => tb ρ1 (fun rb ρ2 => op2C g (rvData ρ2 (frzR ra)) (rvData ρ2 (frzR rb)) fun k =>
  if k = true then tc ρ2 (fun rc ρ3 => op2C g' (rvData ρ3 (frzR rb)) (rvData ρ3 rc) fun r => Q (.pure (.bool r)) ρ3) E else Q (.pure (.bool false)) ρ2) E) E := rfl
/-- while by a measure -/
theorem while_inv {Q : Fl → DEnv → Prop} (Pv : Nat → DEnv → Prop) {m : Nat} (h0 : Pv m ρ) (hs : ∀ m ρ, Pv m ρ → ut ρ (fun b ρ1 => if b = true then g ρ1 (fun fl ρ2 => match fl with
  | .nx => ∃ m', m' < m ∧ Pv m' ρ2
  | .ct => ∃ m', m' < m ∧ Pv m' ρ2
  | .bk => Q .nx ρ2
  | .rt r => Q (.rt r) ρ2) E else Q .nx ρ1) E) : dWhile ut g ρ Q E := ⟨Pv, ⟨m, h0⟩, hs⟩
theorem shaped_int (a : Int) : SeqAt.shaped (.int a) = true := by simp [SeqAt.shaped, PyData.canLay0, PyData.depth]
theorem e_eqi {a b : Int} {K : Bool → Prop} : gEq (.int a) (.int b) K = K (a == b) := by
  unfold gEq
  rw [shaped_int, shaped_int]
  simp [PyData.eqv]
theorem e_nei {a b : Int} {K : Bool → Prop} : gNe (.int a) (.int b) K = K (!(a == b)) := by
  unfold gNe
  rw [shaped_int, shaped_int]
  simp [PyData.eqv]
theorem e_seqI {Q : List D → DEnv → Prop} : dSeqI t ρ Q E = t ρ (fun r ρ1 => keepR r ρ1 fun d ρ2 => seqIK d fun ds => Q ds ρ2) E := by
  unfold dSeqI
  congr 1
theorem e_yes {Q : Bool → DEnv → Prop} : dYes ρ Q E = Q true ρ := rfl
theorem e_comp {w : TDI} {tg : TDG} {tt : TDB} {te : TD} {vs : List Nat} {Q : RV → DEnv → Prop} : dComp w tg tt te vs ρ Q E = w ρ (fun ds ρ1 => compD tg tt te vs ds [] (wipeD ρ1 vs) fun acc ρ2 => Q (.tmp (.lst acc)) ρ2) E := rfl
theorem e_dcomp {w : TDI} {tg : TDG} {tt : TDB} {vs : List Nat} {Q : RV → DEnv → Prop} : dDComp w tg tt tk tv vs ρ Q E = w ρ (fun ds ρ1 => compDD tg tt tk tv vs ds [] (wipeD ρ1 vs) fun acc ρ2 => Q (.tmp (.dic acc)) ρ2) E := rfl
theorem e_wp0 : wipeD ρ [] = ρ := rfl
theorem e_wp {v : Nat} {vs : List Nat} : wipeD ρ (v :: vs) = (wipeD ρ vs).set v none := rfl
/-- a comprehension, every turn of which gives f of its item where p holds, and leaves the environment -/
theorem comp_filt {tg : TDG} {tt : TDB} {te : TD} {vs : List Nat} {Q : List D → DEnv → Prop} (f : D → D) (p : D → Bool) (ρ : DEnv) :
    ∀ {ds : List D} {acc : List D}, (∀ d ∈ ds, ∀ (K1 : D → DEnv → Prop) (K0 : DEnv → Prop), (p d = true → K1 (f d) ρ) → (p d = false → K0 ρ) → tg (.pure d) ρ fun ρ1 => tt ρ1 (fun b ρ2 => if b = true then te ρ2 (fun r ρ3 => keepR r ρ3 fun y ρ4 => K1 y (wipeD ρ4 vs)) (fun _ _ => False) else K0 (wipeD ρ2 vs)) fun _ _ => False) →
      acc.length + ds.length ≤ sizeLine → Q (acc ++ (ds.filter p).map f) ρ → compD tg tt te vs ds acc ρ Q
  | [], acc, _, _, hq => by
    show Q acc ρ
    simpa using hq
  | d :: ds, acc, h, hz, hq => by
    rw [List.length_cons] at hz
    refine h d List.mem_cons_self (fun y ρ' => acc.length < sizeLine ∧ compD tg tt te vs ds (acc ++ [y]) ρ' Q) (fun ρ' => compD tg tt te vs ds acc ρ' Q) (fun hp => ⟨by omega, ?_⟩) fun hp => ?_
    · refine comp_filt f p ρ (fun d' hd => h d' (List.mem_cons_of_mem _ hd)) (by rw [List.length_append, List.length_singleton]; omega) ?_
      rw [List.filter_cons_of_pos hp, List.map_cons] at hq
      rw [List.append_assoc]
      exact hq
    · refine comp_filt f p ρ (fun d' hd => h d' (List.mem_cons_of_mem _ hd)) (by omega) ?_
      rw [List.filter_cons_of_neg (by rw [hp]; exact Bool.false_ne_true)] at hq
      exact hq
/-- without tests -/
theorem comp_all {tg : TDG} {te : TD} {vs : List Nat} {Q : List D → DEnv → Prop} (f : D → D) (ρ : DEnv) {ds : List D} (h : ∀ d ∈ ds, ∀ (K1 : D → DEnv → Prop), K1 (f d) ρ → tg (.pure d) ρ fun ρ1 => te ρ1 (fun r ρ3 => keepR r ρ3 fun y ρ4 => K1 y (wipeD ρ4 vs)) (fun _ _ => False))
    (hz : ds.length ≤ sizeLine) (hq : Q (ds.map f) ρ) : compD tg dYes te vs ds [] ρ Q :=
  comp_filt f (fun _ => true) ρ (fun d hd K1 K0 h1 _ => h d hd K1 (h1 rfl)) (by simpa using hz) (by rw [List.nil_append, List.filter_eq_self.mpr (fun _ _ => rfl)]; exact hq)
/-- a loop by an invariant over what is done and what is left; Rt: what it may return -/
theorem for_k {tg : TDG} {Q : Fl → DEnv → Prop} (Pv : List D → List D → DEnv → Prop) (Rt : RV → DEnv → Prop) (hs : ∀ a d r ρ, Pv a (d :: r) ρ → ∀ K : Fl → DEnv → Prop, (∀ ρ', Pv (a ++ [d]) r ρ' → K .nx ρ') → (∀ ρ', Pv (a ++ [d]) r ρ' → K .ct ρ') → (∀ v ρ', Rt v ρ' → K (.rt v) ρ') → tg (.pure d) ρ fun ρ1 => g ρ1 K E)
    (hr : ∀ v ρ, Rt v ρ → Q (.rt v) ρ) (he : ∀ a ρ, Pv a [] ρ → Q .nx ρ) : ∀ {ds a ρ}, Pv a ds ρ → forD tg g ds ρ Q E
  | [], a, ρ, h => he a ρ h
  | d :: ds, a, ρ, h => hs a d ds ρ h _ (fun ρ' h' => for_k Pv Rt hs hr he h') (fun ρ' h' => for_k Pv Rt hs hr he h') hr
end
end DL
set_option Elab.async false
set_option linter.all false
set_option maxRecDepth 100000
set_option maxHeartbeats 4000000
namespace DL
open PySem PySem.Spec L2
open PyProof.Rows hiding St
section
variable {ρ : DEnv} {E : EK} {t ta tb : TD}
def rg1K (a : Option D) (K : List D → Prop) : Prop := ∃ j, a = some (.int j) ∧ bnd j ∧ K (rangeD 0 j)
def rg2K (a b : Option D) (K : List D → Prop) : Prop := ∃ i j, a = some (.int i) ∧ b = some (.int j) ∧ bnd i ∧ bnd j ∧ K (rangeD i j)
theorem e_rg1 {Q : List D → DEnv → Prop} : dRange1 (dCons t dNil) ρ Q E = t ρ (fun r ρ1 => rg1K (rvData ρ1 (frzR r)) fun ds => Q ds ρ1) E := rfl
theorem e_rg1K {j : Int} {K : List D → Prop} : rg1K (some (.int j)) K = (bnd j ∧ K (rangeD 0 j)) := by
  unfold rg1K; simp
theorem e_rg2 {Q : List D → DEnv → Prop} : dRange2 (dCons ta (dCons tb dNil)) ρ Q E = ta ρ (fun ra ρ1 => tb ρ1 (fun rb ρ2 => rg2K (rvData ρ2 (frzR ra)) (rvData ρ2 (frzR rb)) fun ds => Q ds ρ2) E) E := rfl
theorem e_rg2K {i j : Int} {K : List D → Prop} : rg2K (some (.int i)) (some (.int j)) K = (bnd i ∧ bnd j ∧ K (rangeD i j)) := by
  unfold rg2K; simp
theorem rangeD_nat (n : Nat) : rangeD 0 (n : Int) = (List.range n).map fun i : Nat => PyData.int (i : Int) := by
  unfold rangeD
  rw [show ((n : Int) - 0).toNat = n by omega]
  simp
theorem bnd_of {j : Int} (h : -1000000 ≤ j ∧ j ≤ 1000000) : bnd j := by
  unfold bnd
  omega
end
end DL
set_option Elab.async false
set_option linter.all false
set_option maxRecDepth 100000
set_option maxHeartbeats 4000000
namespace HB
open PySem PySem.Spec L2
open PyProof.Rows hiding St
theorem oexB_ok {K : PySem.W.Frag} {C : Addr} (q : oexB K C = true) : ∃ nm q N bs bm sn sub ab col dd k0 k1 k2 k3 k5, K.lookup C = some (excClassObj nm q C N bs bm true sn sub ab col dd k0 k1 k2 k3 k5 "ValueError.__new__") ∧ PySem.HandSPX.refsVE bm = true := by
  unfold oexB at q
  split at q
  · rename_i dd cd sl ho
    split at q
    · rename_i C' bm k0 k1 k2 k3 n k5 hm hs
      simp only [Bool.and_eq_true, beq_iff_eq, Bool.not_eq_true'] at q
      obtain ⟨⟨⟨⟨rfl, rfl⟩, hdel⟩, hhd⟩, ht⟩ := q
      obtain ⟨nm, bs, mro, ns, qn, hd, sn, sub, ab, col, del⟩ := cd
      dsimp only at hm hdel hhd
      subst hm hdel hhd
      have hsl : sl = #[k0, k1, k2, k3, some (.builtin "ValueError.__new__"), k5] := by
        obtain ⟨l⟩ := sl
        simp only at hs
        rw [hs]
      subst hsl
      exact ⟨nm, qn, ns, bs, bm, sn, sub, ab, col, dd, k0, k1, k2, k3, k5, ho, ht⟩
    · cases q
  · cases q
/-- what is asked of an own exception class; f: its one field, if any -/
structure ExK (K : PySem.W.Frag) (C fI : Addr) (f : Option Str) : Prop where
  oex : OexC K C
  ic : PySem.W.findIn K (.ref C) "__init__" = some (some (.ref fI))
  ti : PySem.W.typeIn K (.ref fI) = some (.type "function")
  xf : XfC K C
  fld : ∀ x, f = some x → PySem.W.findIn K (.ref C) x = some none
  ha : PySem.W.findIn K (.ref C) "__class__" = some (some (.builtin "object.__class__"))
  hm : PySem.W.mroIn K C (.type "object") = some true
theorem exB_ok {K : PySem.W.Frag} {C fI : Addr} {f : Option Str} (h : exB K C fI f = true) : ExK K C fI f := by
  obtain ⟨h1, h⟩ := He.ba h
  obtain ⟨h2, h⟩ := He.ba h
  obtain ⟨h3, h⟩ := He.ba h
  obtain ⟨h4, h⟩ := He.ba h
  obtain ⟨h5, h⟩ := He.ba h
  obtain ⟨h6, h⟩ := He.ba h
  obtain ⟨h7, h⟩ := He.ba h
  obtain ⟨h8, h⟩ := He.ba h
  obtain ⟨h9, h⟩ := He.ba h
  obtain ⟨h10, h11⟩ := He.ba h
  refine ⟨⟨oexB_ok h1, of_decide_eq_true h2, of_decide_eq_true h3, of_decide_eq_true h4, h5⟩, of_decide_eq_true h6, of_decide_eq_true h7, xfB_ok h8, fun x e => ?_, of_decide_eq_true h10, of_decide_eq_true h11⟩
  subst e
  exact of_decide_eq_true h9
/-- the base class of the errors -/
structure BaseK (K : PySem.W.Frag) (C : Addr) : Prop where
  rd : ClX.CRead K C (.type "type")
  fc : PySem.W.findCls K (.ref C) (.type "type") "__init__" = some (.val (.builtin "ValueError.__init__"))
theorem baseB_ok {K : PySem.W.Frag} {C : Addr} (h : baseB K C = true) : BaseK K C := by
  obtain ⟨h1, h⟩ := He.ba h
  obtain ⟨h2, h3⟩ := He.ba h
  refine ⟨⟨h1, of_decide_eq_true h2⟩, ?_⟩
  split at h3
  · rename_i x e
    rw [e, eq_of_beq h3]
  · cases h3
end HB
set_option Elab.async false
set_option linter.all false
set_option maxRecDepth 100000
set_option maxHeartbeats 4000000
namespace HB
open PySem PySem.Spec L2
open PyProof.Rows hiding St
section
variable {K : PySem.W.Frag} {L c d : Addr} {cs : List Addr}
theorem fam_ex (h : famB K L cs c = true) : ∃ cd, PySem.W.clsIn K c = some cd ∧ cd.mro.isEmpty = false ∧ (∀ d ∈ cs, cd.mro.contains (.ref d) = (c == d)) ∧ cd.mro.contains (.ref L) = true ∧ cd.mro.contains (.type "ValueError") = true := by
  unfold famB at h
  split at h
  · rename_i cd e
    simp only [Bool.and_eq_true, Bool.not_eq_true', List.all_eq_true, beq_iff_eq] at h
    exact ⟨cd, e, h.1, h.2.1, h.2.2.1, h.2.2.2⟩
  · cases h
theorem fam_sub {b : Value} {cd : ClassData} {r : Bool} (e : PySem.W.clsIn K c = some cd) (hm : cd.mro.isEmpty = false) (hb : cd.mro.contains b = r) : PySem.W.subIn K (.ref c) b = some r := by
  show PySem.W.mroIn K c b = _
  unfold PySem.W.mroIn
  rw [e, Option.bind_some, hm]
  simp only [hb, Bool.false_eq_true, if_false]
theorem kit_fam (h : famB K L cs c = true) (hd : d ∈ cs) (T : OexC K d) (hc : (PySem.W.clsIn K d).isSome = true) : PySem.W.kitOne K (.ref c) (.ref d) = some (c == d) := by
  obtain ⟨cd, e, hm, hin, _⟩ := fam_ex h
  unfold PySem.W.kitOne
  split
  · rename_i q
    have q : c = d := Value.ref.inj (beq_iff_eq.mp q)
    rw [q]
    simp
  · unfold PySem.W.kitCls
    dsimp only
    rw [hc, T.tyC]
    simp only [beq_self_eq_true, Bool.and_self, if_true]
    exact fam_sub e hm (hin d hd)
theorem kit_up (h : famB K L cs c = true) (u : upB K L = true) : PySem.W.kitOne K (.ref c) (.ref L) = some true := by
  obtain ⟨cd, e, hm, _, hl, _⟩ := fam_ex h
  obtain ⟨_, u⟩ := He.ba u
  obtain ⟨_, u⟩ := He.ba u
  obtain ⟨ut, u⟩ := He.ba u
  obtain ⟨uc, _⟩ := He.ba u
  unfold PySem.W.kitOne
  split
  · rfl
  · unfold PySem.W.kitCls
    dsimp only
    rw [uc, of_decide_eq_true ut]
    simp only [beq_self_eq_true, Bool.and_self, if_true]
    exact fam_sub e hm hl
theorem kit_ve (h : famB K L cs c = true) : PySem.W.kitOne K (.ref c) (.type "ValueError") = some true := by
  obtain ⟨cd, e, hm, _, _, hv⟩ := fam_ex h
  unfold PySem.W.kitOne
  split
  · rfl
  · unfold PySem.W.kitCls
    dsimp only
    rw [if_pos (by decide +kernel)]
    exact fam_sub e hm hv
theorem exm_up (h : famB K L cs c = true) (u : upB K L = true) : PySem.W.exmOne K (.ref c) (.ref L) = some true := by
  obtain ⟨cd, e, hm, _, hl, _⟩ := fam_ex h
  obtain ⟨ub, u⟩ := He.ba u
  obtain ⟨ud, u⟩ := He.ba u
  obtain ⟨ut, u⟩ := He.ba u
  exact PySem.W.exm_ref (of_decide_eq_true ub) ud (of_decide_eq_true ut) (fam_sub e hm hl)
theorem isx_of {f : Option Str} {fI : Addr} (x : ExK K c fI f) (h : famB K L cs c = true) (u : upB K L = true) : DL.IsX K c := by
  obtain ⟨cd, e, _⟩ := fam_ex h
  obtain ⟨_, u⟩ := He.ba u
  obtain ⟨_, u⟩ := He.ba u
  obtain ⟨_, u⟩ := He.ba u
  obtain ⟨_, u⟩ := He.ba u
  obtain ⟨u1, u2⟩ := He.ba u
  exact ⟨x.xf, by rw [e]; rfl, x.ha, x.hm, of_decide_eq_true u1, of_decide_eq_true u2⟩
end
end HB
set_option Elab.async false
set_option linter.all false
set_option maxRecDepth 100000
set_option maxHeartbeats 4000000
namespace DL
open PySem PySem.Spec L2
open PyProof.Rows hiding St
/-- at a: a new exception of the class at C, its one field f, if any, holding v -/
inductive MadeX (H : Hp) (a C : Addr) : Option Str → V → Prop
  | bare {v : V} (h : H a = some (exo a C none)) : MadeX H a C none v
  | field {f : Str} {v : V} {d : Addr} (h : H a = some (exo a C (some d))) (hd : H d = some (exd d [(f, v)])) (hn : d ≠ a) : MadeX H a C (some f) v
theorem MadeX.held {H : Hp} {a C : Addr} {f : Option Str} {v : V} (h : MadeX H a C f v) : HeldX H a C := by
  cases h with
  | bare h => exact .bare h
  | field h hd _ => exact .dict h hd
theorem MadeX.mono {H H' : Hp} {a C : Addr} {f : Option Str} {v : V} (h : MadeX H a C f v) (k : ∀ b u, H b = some u → H' b = some u) : MadeX H' a C f v := by
  cases h with
  | bare h => exact .bare (k _ _ h)
  | field h hd n => exact .field (k _ _ h) (k _ _ hd) n
/-- __init__(self, f): Base.__init__(self, ..); self.f = f -/
def spInit (K : PySem.W.Frag) (C : Addr) (f : Str) : Sp := fun vs H Q _ => ∃ (a : Addr) (v : V), vs = [.ref a, v] ∧ H a = some (exo a C none) ∧ ∀ d, H d = none → d ≠ a → Q .non (upd (upd H d (exd d [(f, v)])) a (exo a C (some d)))
def spInit0 (K : PySem.W.Frag) (C : Addr) : Sp := fun vs H Q _ => ∃ a : Addr, vs = [.ref a] ∧ H a = some (exo a C none) ∧ Q .non H
/-- what is known of __init__ of the class at C -/
def InitOk (P : Program) (w : World) (K : PySem.W.Frag) (mg : Str → Option Value) (base : Heap) (C fI : Addr) : Option Str → Prop
  | none => ∃ fd, FnOk P w K mg base CX0 1 fI fd ["self"] (spInit0 K C) ∧ L2.Binds K fd ["self"] []
  | some f => ∃ fd, FnOk P w K mg base CX0 1 fI fd ["self", f] (spInit K C f) ∧ L2.Binds K fd ["self", f] [] ∧ KwB K fd ["self", f] 1 [f] [0]
section
variable {X : Cx} {C CL fI : Addr} {f x : Str} {e : Expr} {te : TE} {p pos : Pos} {m0 m1 : Str}
/-- C(e), e a name: the reading -/
def tMk (C : Addr) (f : Option Str) (i : Nat) : TE := fun σ H Q => ∃ v, σ[i]? = some (some v) ∧ ∀ a H', H a = none → (∀ b u, H b = some u → H' b = some u) → MadeX H' a C f v → Q (.ref a) H'
def tMk0 (C : Addr) : TE := fun σ H Q => ∀ a H', H a = none → (∀ b u, H b = some u → H' b = some u) → MadeX H' a C none .non → Q (.ref a) H'
theorem made_of {H : Hp} {a d : Addr} {v : V} (na : H a = none) (nd : upd H a (exo a C none) d = none) (hd : d ≠ a) :
    (∀ b u, H b = some u → upd (upd (upd H a (exo a C none)) d (exd d [(f, v)])) a (exo a C (some d)) b = some u) ∧ MadeX (upd (upd (upd H a (exo a C none)) d (exd d [(f, v)])) a (exo a C (some d))) a C (some f) v := by
  have nd' : H d = none := by rw [upd_ne hd] at nd; exact nd
  refine ⟨fun b u q => ?_, .field (d := d) upd_same ?_ hd⟩
  · rw [upd_ne (ne_of_none q na), upd_ne (ne_of_none q nd'), upd_ne (ne_of_none q na)]
    exact q
  · rw [upd_ne hd, upd_same]
theorem pe_mk {i : Nat} (k : HB.ExK X.K C fI (some f)) (ini : InitOk X.prog X.w X.K X.mg X.base C fI (some f)) (hr : Room 2 X.A) (hg : Gl X x) (hm : X.mg x = some (.ref C)) (he : PE X e (tVar i)) (hdb : (x == ("__debug__" : Str)) = false := by decide)
    (hs : starEach [e] X.env = (false, eval e X.env) :: starEach [] X.env := by rfl) (hpl : (backTo pos (starEach [] X.env)).any (·.1) = false := by rfl) : PE X (.Call (.Name x p) [e] [] pos) (tMk C (some f) i) := by
  obtain ⟨fd, F, hb, _⟩ := ini
  refine PE.imp (pe_oexV k.oex k.ic k.ti F hr hb pass0 hg hm (pa_cons he pa_nil hs) (by show 2 ≤ 1000; decide) hdb hs hpl) fun σ H Q ⟨v, hv, q⟩ => ⟨v, hv, rfl, fun a na => ⟨a, v, rfl, upd_same, fun d nd hd => ?_⟩⟩
  obtain ⟨m, M⟩ := made_of (C := C) (f := f) (v := v) na nd hd
  exact ⟨rfl, q a _ na m M⟩
theorem pe_mkK {i : Nat} {kws : List Keyword} (k : HB.ExK X.K C fI (some f)) (ini : InitOk X.prog X.w X.K X.mg X.base C fI (some f)) (hr : Room 2 X.A) (hg : Gl X x) (hm : X.mg x = some (.ref C)) (hk : PK X kws (tCons (tVar i) tNil))
    (hall : (backToKw pos (keywordEach kws X.env)).all (·.1.isSome) = true := by rfl) (hks : (backToKw pos (keywordEach kws X.env)).filterMap (·.1) = [f] := by rfl) (hdb : (x == ("__debug__" : Str)) = false := by decide)
    (hpl : ((backTo pos (starEach [] X.env)).any (·.1) || (backToKw pos (keywordEach kws X.env)).any (·.1.isNone)) = false := by rfl) : PE X (.Call (.Name x p) [] kws pos) (tMk C (some f) i) := by
  obtain ⟨fd, F, _, hb⟩ := ini
  refine PE.imp (pe_oexVK k.oex k.ic k.ti F hr hb pass0 hg hm hk hall hks hdb hpl) fun σ H Q ⟨v, hv, q⟩ => ⟨v, hv, rfl, fun a na => ⟨a, v, rfl, upd_same, fun d nd hd => ?_⟩⟩
  obtain ⟨m, M⟩ := made_of (C := C) (f := f) (v := v) na nd hd
  exact ⟨rfl, q a _ na m M⟩
theorem pe_mk0 (k : HB.ExK X.K C fI none) (ini : InitOk X.prog X.w X.K X.mg X.base C fI none) (hr : Room 2 X.A) (hg : Gl X x) (hm : X.mg x = some (.ref C)) (hdb : (x == ("__debug__" : Str)) = false := by decide) : PE X (.Call (.Name x p) [] [] pos) (tMk0 C) := by
  obtain ⟨fd, F, hb⟩ := ini
  refine PE.imp (pe_oexV0 k.oex k.ic k.ti F hr hb pass0 hg hm rfl hdb) fun σ H Q q => ⟨rfl, fun a na => ⟨a, rfl, upd_same, rfl, q a _ na (fun b u z => ?_) (.bare upd_same)⟩⟩
  rw [upd_ne (ne_of_none z na)]
  exact z
/-- raise C(e), raise C(): what leaves -/
def Left (H : Hp) (C : Addr) (od : Option Addr) (H' : Hp) : Prop := (∀ b u, H b = some u → H' b = some u) ∧ (od = none ∨ ∃ d fs, od = some d ∧ H' d = some (exd d fs))
theorem left_of {H H' : Hp} {a : Addr} {fo : Option Str} {v : V} (na : H a = none) (m : ∀ b u, H b = some u → H' b = some u) (M : MadeX H' a C fo v) : ∃ od, H' a = some (exo a C od) ∧ Left H C od (delH H' a) := by
  have k : ∀ b u, H b = some u → delH H' a b = some u := fun b u q => by rw [delH_ne (ne_of_none q na)]; exact m b u q
  cases M with
  | bare h => exact ⟨none, h, k, .inl rfl⟩
  | @field f v d h hd hn => exact ⟨some d, h, k, .inr ⟨d, _, rfl, by rw [delH_ne hn]; exact hd⟩⟩
end
end DL
set_option Elab.async false
set_option linter.all false
set_option maxRecDepth 100000
set_option maxHeartbeats 4000000
namespace TT
open PySem PySem.Spec PyProof.Rows L2 DL
def top (i : Nat) : Stmt := PySem.Challenge.pw_eightlooks_k99_errors.main.body.getD i (.Pass ⟨0, 0, 0, 0⟩)
structure Facts (K : PySem.W.Frag) (mg : PySem.Str → Option Value) : Prop where
  d__law_cell : Df K mg "_law_cell" (top 51)
  d__law_box : Df K mg "_law_box" (top 52)
  d__law_take : Df K mg "_law_take" (top 53)
  d__law_same : Df K mg "_law_same" (top 54)
  d__law_blamed : Df K mg "_law_blamed" (top 55)
  d__law_value : Df K mg "_law_value" (top 56)
  d__law_made_0 : Df K mg "_law_made_0" (top 57)
  d__law_made_1 : Df K mg "_law_made_1" (top 58)
  d__law_made_2 : Df K mg "_law_made_2" (top 59)
  d__law_made_3 : Df K mg "_law_made_3" (top 60)
  d__law_is_0 : Df K mg "_law_is_0" (top 61)
  d__law_is_1 : Df K mg "_law_is_1" (top 62)
  d__law_fields : Df K mg "_law_fields" (top 63)
  d__law_raised : Df K mg "_law_raised" (top 64)
  d__law_caught_right : Df K mg "_law_caught_right" (top 65)
  d__law_deep : Df K mg "_law_deep" (top 66)
  d__law_class_right : Df K mg "_law_class_right" (top 67)
  d_law : Df K mg "law" (top 68)
  b_ValueError : mg "ValueError" = none
  b_abs : mg "abs" = none
  b_bool : mg "bool" = none
  b_int : mg "int" = none
  b_isinstance : mg "isinstance" = none
  b_len : mg "len" = none
  b_list : mg "list" = none
  b_max : mg "max" = none
  b_min : mg "min" = none
  b_range : mg "range" = none
  b_str : mg "str" = none
  b_sum : mg "sum" = none
  b_tuple : mg "tuple" = none
  b_zip : mg "zip" = none
def g__law_cell : TDS := (dRet (dIf (dCmpT gLt (dVar 1) (dCallG gLen (dCons (dVar 0) dNil))) (dOp gIx (dVar 0) (dVar 1)) (dOp gAdd (dOp gMul (dC (.int 6647)) (dVar 1)) (dOp gMod (dCallG gInt (dCons (dCallG gSum (dCons (dSl (dVar 0) dNoPart (dPart (dC (.int 1)))) dNil)) dNil)) (dC (.int 1000003))))))
theorem sc__law_cell : FnScope ["script", "k"] ["script", "k"] (defScope (top 51)) := ⟨rfl, rfl, rfl, by decide +kernel, rfl, by decide +kernel, by decide +kernel⟩
theorem bd__law_cell : BindsOk "_law_cell" (top 51) ["script", "k"] := fun _ _ _ _ _ _ us hl => match us, hl with | [_, _], _ => rfl
theorem dv__law_cell {P : Program} {w : World} {K : PySem.W.Frag} {mg : Str → Option Value} {base : Heap} (fa : Facts K mg) (f : Addr) (cdv : Value) (A : Around) (outer : List Env) (s : Shared) (H : Hp) (E : XK) (hr : Room 0 (A.deeper (envOfC "_law_cell" (defScope (top 51)) s.heap.objs.size f cdv))) :
    DSs (cxOf CX0 P w K mg base ["script", "k"] "_law_cell" (defScope (top 51)) f cdv A outer s H E).nox W0 [] (defBody (top 51)) g__law_cell :=
  (dss_one (ds_ret (de_if (dt_cmp g_lt (de_of (pe_var (i := 1) rfl (.inl rfl))) (de_callB_ g_len rfl fa.b_len (by kernel_rfl) (da_cons (de_of (pe_var (i := 0) rfl (.inl rfl))) da_nil)) (nomark _)) (de_ix (de_of (pe_var (i := 0) rfl (.inl rfl))) (de_of (pe_var (i := 1) rfl (.inl rfl))) (by intro _ _; rfl)) (de_bin g_add (de_bin g_mul de_int (de_of (pe_var (i := 1) rfl (.inl rfl)))) (de_bin g_mod (de_callT_ g_int rfl fa.b_int (by kernel_rfl) (da_cons (de_callB_ (g_sum rfl) rfl fa.b_sum (by kernel_rfl) (da_cons (de_slice (de_of (pe_var (i := 0) rfl (.inl rfl))) do_none (do_some de_int)) da_nil)) da_nil)) de_int)))))
def pre__law_cell (ds : List DV) : Prop := ∃ (ns : List Int) (k : Int), ds = [.pure (.list (ns.map PyData.int)), .pure (.int k)] ∧ 0 ≤ k ∧ k < 64 ∧ ns.length ≤ 63
def post__law_cell (_ : List DV) (r : RV) : Prop := ∃ i : Int, r = .pure (.int i)
def S__law_cell : SpP := spS pre__law_cell post__law_cell
theorem len__law_cell (ds : List DV) (h : pre__law_cell ds) : ds.length = ["script", "k"].length := by
  obtain ⟨ns, k, rfl, _⟩ := h
  rfl
theorem intsOf_map : ∀ ns : List Int, intsOf (ns.map PyData.int) = some ns
  | [] => rfl
  | n :: ns => by show (intsOf (ns.map PyData.int)).map (n :: ·) = _; rw [intsOf_map ns]; rfl
theorem cutD_map {α β : Type} (f : α → β) (xs : List α) (lo hi : Option Int) : DL.cutD (xs.map f) lo hi = (DL.cutD xs lo hi).map f := by
  unfold DL.cutD
  rw [List.length_map, ← List.map_drop, ← List.map_take]
theorem law__law_cell (ds : List DV) (Q : RV → Prop) (h : pre__law_cell ds) (k : ∀ r, post__law_cell ds r → Q r) : bodyP 2 g__law_cell ds Q := by
  obtain ⟨ns, i, rfl, h0, h1, hl⟩ := h
  unfold bodyP g__law_cell
  try simp only [↓e_var, ↓e_dvp, ↓e_dvo, ↓e_dvr, ↓e_c, ↓e_op, ↓e_op2, ↓e_op2C, ↓e_rvp, ↓e_rvt, ↓e_rvs, ↓e_rvSp, ↓e_rvSo, ↓e_fp, ↓e_fs, ↓e_ft, ↓e_fr, ↓e_dl, ↓e_dd, ↓e_ixl, ↓e_ixt, ↓e_atK, ↓e_at0, ↓e_at1, ↓e_at2, ↓e_at3, ↓e_add, ↓e_sub, ↓e_mul, ↓e_ii, ↓e_ci, ↓e_cmpT, ↓e_cmp, ↓e_gB, ↓e_test, ↓e_tst, ↓e_and, ↓e_or, ↓e_not, ↓e_ifs, ↓e_if, ↓e_seq, ↓e_sn, ↓e_sr, ↓e_sb, ↓e_sc, ↓e_next, ↓e_asg, ↓e_gn, ↓e_pp, ↓e_pt, ↓e_pr, ↓e_ps, ↓e_kp, ↓e_kt, ↓e_ks, ↓e_kSp, ↓e_kSo, ↓e_ret, ↓e_drop, ↓e_cg, ↓e_cgK, ↓e_rds0, ↓e_rds, ↓e_oc, ↓e_nil, ↓e_cons, ↓e_int, ↓e_abs, ↓e_len, ↓e_lent, ↓e_callP, ↓e_as0, ↓e_as, ↓e_ap, ↓e_ar, ↓e_asl, ↓e_sps, ↓e_spt, ↓e_item, ↓e_itK, ↓e_itK2, ↓e_ixK, ↓e_n0, ↓e_n1, ↓e_n3, ↓e_np, ↓e_part, ↓e_pk, ↓e_sl, ↓e_sll, ↓e_slt, ↓e_sum, ↓e_sumK, ↓e_all, ↓e_allK, ↓e_tupl, ↓e_tupt, ↓e_lstl, ↓e_lstt, ↓e_max2, ↓e_min2, ↓e_srt, ↓e_tupD, ↓e_lstD, ↓e_ka0, ↓e_ka, ↓e_addt, ↓e_addl, ↓e_neg, ↓e_negK, ↓e_isi, ↓e_isiK, ↓e_isiT, ↓e_isiKT, ↓e_tvK, ↓e_andV, ↓e_orV, ↓e_notV, ↓e_isN, ↓e_isB, ↓e_isnN, ↓e_seqIl, ↓e_seqIt, ↓e_for, ↓e_callI, ↓e_rtp, ↓e_rtt, ↓e_rts, ↓e_rtKo, ↓e_rtKp, ↓e_par, ↓e_chain, ↓e_eqi, ↓e_nei, ↓e_seqI, ↓e_yes, ↓e_comp, ↓e_dcomp, ↓e_wp0, ↓e_wp, ↓List.map_cons, ↓List.map_nil, ↓List.length_cons, ↓List.length_nil, ↓List.cons_append, ↓List.nil_append, ↓List.getElem?_cons_zero, ↓List.getElem?_cons_succ, ↓List.set_cons_zero, ↓List.set_cons_succ, ↓List.replicate, ↓e_rg1, ↓e_rg1K, ↓e_rg2, ↓e_rg2K]
  simp only [e_sum, cutD_map, intsOf_map, e_sumK, e_rds, e_rds0, e_rvp, e_oc, e_cgK, e_int, e_fp, e_op2, e_ii, e_add, e_mul]
  split
  · rename_i hlt
    have hlt : i < (ns.map PyData.int).length := of_decide_eq_true hlt
    have e : atI (ns.map PyData.int) i = some (.int (ns[i.toNat]'(by rw [List.length_map] at hlt; omega))) := by
      unfold atI ixN
      rw [if_pos h0, if_pos hlt]
      show (ns.map PyData.int)[i.toNat]? = _
      rw [List.getElem?_map, List.getElem?_eq_getElem (by rw [List.length_map] at hlt; omega)]
      rfl
    rw [e, e_atK]
    exact k _ ⟨_, rfl⟩
  · have cm : CMulW 6647 i := by
      have h64 : ∀ x : Int, 0 ≤ x → x < 18446744073709551616 → x.natAbs.log2 < 64 := fun x h0 h1 => by
        by_cases z : x.natAbs = 0
        · rw [z]; decide
        · exact (Nat.log2_lt z).mpr (by have : (2 : Nat) ^ 64 = 18446744073709551616 := by decide
                                        omega)
      have a1 := h64 6647 (by omega) (by omega)
      have a2 := h64 i h0 (by omega)
      unfold CMulW
      omega
    refine ⟨cm, ?_⟩
    exact ⟨by decide, k _ ⟨_, rfl⟩⟩
theorem ok__law_cell {P : Program} {w : World} {K : PySem.W.Frag} {mg : Str → Option Value} {base : Heap} (fa : Facts K mg) : Kn P w K mg base 1 "_law_cell" (top 51) ["script", "k"] (spP ⟨P, w, K⟩ S__law_cell) :=
  kn_p fa.d__law_cell sc__law_cell bd__law_cell len__law_cell g__law_cell (dv__law_cell fa) law__law_cell
def g__law_take : TDS := (dSeq (dIfS (dAnd (dTest (dOp gIx (dVar 0) (dC (.int 1)))) (dCmpT gGt (dOp gIx (dVar 0) (dC (.int 0))) (dC (.int 0))))
  (dSeq (dAsg (dOp gMod (dCallG gInt (dCons (dOp gIx (dVar 0) (dC (.int 0))) dNil)) (dVar 1)) (dgName [0] 2))
  (dSeq (dAsg (dOp gDiv (dOp gIx (dVar 0) (dC (.int 0))) (dVar 1)) (dgItem 0 (dC (.int 0))))
  (dRet (dVar 2))))
  dNext)
  (dSeq (dAsg (dOp gAdd (dOp gIx (dVar 0) (dC (.int 3))) (dC (.int 1))) (dgItem 0 (dC (.int 3))))
  (dSeq (dAsg (dOp gMod (dCallG gInt (dCons (dOp gPow (dOp gAdd (dOp gAdd (dOp gIx (dVar 0) (dC (.int 2))) (dOp gMul (dC (.int 15487669)) (dOp gIx (dVar 0) (dC (.int 3))))) (dC (.int 179426281))) (dC (.int 5))) dNil)) (dC (.int 2147483647))) (dgName [0] 3))
  (dRet (dOp gMod (dCallG gInt (dCons (dOp gDiv (dOp gMod (dCallG gInt (dCons (dOp gPow (dOp gAdd (dOp gMul (dVar 3) (dC (.int 48271))) (dOp gMul (dC (.int 104743)) (dOp gIx (dVar 0) (dC (.int 3))))) (dC (.int 3))) dNil)) (dC (.int 2147483587))) (dC (.int 64))) dNil)) (dVar 1))))))
theorem sc__law_take : FnScope ["box", "many", "digit", "mixed"] ["box", "many"] (defScope (top 53)) := ⟨rfl, rfl, rfl, by decide +kernel, rfl, by decide +kernel, by decide +kernel⟩
theorem bd__law_take : BindsOk "_law_take" (top 53) ["box", "many"] := fun _ _ _ _ _ _ us hl => match us, hl with | [_, _], _ => rfl
theorem dv__law_take {P : Program} {w : World} {K : PySem.W.Frag} {mg : Str → Option Value} {base : Heap} (fa : Facts K mg) (f : Addr) (cdv : Value) (A : Around) (outer : List Env) (s : Shared) (H : Hp) (E : XK) (hr : Room 0 (A.deeper (envOfC "_law_take" (defScope (top 53)) s.heap.objs.size f cdv))) :
    DSs (cxOf CX0 P w K mg base ["box", "many", "digit", "mixed"] "_law_take" (defScope (top 53)) f cdv A outer s H E).nox W0 [0] (defBody (top 53)) g__law_take :=
  (dss_cons (ds_if (DW.dt (dw_and (dt_val (de_ix (de_of (pe_var (i := 0) rfl (.inl rfl))) de_int (by intro _ _; rfl))) (dw_and1 (dt_cmp g_gt (de_ix (de_of (pe_var (i := 0) rfl (.inl rfl))) de_int (by intro _ _; rfl)) de_int (nomark _)))))
  (dss_cons (ds_setN (i := 2) sc__law_take.nd rfl (Or.inl rfl) (de_bin g_mod (de_callT_ g_int rfl fa.b_int (by kernel_rfl) (da_cons (de_ix (de_of (pe_var (i := 0) rfl (.inl rfl))) de_int (by intro _ _; rfl)) da_nil)) (de_of (pe_var (i := 1) rfl (.inl rfl)))))
  (dss_cons (ds_asg (de_bin g_div (de_ix (de_of (pe_var (i := 0) rfl (.inl rfl))) de_int (by intro _ _; rfl)) (de_of (pe_var (i := 1) rfl (.inl rfl)))) (dg_item (pe_var (i := 0) rfl (.inl rfl)) de_int))
  (dss_one (ds_ret (de_of (pe_var (i := 2) rfl (.inl rfl)))))))
  dss_nil)
  (dss_cons (ds_asg (de_bin g_add (de_ix (de_of (pe_var (i := 0) rfl (.inl rfl))) de_int (by intro _ _; rfl)) de_int) (dg_item (pe_var (i := 0) rfl (.inl rfl)) de_int))
  (dss_cons (ds_setN (i := 3) sc__law_take.nd rfl (Or.inl rfl) (de_bin g_mod (de_callT_ g_int rfl fa.b_int (by kernel_rfl) (da_cons (de_bin g_pow (de_bin g_add (de_bin g_add (de_ix (de_of (pe_var (i := 0) rfl (.inl rfl))) de_int (by intro _ _; rfl)) (de_bin g_mul de_int (de_ix (de_of (pe_var (i := 0) rfl (.inl rfl))) de_int (by intro _ _; rfl)))) de_int) de_int) da_nil)) de_int))
  (dss_one (ds_ret (de_bin g_mod (de_callT_ g_int rfl fa.b_int (by kernel_rfl) (da_cons (de_bin g_div (de_bin g_mod (de_callT_ g_int rfl fa.b_int (by kernel_rfl) (da_cons (de_bin g_pow (de_bin g_add (de_bin g_mul (de_of (pe_var (i := 3) rfl (.inl rfl))) de_int) (de_bin g_mul de_int (de_ix (de_of (pe_var (i := 0) rfl (.inl rfl))) de_int (by intro _ _; rfl)))) de_int) da_nil)) de_int) de_int) da_nil)) (de_of (pe_var (i := 1) rfl (.inl rfl)))))))))
def BoxOk (m : Int) (o : OB) : Prop := ∃ (g : Int) (f : Bool) (s c : Int), o = .lst [.int g, .bool f, .int s, .int c] ∧ 0 ≤ g ∧ 0 ≤ s ∧ s < 2147483629 ∧ 0 ≤ c ∧ c ≤ m
def pre__law_take (o : OB) (ds : List DV) : Prop := ∃ n : Int, BoxOk 1000000000 o ∧ ds = [.pure (.int n)] ∧ 0 < n ∧ n ≤ 1000000
def post__law_take (o : OB) (ds : List DV) (r : RV) (o' : OB) : Prop := ∃ i : Int, r = .pure (.int i) ∧ 0 ≤ i ∧ (∀ n, ds = [.pure (.int n)] → i < n) ∧ ∀ m, BoxOk m o → BoxOk (m + 1) o'
theorem law__law_take (o : OB) (ds : List DV) (Q : RV → OB → Prop) (h : pre__law_take o ds) (k : ∀ r o', post__law_take o ds r o' → Q r o') : bodyI 4 g__law_take o ds Q := by
  obtain ⟨n, ⟨g, f, sd, c, rfl, hg, hs, hs2, hc, hc2⟩, rfl, hn, hn2⟩ := h
  unfold bodyI g__law_take
  try simp only [↓e_var, ↓e_dvp, ↓e_dvo, ↓e_dvr, ↓e_c, ↓e_op, ↓e_op2, ↓e_op2C, ↓e_rvp, ↓e_rvt, ↓e_rvs, ↓e_rvSp, ↓e_rvSo, ↓e_fp, ↓e_fs, ↓e_ft, ↓e_fr, ↓e_dl, ↓e_dd, ↓e_ixl, ↓e_ixt, ↓e_atK, ↓e_at0, ↓e_at1, ↓e_at2, ↓e_at3, ↓e_add, ↓e_sub, ↓e_mul, ↓e_ii, ↓e_ci, ↓e_cmpT, ↓e_cmp, ↓e_gB, ↓e_test, ↓e_tst, ↓e_and, ↓e_or, ↓e_not, ↓e_ifs, ↓e_if, ↓e_seq, ↓e_sn, ↓e_sr, ↓e_sb, ↓e_sc, ↓e_next, ↓e_asg, ↓e_gn, ↓e_pp, ↓e_pt, ↓e_pr, ↓e_ps, ↓e_kp, ↓e_kt, ↓e_ks, ↓e_kSp, ↓e_kSo, ↓e_ret, ↓e_drop, ↓e_cg, ↓e_cgK, ↓e_rds0, ↓e_rds, ↓e_oc, ↓e_nil, ↓e_cons, ↓e_int, ↓e_abs, ↓e_len, ↓e_lent, ↓e_callP, ↓e_as0, ↓e_as, ↓e_ap, ↓e_ar, ↓e_asl, ↓e_sps, ↓e_spt, ↓e_item, ↓e_itK, ↓e_itK2, ↓e_ixK, ↓e_n0, ↓e_n1, ↓e_n3, ↓e_np, ↓e_part, ↓e_pk, ↓e_sl, ↓e_sll, ↓e_slt, ↓e_sum, ↓e_sumK, ↓e_all, ↓e_allK, ↓e_tupl, ↓e_tupt, ↓e_lstl, ↓e_lstt, ↓e_max2, ↓e_min2, ↓e_srt, ↓e_tupD, ↓e_lstD, ↓e_ka0, ↓e_ka, ↓e_addt, ↓e_addl, ↓e_neg, ↓e_negK, ↓e_isi, ↓e_isiK, ↓e_isiT, ↓e_isiKT, ↓e_tvK, ↓e_andV, ↓e_orV, ↓e_notV, ↓e_isN, ↓e_isB, ↓e_isnN, ↓e_seqIl, ↓e_seqIt, ↓e_for, ↓e_callI, ↓e_rtp, ↓e_rtt, ↓e_rts, ↓e_rtKo, ↓e_rtKp, ↓e_par, ↓e_chain, ↓e_eqi, ↓e_nei, ↓e_seqI, ↓e_yes, ↓e_comp, ↓e_dcomp, ↓e_wp0, ↓e_wp, ↓List.map_cons, ↓List.map_nil, ↓List.length_cons, ↓List.length_nil, ↓List.cons_append, ↓List.nil_append, ↓List.getElem?_cons_zero, ↓List.getElem?_cons_succ, ↓List.set_cons_zero, ↓List.set_cons_succ, ↓List.replicate, ↓e_rg1, ↓e_rg1K, ↓e_rg2, ↓e_rg2K]
  have h64 : ∀ x : Int, 0 ≤ x → x < 18446744073709551616 → x.natAbs.log2 < 64 := fun x h0 h1 => by
    by_cases z : x.natAbs = 0
    · rw [z]; decide
    · exact (Nat.log2_lt z).mpr (by have : (2 : Nat) ^ 64 = 18446744073709551616 := by decide
                                    omega)
  have fin1 : ∀ o', BoxOk (c + 1) o' → (∀ m, BoxOk m (OB.lst [.int g, .bool f, .int sd, .int c]) → BoxOk (m + 1) o') → ∀ i : Int, Q (.pure (.int (i % n))) o' := fun o' hb hm i =>
    k _ _ ⟨_, rfl, Int.emod_nonneg _ (by omega), fun n' e => by cases e; exact Int.emod_lt_of_pos _ hn, hm⟩
  have up1 : ∀ m, BoxOk m (OB.lst [.int g, .bool f, .int sd, .int c]) → c ≤ m := fun m hm => by
    obtain ⟨g', f', s', c', e, _, _, _, _, h⟩ := hm
    cases e
    exact h
  have fB : ∀ (x y : Int), CMulW 15487669 (c + 1) ∧ CPow (sd + 15487669 * (c + 1) + 179426281) 5 := fun _ _ => by
    refine ⟨?_, by decide, by decide, by omega⟩
    have h1 := h64 (c + 1) (by omega) (by omega)
    have h2 := h64 15487669 (by omega) (by omega)
    unfold CMulW
    omega
  have eB : CMulW 15487669 (c + 1) ∧ CPow (sd + 15487669 * (c + 1) + 179426281) 5 := fB 0 0
  generalize hx : (sd + 15487669 * (c + 1) + 179426281) ^ Int.toNat 5 % 2147483647 = x
  have x0 : 0 ≤ x := by rw [← hx]; exact Int.emod_nonneg _ (by decide)
  have x1 : x < 2147483647 := by rw [← hx]; exact Int.emod_lt_of_pos _ (by decide)
  have cx : CMulW x 48271 := by
    have h1 := h64 x x0 (by omega)
    have h2 := h64 48271 (by omega) (by omega)
    unfold CMulW
    omega
  have cc : CMulW 104743 (c + 1) := by
    have h1 := h64 (c + 1) (by omega) (by omega)
    have h2 := h64 104743 (by omega) (by omega)
    unfold CMulW
    omega
  have c3 : CPow (x * 48271 + 104743 * (c + 1)) 3 := ⟨by decide, by decide, by omega⟩
  have c4 : ∀ y : Int, CDivW y 64 := fun y => ⟨by decide, by decide⟩
  have B2 : ∃ o', HasD [some (DV.own (OB.lst [.int g, .bool f, .int sd, .int (c + 1)])), some (DV.pure (.int n)), none, some (DV.pure (.int x))] 0 (.own o') ∧
      retI (RV.pure (.int ((x * 48271 + 104743 * (c + 1)) ^ Int.toNat 3 % 2147483587 / 64 % n))) [some (DV.own (OB.lst [.int g, .bool f, .int sd, .int (c + 1)])), some (DV.pure (.int n)), none, some (DV.pure (.int x))] fun r => Q r o' :=
    ⟨_, rfl, (fun z => nomatch z), fin1 _ ⟨g, f, sd, c + 1, rfl, hg, hs, hs2, by omega, by omega⟩ (fun m hm => ⟨g, f, sd, c + 1, rfl, hg, hs, hs2, by omega, by have := up1 m hm; omega⟩) _⟩
  have dn : CDivW g n := ⟨hn, Nat.lt_trans (h64 n (by omega) (by omega)) (by decide)⟩
  have g2 : 0 ≤ g / n := Int.ediv_nonneg hg (by omega)
  have B1 : ∃ o', HasD [some (DV.own (OB.lst [.int (g / n), .bool f, .int sd, .int c])), some (DV.pure (.int n)), some (DV.pure (.int (g % n))), none] 0 (.own o') ∧
      retI (RV.pure (.int (g % n))) [some (DV.own (OB.lst [.int (g / n), .bool f, .int sd, .int c])), some (DV.pure (.int n)), some (DV.pure (.int (g % n))), none] fun r => Q r o' :=
    ⟨_, rfl, (fun z => nomatch z), fin1 _ ⟨g / n, f, sd, c, rfl, g2, hs, hs2, hc, by omega⟩ (fun m hm => ⟨g / n, f, sd, c, rfl, g2, hs, hs2, hc, by have := up1 m hm; omega⟩) _⟩
  have L : ¬ 2 ∈ [0] := by decide
  have L3 : ¬ 3 ∈ [0] := by decide
  have R2 := And.intro eB.1 (And.intro eB.2 (And.intro (by decide : (0 : Int) < 2147483647) (And.intro L3 (And.intro cx (And.intro cc (And.intro c3 (And.intro (by decide : (0 : Int) < 2147483587) (And.intro (c4 ((x * 48271 + 104743 * (c + 1)) ^ Int.toNat 3 % 2147483587)) (And.intro hn B2)))))))))
  split
  · split
    · exact ⟨hn, L, dn, B1⟩
    · exact R2
  · exact R2
def S__law_take : SpI := spT pre__law_take post__law_take
theorem len__law_take (o : OB) (ds : List DV) (h : pre__law_take o ds) : ds.length + 1 = ["box", "many"].length := by
  obtain ⟨n, _, rfl, _⟩ := h
  rfl
theorem ok__law_take {P : Program} {w : World} {K : PySem.W.Frag} {mg : Str → Option Value} {base : Heap} (fa : Facts K mg) : Kn P w K mg base 1 "_law_take" (top 53) ["box", "many"] (spI ⟨P, w, K⟩ S__law_take) :=
  kn_i fa.d__law_take sc__law_take bd__law_take len__law_take g__law_take (dv__law_take fa) law__law_take
def g__law_box : TDS := (dRet (dLst (dCons (dCallG gAbs (dCons (dVar 0) dNil)) (dCons (dCmp gGe (dCallG gAbs (dCons (dVar 0) dNil)) (dOp gPow (dC (.int 10)) (dC (.int 18)))) (dCons (dOp gMod (dCallG gInt (dCons (dCallG gAbs (dCons (dVar 0) dNil)) dNil)) (dC (.int 2147483629))) (dCons (dC (.int 0)) dNil))))))
theorem sc__law_box : FnScope ["great"] ["great"] (defScope (top 52)) := ⟨rfl, rfl, rfl, by decide +kernel, rfl, by decide +kernel, by decide +kernel⟩
theorem bd__law_box : BindsOk "_law_box" (top 52) ["great"] := fun _ _ _ _ _ _ us hl => match us, hl with | [_], _ => rfl
theorem dv__law_box {P : Program} {w : World} {K : PySem.W.Frag} {mg : Str → Option Value} {base : Heap} (fa : Facts K mg) (f : Addr) (cdv : Value) (A : Around) (outer : List Env) (s : Shared) (H : Hp) (E : XK) (hr : Room 0 (A.deeper (envOfC "_law_box" (defScope (top 52)) s.heap.objs.size f cdv))) :
    DSs (cxOf CX0 P w K mg base ["great"] "_law_box" (defScope (top 52)) f cdv A outer s H E).nox W0 [] (defBody (top 52)) g__law_box :=
  (dss_one (ds_ret (de_lst (da_cons (de_callB_ g_abs rfl fa.b_abs (by kernel_rfl) (da_cons (de_of (pe_var (i := 0) rfl (.inl rfl))) da_nil)) (da_cons (de_cmp g_ge (de_callB_ g_abs rfl fa.b_abs (by kernel_rfl) (da_cons (de_of (pe_var (i := 0) rfl (.inl rfl))) da_nil)) (de_bin g_pow de_int de_int) (nomark _)) (da_cons (de_bin g_mod (de_callT_ g_int rfl fa.b_int (by kernel_rfl) (da_cons (de_callB_ g_abs rfl fa.b_abs (by kernel_rfl) (da_cons (de_of (pe_var (i := 0) rfl (.inl rfl))) da_nil)) da_nil)) de_int) (da_cons de_int da_nil)))))))
def pre__law_box (ds : List DV) : Prop := ∃ g : Int, ds = [.pure (.int g)]
def post__law_box (_ : List DV) (r : RV) : Prop := ∃ o, r = .tmp o ∧ BoxOk 0 o
def S__law_box : SpP := spS pre__law_box post__law_box
theorem len__law_box (ds : List DV) (h : pre__law_box ds) : ds.length = ["great"].length := by
  obtain ⟨g, rfl⟩ := h
  rfl
theorem law__law_box (ds : List DV) (Q : RV → Prop) (h : pre__law_box ds) (k : ∀ r, post__law_box ds r → Q r) : bodyP 1 g__law_box ds Q := by
  obtain ⟨g, rfl⟩ := h
  unfold bodyP g__law_box
  try simp only [↓e_var, ↓e_dvp, ↓e_dvo, ↓e_dvr, ↓e_c, ↓e_op, ↓e_op2, ↓e_op2C, ↓e_rvp, ↓e_rvt, ↓e_rvs, ↓e_rvSp, ↓e_rvSo, ↓e_fp, ↓e_fs, ↓e_ft, ↓e_fr, ↓e_dl, ↓e_dd, ↓e_ixl, ↓e_ixt, ↓e_atK, ↓e_at0, ↓e_at1, ↓e_at2, ↓e_at3, ↓e_add, ↓e_sub, ↓e_mul, ↓e_ii, ↓e_ci, ↓e_cmpT, ↓e_cmp, ↓e_gB, ↓e_test, ↓e_tst, ↓e_and, ↓e_or, ↓e_not, ↓e_ifs, ↓e_if, ↓e_seq, ↓e_sn, ↓e_sr, ↓e_sb, ↓e_sc, ↓e_next, ↓e_asg, ↓e_gn, ↓e_pp, ↓e_pt, ↓e_pr, ↓e_ps, ↓e_kp, ↓e_kt, ↓e_ks, ↓e_kSp, ↓e_kSo, ↓e_ret, ↓e_drop, ↓e_cg, ↓e_cgK, ↓e_rds0, ↓e_rds, ↓e_oc, ↓e_nil, ↓e_cons, ↓e_int, ↓e_abs, ↓e_len, ↓e_lent, ↓e_callP, ↓e_as0, ↓e_as, ↓e_ap, ↓e_ar, ↓e_asl, ↓e_sps, ↓e_spt, ↓e_item, ↓e_itK, ↓e_itK2, ↓e_ixK, ↓e_n0, ↓e_n1, ↓e_n3, ↓e_np, ↓e_part, ↓e_pk, ↓e_sl, ↓e_sll, ↓e_slt, ↓e_sum, ↓e_sumK, ↓e_all, ↓e_allK, ↓e_tupl, ↓e_tupt, ↓e_lstl, ↓e_lstt, ↓e_max2, ↓e_min2, ↓e_srt, ↓e_tupD, ↓e_lstD, ↓e_ka0, ↓e_ka, ↓e_addt, ↓e_addl, ↓e_neg, ↓e_negK, ↓e_isi, ↓e_isiK, ↓e_isiT, ↓e_isiKT, ↓e_tvK, ↓e_andV, ↓e_orV, ↓e_notV, ↓e_isN, ↓e_isB, ↓e_isnN, ↓e_seqIl, ↓e_seqIt, ↓e_for, ↓e_callI, ↓e_rtp, ↓e_rtt, ↓e_rts, ↓e_rtKo, ↓e_rtKp, ↓e_par, ↓e_chain, ↓e_eqi, ↓e_nei, ↓e_seqI, ↓e_yes, ↓e_comp, ↓e_dcomp, ↓e_wp0, ↓e_wp, ↓List.map_cons, ↓List.map_nil, ↓List.length_cons, ↓List.length_nil, ↓List.cons_append, ↓List.nil_append, ↓List.getElem?_cons_zero, ↓List.getElem?_cons_succ, ↓List.set_cons_zero, ↓List.set_cons_succ, ↓List.replicate, ↓e_rg1, ↓e_rg1K, ↓e_rg2, ↓e_rg2K]
  refine ⟨⟨by decide, by decide, by decide⟩, by decide, (by show 4 ≤ sizeLine; rw [sizeLine_eq]; decide), ?_⟩
  refine k _ ⟨_, rfl, (if g < 0 then -g else g), _, (if g < 0 then -g else g) % 2147483629, 0, rfl, ?_, Int.emod_nonneg _ (by decide), Int.emod_lt_of_pos _ (by decide), by decide, by decide⟩
  split <;> omega
theorem ok__law_box {P : Program} {w : World} {K : PySem.W.Frag} {mg : Str → Option Value} {base : Heap} (fa : Facts K mg) : Kn P w K mg base 1 "_law_box" (top 52) ["great"] (spP ⟨P, w, K⟩ S__law_box) :=
  kn_p fa.d__law_box sc__law_box bd__law_box len__law_box g__law_box (dv__law_box fa) law__law_box
def g__law_same (S : SpP) : TDS := (dSeq (dIfS (dOr (dCmpT gIs (dVar 1) (dC .none)) (dTest (dIsi "bool" (dVar 1))))
  (dRet (dIf (dCmpT gIs (dVar 1) (dC .none)) (dCmp gIs (dVar 0) (dC .none)) (dAndV (dIsi "bool" (dVar 0)) (dCmp gEq (dCmp gIs (dVar 0) (dC (.bool true))) (dCmp gIs (dVar 1) (dC (.bool true)))))))
  dNext)
  (dSeq (dIfS (dTest (dIsi "int" (dVar 1)))
  (dRet (dAndV (dIsi "int" (dVar 0)) (dAndV (dNotV (dIsi "bool" (dVar 0))) (dCmp gEq (dVar 0) (dVar 1)))))
  dNext)
  (dSeq (dIfS (dTest (dIsi "str" (dVar 1)))
  (dRet (dAndV (dIsi "str" (dVar 0)) (dCmp gEq (dVar 0) (dVar 1))))
  dNext)
  (dSeq (dIfS (dOr (dNot (dTest (dIsiT ["list", "tuple"] (dVar 0)))) (dOr (dCmpT gNe (dIsi "list" (dVar 0)) (dIsi "list" (dVar 1))) (dCmpT gNe (dCallG gLen (dCons (dVar 0) dNil)) (dCallG gLen (dCons (dVar 1) dNil)))))
  (dRet (dC (.bool false)))
  dNext)
  (dRet (dCmp gEq (dComp (dRange1 (dCons (dCallG gLen (dCons (dVar 1) dNil)) dNil)) (dgName (others 3 [2]) 2) (dNot (dTest (dCallP S (dCons (dOp gIx (dVar 0) (dVar 2)) (dCons (dOp gIx (dVar 1) (dVar 2)) dNil))))) (dVar 2) [2]) (dLst dNil)))))))
theorem sc__law_same : FnScope ["told", "due", "k"] ["told", "due"] (defScope (top 54)) := ⟨rfl, rfl, rfl, by decide +kernel, rfl, by decide +kernel, by decide +kernel⟩
theorem bd__law_same : BindsOk "_law_same" (top 54) ["told", "due"] := fun _ _ _ _ _ _ us hl => match us, hl with | [_, _], _ => rfl
theorem dv__law_same {P : Program} {w : World} {K : PySem.W.Frag} {mg : Str → Option Value} {base : Heap} (fa : Facts K mg) {j : Nat} {S : SpP} (ms : MonoP S) (rc : Kn P w K mg base j "_law_same" (top 54) ["told", "due"] (spP ⟨P, w, K⟩ S)) (hj : 1 ≤ j) (f : Addr) (cdv : Value) (A : Around) (outer : List Env) (s : Shared) (H : Hp) (E : XK) (hr : Room j (A.deeper (envOfC "_law_same" (defScope (top 54)) s.heap.objs.size f cdv))) :
    DSs (cxOf CX0 P w K mg base ["told", "due", "k"] "_law_same" (defScope (top 54)) f cdv A outer s H E).nox W0 [] (defBody (top 54)) (g__law_same S) :=
  (dss_cons (ds_if (DW.dt (dw_or (dt_cmp g_is (de_of (pe_var (i := 1) rfl (.inr (.inl rfl)))) de_non (nomark _)) (dw_or1 (dt_val (de_isi (T := "bool") rfl fa.b_isinstance (by decide) (de_of (pe_var (i := 1) rfl (.inr (.inl rfl)))) (pe_ty rfl fa.b_bool (by kernel_rfl)))))))
  (dss_one (ds_ret (de_if (dt_cmp g_is (de_of (pe_var (i := 1) rfl (.inr (.inl rfl)))) de_non (nomark _)) (de_cmp g_is (de_of (pe_var (i := 0) rfl (.inr (.inl rfl)))) de_non (nomark _)) (de_and (de_isi (T := "bool") rfl fa.b_isinstance (by decide) (de_of (pe_var (i := 0) rfl (.inr (.inl rfl)))) (pe_ty rfl fa.b_bool (by kernel_rfl))) (de_one (de_cmp (g_eq hr.units) (de_cmp g_is (de_of (pe_var (i := 0) rfl (.inr (.inl rfl)))) de_bl (nomark _)) (de_cmp g_is (de_of (pe_var (i := 1) rfl (.inr (.inl rfl)))) de_bl (nomark _)) (nomark _)))))))
  dss_nil)
  (dss_cons (ds_if (dt_val (de_isi (T := "int") rfl fa.b_isinstance (by decide) (de_of (pe_var (i := 1) rfl (.inr (.inl rfl)))) (pe_ty rfl fa.b_int (by kernel_rfl))))
  (dss_one (ds_ret (de_and (de_isi (T := "int") rfl fa.b_isinstance (by decide) (de_of (pe_var (i := 0) rfl (.inr (.inl rfl)))) (pe_ty rfl fa.b_int (by kernel_rfl))) (de_and (de_not (de_isi (T := "bool") rfl fa.b_isinstance (by decide) (de_of (pe_var (i := 0) rfl (.inr (.inl rfl)))) (pe_ty rfl fa.b_bool (by kernel_rfl)))) (de_one (de_cmp (g_eq hr.units) (de_of (pe_var (i := 0) rfl (.inr (.inl rfl)))) (de_of (pe_var (i := 1) rfl (.inr (.inl rfl)))) (nomark _)))))))
  dss_nil)
  (dss_cons (ds_if (dt_val (de_isi (T := "str") rfl fa.b_isinstance (by decide) (de_of (pe_var (i := 1) rfl (.inr (.inl rfl)))) (pe_ty rfl fa.b_str (by kernel_rfl))))
  (dss_one (ds_ret (de_and (de_isi (T := "str") rfl fa.b_isinstance (by decide) (de_of (pe_var (i := 0) rfl (.inr (.inl rfl)))) (pe_ty rfl fa.b_str (by kernel_rfl))) (de_one (de_cmp (g_eq hr.units) (de_of (pe_var (i := 0) rfl (.inr (.inl rfl)))) (de_of (pe_var (i := 1) rfl (.inr (.inl rfl)))) (nomark _))))))
  dss_nil)
  (dss_cons (ds_if (DW.dt (dw_or (dt_not (dt_val (de_isiT (Ts := ["list", "tuple"]) rfl fa.b_isinstance (by decide) (by decide) (de_of (pe_var (i := 0) rfl (.inr (.inl rfl)))) (pa_tys1 (pe_ty rfl fa.b_list (by kernel_rfl)) (pa_tys1 (pe_ty rfl fa.b_tuple (by kernel_rfl)) pa_tys0))))) (dw_or (dt_cmp (g_ne hr.units) (de_isi (T := "list") rfl fa.b_isinstance (by decide) (de_of (pe_var (i := 0) rfl (.inr (.inl rfl)))) (pe_ty rfl fa.b_list (by kernel_rfl))) (de_isi (T := "list") rfl fa.b_isinstance (by decide) (de_of (pe_var (i := 1) rfl (.inr (.inl rfl)))) (pe_ty rfl fa.b_list (by kernel_rfl))) (nomark _)) (dw_or1 (dt_cmp (g_ne hr.units) (de_callB_ g_len rfl fa.b_len (by kernel_rfl) (da_cons (de_of (pe_var (i := 0) rfl (.inr (.inl rfl)))) da_nil)) (de_callB_ g_len rfl fa.b_len (by kernel_rfl) (da_cons (de_of (pe_var (i := 1) rfl (.inr (.inl rfl)))) da_nil)) (nomark _))))))
  (dss_one (ds_ret de_bl))
  dss_nil)
  (dss_one (ds_ret (de_cmp (g_eq hr.units) (de_cp (own := [("k", 2)]) rfl sc__law_same.nd (di_range1 rfl fa.b_range (da_cons (de_callB_ g_len rfl fa.b_len (by kernel_rfl) (da_cons (de_of (pe_var (i := 1) rfl (.inr (.inl rfl)))) da_nil)) da_nil)) (blkOk_by (own := [("k", 2)]) (N := ["told", "due", "k"]) (sc := defScope (top 54)) (by decide +kernel)) ⟨fun _ _ _ _ _ => (dg_of (pg_name (i := 2) sc__law_same.nd rfl (Or.inl rfl))), fun _ _ _ _ _ => (dts_one (dt_not (dt_val (de_kn rc ms hr rfl (da_cons (de_ix (de_of (pe_var (i := 0) rfl (.inr (.inl rfl)))) (de_of (pe_var (i := 2) rfl (.inl rfl))) (by intro _ _; rfl)) (da_cons (de_ix (de_of (pe_var (i := 1) rfl (.inr (.inl rfl)))) (de_of (pe_var (i := 2) rfl (.inl rfl))) (by intro _ _; rfl)) da_nil)))))), fun _ _ _ _ _ => (de_of (pe_var (i := 2) rfl (.inl rfl)))⟩) (de_lst da_nil) (nomark _))))))))
/-- data without dicts, at most n deep -/
def good : Nat → D → Prop
  | 0, _ => False
  | n + 1, d => match d with
    | .none => True
    | .bool _ => True
    | .int _ => True
    | .str s => PyData.strOk s = true
    | .list ds => ds.length ≤ 10000 ∧ ∀ x ∈ ds, good n x
    | .tuple ds => ds.length ≤ 10000 ∧ ∀ x ∈ ds, good n x
    | _ => False
def pre__law_same (n : Nat) (ds : List DV) : Prop := ∃ d : D, ds = [.pure d, .pure d] ∧ good n d
def post__law_same (_ : List DV) (r : RV) : Prop := r = .pure (.bool true)
def S__law_same_ (n : Nat) : SpP := spS (pre__law_same n) post__law_same
theorem len__law_same (n : Nat) (ds : List DV) (h : pre__law_same n ds) : ds.length = ["told", "due"].length := by
  obtain ⟨d, rfl, _⟩ := h
  rfl
theorem shaped_str (s : PySem.Str) (h : PyData.strOk s = true) : SeqAt.shaped (.str s) = true := by simp [SeqAt.shaped, PyData.canLay0, PyData.depth, h]
theorem eqv_str (s : PySem.Str) : PyData.eqv (.str s) (.str s) = true := by simp [PyData.eqv]
theorem ix_of {xs : List D} {i : Nat} {x : D} (h : xs[i]? = some x) : atI xs (i : Int) = some x := by
  unfold atI ixN
  have hl : i < xs.length := (List.getElem?_eq_some_iff.mp h).1
  rw [if_pos (by omega), if_pos (by omega)]
  exact h
theorem law__law_same (n : Nat) (ds : List DV) (Q : RV → Prop) (h : pre__law_same (n + 1) ds) (k : ∀ r, post__law_same ds r → Q r) : bodyP 3 (g__law_same (S__law_same_ n)) ds Q := by
  obtain ⟨d, rfl, hg⟩ := h
  unfold bodyP g__law_same S__law_same_
  have K : Q (.pure (.bool true)) := k _ rfl
  have turn : ∀ xs : List D, (xs.length ≤ 10000 ∧ ∀ x ∈ xs, good n x) → ∀ x : Int, x ∈ (List.range xs.length).map (fun i : Nat => (i : Int)) → ∃ y, atI xs x = some y ∧ good n y := fun xs hx x hm => by
    obtain ⟨i, hi, rfl⟩ := List.mem_map.mp hm
    have hi : i < xs.length := List.mem_range.mp hi
    exact ⟨_, ix_of (List.getElem?_eq_getElem hi), hx.2 _ (List.getElem_mem hi)⟩
  have seq : ∀ xs : List D, (xs.length ≤ 10000 ∧ ∀ x ∈ xs, good n x) → ∀ d : D, d = .list xs ∨ d = .tuple xs → compD (dgName (others 3 [2]) 2) (dNot (dTest (dCallP (DL.spS (pre__law_same n) post__law_same) (dCons (dOp gIx (dVar 0) (dVar 2)) (dCons (dOp gIx (dVar 1) (dVar 2)) dNil))))) (dVar 2) [2] (rangeD 0 (xs.length : Int)) [] [some (DV.pure d), some (DV.pure d), none] fun acc ρ2 =>
        gEq (PyData.list acc) (PyData.list []) fun k => Q (RV.pure (PyData.bool k)) := fun xs hx d hd => by
    rw [rangeD_nat]
    refine comp_filt id (fun _ => false) _ (fun x hm K1 K0 _ h0 => ?_) ?_ ?_
    · obtain ⟨i, hi, rfl⟩ := List.mem_map.mp hm
      obtain ⟨y, e, g⟩ := turn xs hx (i : Int) (List.mem_map.mpr ⟨i, hi, rfl⟩)
      have h0 := h0 rfl
      rcases hd with rfl | rfl
      · try simp only [↓e_var, ↓e_dvp, ↓e_dvo, ↓e_dvr, ↓e_c, ↓e_op, ↓e_op2, ↓e_op2C, ↓e_rvp, ↓e_rvt, ↓e_rvs, ↓e_rvSp, ↓e_rvSo, ↓e_fp, ↓e_fs, ↓e_ft, ↓e_fr, ↓e_dl, ↓e_dd, ↓e_ixl, ↓e_ixt, ↓e_atK, ↓e_at0, ↓e_at1, ↓e_at2, ↓e_at3, ↓e_add, ↓e_sub, ↓e_mul, ↓e_ii, ↓e_ci, ↓e_cmpT, ↓e_cmp, ↓e_gB, ↓e_test, ↓e_tst, ↓e_and, ↓e_or, ↓e_not, ↓e_ifs, ↓e_if, ↓e_seq, ↓e_sn, ↓e_sr, ↓e_sb, ↓e_sc, ↓e_next, ↓e_asg, ↓e_gn, ↓e_pp, ↓e_pt, ↓e_pr, ↓e_ps, ↓e_kp, ↓e_kt, ↓e_ks, ↓e_kSp, ↓e_kSo, ↓e_ret, ↓e_drop, ↓e_cg, ↓e_cgK, ↓e_rds0, ↓e_rds, ↓e_oc, ↓e_nil, ↓e_cons, ↓e_int, ↓e_abs, ↓e_len, ↓e_lent, ↓e_callP, ↓e_as0, ↓e_as, ↓e_ap, ↓e_ar, ↓e_asl, ↓e_sps, ↓e_spt, ↓e_item, ↓e_itK, ↓e_itK2, ↓e_ixK, ↓e_n0, ↓e_n1, ↓e_n3, ↓e_np, ↓e_part, ↓e_pk, ↓e_sl, ↓e_sll, ↓e_slt, ↓e_sum, ↓e_sumK, ↓e_all, ↓e_allK, ↓e_tupl, ↓e_tupt, ↓e_lstl, ↓e_lstt, ↓e_max2, ↓e_min2, ↓e_srt, ↓e_tupD, ↓e_lstD, ↓e_ka0, ↓e_ka, ↓e_addt, ↓e_addl, ↓e_neg, ↓e_negK, ↓e_isi, ↓e_isiK, ↓e_isiT, ↓e_isiKT, ↓e_tvK, ↓e_andV, ↓e_orV, ↓e_notV, ↓e_isN, ↓e_isB, ↓e_isnN, ↓e_seqIl, ↓e_seqIt, ↓e_for, ↓e_callI, ↓e_rtp, ↓e_rtt, ↓e_rts, ↓e_rtKo, ↓e_rtKp, ↓e_par, ↓e_chain, ↓e_eqi, ↓e_nei, ↓e_seqI, ↓e_yes, ↓e_comp, ↓e_dcomp, ↓e_wp0, ↓e_wp, ↓List.map_cons, ↓List.map_nil, ↓List.length_cons, ↓List.length_nil, ↓List.cons_append, ↓List.nil_append, ↓List.getElem?_cons_zero, ↓List.getElem?_cons_succ, ↓List.set_cons_zero, ↓List.set_cons_succ, ↓List.replicate, ↓e_rg1, ↓e_rg1K, ↓e_rg2, ↓e_rg2K]
        simp only [e]
        try simp only [↓e_var, ↓e_dvp, ↓e_dvo, ↓e_dvr, ↓e_c, ↓e_op, ↓e_op2, ↓e_op2C, ↓e_rvp, ↓e_rvt, ↓e_rvs, ↓e_rvSp, ↓e_rvSo, ↓e_fp, ↓e_fs, ↓e_ft, ↓e_fr, ↓e_dl, ↓e_dd, ↓e_ixl, ↓e_ixt, ↓e_atK, ↓e_at0, ↓e_at1, ↓e_at2, ↓e_at3, ↓e_add, ↓e_sub, ↓e_mul, ↓e_ii, ↓e_ci, ↓e_cmpT, ↓e_cmp, ↓e_gB, ↓e_test, ↓e_tst, ↓e_and, ↓e_or, ↓e_not, ↓e_ifs, ↓e_if, ↓e_seq, ↓e_sn, ↓e_sr, ↓e_sb, ↓e_sc, ↓e_next, ↓e_asg, ↓e_gn, ↓e_pp, ↓e_pt, ↓e_pr, ↓e_ps, ↓e_kp, ↓e_kt, ↓e_ks, ↓e_kSp, ↓e_kSo, ↓e_ret, ↓e_drop, ↓e_cg, ↓e_cgK, ↓e_rds0, ↓e_rds, ↓e_oc, ↓e_nil, ↓e_cons, ↓e_int, ↓e_abs, ↓e_len, ↓e_lent, ↓e_callP, ↓e_as0, ↓e_as, ↓e_ap, ↓e_ar, ↓e_asl, ↓e_sps, ↓e_spt, ↓e_item, ↓e_itK, ↓e_itK2, ↓e_ixK, ↓e_n0, ↓e_n1, ↓e_n3, ↓e_np, ↓e_part, ↓e_pk, ↓e_sl, ↓e_sll, ↓e_slt, ↓e_sum, ↓e_sumK, ↓e_all, ↓e_allK, ↓e_tupl, ↓e_tupt, ↓e_lstl, ↓e_lstt, ↓e_max2, ↓e_min2, ↓e_srt, ↓e_tupD, ↓e_lstD, ↓e_ka0, ↓e_ka, ↓e_addt, ↓e_addl, ↓e_neg, ↓e_negK, ↓e_isi, ↓e_isiK, ↓e_isiT, ↓e_isiKT, ↓e_tvK, ↓e_andV, ↓e_orV, ↓e_notV, ↓e_isN, ↓e_isB, ↓e_isnN, ↓e_seqIl, ↓e_seqIt, ↓e_for, ↓e_callI, ↓e_rtp, ↓e_rtt, ↓e_rts, ↓e_rtKo, ↓e_rtKp, ↓e_par, ↓e_chain, ↓e_eqi, ↓e_nei, ↓e_seqI, ↓e_yes, ↓e_comp, ↓e_dcomp, ↓e_wp0, ↓e_wp, ↓List.map_cons, ↓List.map_nil, ↓List.length_cons, ↓List.length_nil, ↓List.cons_append, ↓List.nil_append, ↓List.getElem?_cons_zero, ↓List.getElem?_cons_succ, ↓List.set_cons_zero, ↓List.set_cons_succ, ↓List.replicate, ↓e_rg1, ↓e_rg1K, ↓e_rg2, ↓e_rg2K]
        refine ⟨by simp [others], ⟨y, rfl, g⟩, fun r hr => ?_⟩
        have e : r = _ := hr
        subst e
        refine ⟨trivial, ?_⟩
        try simp only [↓e_var, ↓e_dvp, ↓e_dvo, ↓e_dvr, ↓e_c, ↓e_op, ↓e_op2, ↓e_op2C, ↓e_rvp, ↓e_rvt, ↓e_rvs, ↓e_rvSp, ↓e_rvSo, ↓e_fp, ↓e_fs, ↓e_ft, ↓e_fr, ↓e_dl, ↓e_dd, ↓e_ixl, ↓e_ixt, ↓e_atK, ↓e_at0, ↓e_at1, ↓e_at2, ↓e_at3, ↓e_add, ↓e_sub, ↓e_mul, ↓e_ii, ↓e_ci, ↓e_cmpT, ↓e_cmp, ↓e_gB, ↓e_test, ↓e_tst, ↓e_and, ↓e_or, ↓e_not, ↓e_ifs, ↓e_if, ↓e_seq, ↓e_sn, ↓e_sr, ↓e_sb, ↓e_sc, ↓e_next, ↓e_asg, ↓e_gn, ↓e_pp, ↓e_pt, ↓e_pr, ↓e_ps, ↓e_kp, ↓e_kt, ↓e_ks, ↓e_kSp, ↓e_kSo, ↓e_ret, ↓e_drop, ↓e_cg, ↓e_cgK, ↓e_rds0, ↓e_rds, ↓e_oc, ↓e_nil, ↓e_cons, ↓e_int, ↓e_abs, ↓e_len, ↓e_lent, ↓e_callP, ↓e_as0, ↓e_as, ↓e_ap, ↓e_ar, ↓e_asl, ↓e_sps, ↓e_spt, ↓e_item, ↓e_itK, ↓e_itK2, ↓e_ixK, ↓e_n0, ↓e_n1, ↓e_n3, ↓e_np, ↓e_part, ↓e_pk, ↓e_sl, ↓e_sll, ↓e_slt, ↓e_sum, ↓e_sumK, ↓e_all, ↓e_allK, ↓e_tupl, ↓e_tupt, ↓e_lstl, ↓e_lstt, ↓e_max2, ↓e_min2, ↓e_srt, ↓e_tupD, ↓e_lstD, ↓e_ka0, ↓e_ka, ↓e_addt, ↓e_addl, ↓e_neg, ↓e_negK, ↓e_isi, ↓e_isiK, ↓e_isiT, ↓e_isiKT, ↓e_tvK, ↓e_andV, ↓e_orV, ↓e_notV, ↓e_isN, ↓e_isB, ↓e_isnN, ↓e_seqIl, ↓e_seqIt, ↓e_for, ↓e_callI, ↓e_rtp, ↓e_rtt, ↓e_rts, ↓e_rtKo, ↓e_rtKp, ↓e_par, ↓e_chain, ↓e_eqi, ↓e_nei, ↓e_seqI, ↓e_yes, ↓e_comp, ↓e_dcomp, ↓e_wp0, ↓e_wp, ↓List.map_cons, ↓List.map_nil, ↓List.length_cons, ↓List.length_nil, ↓List.cons_append, ↓List.nil_append, ↓List.getElem?_cons_zero, ↓List.getElem?_cons_succ, ↓List.set_cons_zero, ↓List.set_cons_succ, ↓List.replicate, ↓e_rg1, ↓e_rg1K, ↓e_rg2, ↓e_rg2K]
        simpa using h0
      · try simp only [↓e_var, ↓e_dvp, ↓e_dvo, ↓e_dvr, ↓e_c, ↓e_op, ↓e_op2, ↓e_op2C, ↓e_rvp, ↓e_rvt, ↓e_rvs, ↓e_rvSp, ↓e_rvSo, ↓e_fp, ↓e_fs, ↓e_ft, ↓e_fr, ↓e_dl, ↓e_dd, ↓e_ixl, ↓e_ixt, ↓e_atK, ↓e_at0, ↓e_at1, ↓e_at2, ↓e_at3, ↓e_add, ↓e_sub, ↓e_mul, ↓e_ii, ↓e_ci, ↓e_cmpT, ↓e_cmp, ↓e_gB, ↓e_test, ↓e_tst, ↓e_and, ↓e_or, ↓e_not, ↓e_ifs, ↓e_if, ↓e_seq, ↓e_sn, ↓e_sr, ↓e_sb, ↓e_sc, ↓e_next, ↓e_asg, ↓e_gn, ↓e_pp, ↓e_pt, ↓e_pr, ↓e_ps, ↓e_kp, ↓e_kt, ↓e_ks, ↓e_kSp, ↓e_kSo, ↓e_ret, ↓e_drop, ↓e_cg, ↓e_cgK, ↓e_rds0, ↓e_rds, ↓e_oc, ↓e_nil, ↓e_cons, ↓e_int, ↓e_abs, ↓e_len, ↓e_lent, ↓e_callP, ↓e_as0, ↓e_as, ↓e_ap, ↓e_ar, ↓e_asl, ↓e_sps, ↓e_spt, ↓e_item, ↓e_itK, ↓e_itK2, ↓e_ixK, ↓e_n0, ↓e_n1, ↓e_n3, ↓e_np, ↓e_part, ↓e_pk, ↓e_sl, ↓e_sll, ↓e_slt, ↓e_sum, ↓e_sumK, ↓e_all, ↓e_allK, ↓e_tupl, ↓e_tupt, ↓e_lstl, ↓e_lstt, ↓e_max2, ↓e_min2, ↓e_srt, ↓e_tupD, ↓e_lstD, ↓e_ka0, ↓e_ka, ↓e_addt, ↓e_addl, ↓e_neg, ↓e_negK, ↓e_isi, ↓e_isiK, ↓e_isiT, ↓e_isiKT, ↓e_tvK, ↓e_andV, ↓e_orV, ↓e_notV, ↓e_isN, ↓e_isB, ↓e_isnN, ↓e_seqIl, ↓e_seqIt, ↓e_for, ↓e_callI, ↓e_rtp, ↓e_rtt, ↓e_rts, ↓e_rtKo, ↓e_rtKp, ↓e_par, ↓e_chain, ↓e_eqi, ↓e_nei, ↓e_seqI, ↓e_yes, ↓e_comp, ↓e_dcomp, ↓e_wp0, ↓e_wp, ↓List.map_cons, ↓List.map_nil, ↓List.length_cons, ↓List.length_nil, ↓List.cons_append, ↓List.nil_append, ↓List.getElem?_cons_zero, ↓List.getElem?_cons_succ, ↓List.set_cons_zero, ↓List.set_cons_succ, ↓List.replicate, ↓e_rg1, ↓e_rg1K, ↓e_rg2, ↓e_rg2K]
        simp only [e]
        try simp only [↓e_var, ↓e_dvp, ↓e_dvo, ↓e_dvr, ↓e_c, ↓e_op, ↓e_op2, ↓e_op2C, ↓e_rvp, ↓e_rvt, ↓e_rvs, ↓e_rvSp, ↓e_rvSo, ↓e_fp, ↓e_fs, ↓e_ft, ↓e_fr, ↓e_dl, ↓e_dd, ↓e_ixl, ↓e_ixt, ↓e_atK, ↓e_at0, ↓e_at1, ↓e_at2, ↓e_at3, ↓e_add, ↓e_sub, ↓e_mul, ↓e_ii, ↓e_ci, ↓e_cmpT, ↓e_cmp, ↓e_gB, ↓e_test, ↓e_tst, ↓e_and, ↓e_or, ↓e_not, ↓e_ifs, ↓e_if, ↓e_seq, ↓e_sn, ↓e_sr, ↓e_sb, ↓e_sc, ↓e_next, ↓e_asg, ↓e_gn, ↓e_pp, ↓e_pt, ↓e_pr, ↓e_ps, ↓e_kp, ↓e_kt, ↓e_ks, ↓e_kSp, ↓e_kSo, ↓e_ret, ↓e_drop, ↓e_cg, ↓e_cgK, ↓e_rds0, ↓e_rds, ↓e_oc, ↓e_nil, ↓e_cons, ↓e_int, ↓e_abs, ↓e_len, ↓e_lent, ↓e_callP, ↓e_as0, ↓e_as, ↓e_ap, ↓e_ar, ↓e_asl, ↓e_sps, ↓e_spt, ↓e_item, ↓e_itK, ↓e_itK2, ↓e_ixK, ↓e_n0, ↓e_n1, ↓e_n3, ↓e_np, ↓e_part, ↓e_pk, ↓e_sl, ↓e_sll, ↓e_slt, ↓e_sum, ↓e_sumK, ↓e_all, ↓e_allK, ↓e_tupl, ↓e_tupt, ↓e_lstl, ↓e_lstt, ↓e_max2, ↓e_min2, ↓e_srt, ↓e_tupD, ↓e_lstD, ↓e_ka0, ↓e_ka, ↓e_addt, ↓e_addl, ↓e_neg, ↓e_negK, ↓e_isi, ↓e_isiK, ↓e_isiT, ↓e_isiKT, ↓e_tvK, ↓e_andV, ↓e_orV, ↓e_notV, ↓e_isN, ↓e_isB, ↓e_isnN, ↓e_seqIl, ↓e_seqIt, ↓e_for, ↓e_callI, ↓e_rtp, ↓e_rtt, ↓e_rts, ↓e_rtKo, ↓e_rtKp, ↓e_par, ↓e_chain, ↓e_eqi, ↓e_nei, ↓e_seqI, ↓e_yes, ↓e_comp, ↓e_dcomp, ↓e_wp0, ↓e_wp, ↓List.map_cons, ↓List.map_nil, ↓List.length_cons, ↓List.length_nil, ↓List.cons_append, ↓List.nil_append, ↓List.getElem?_cons_zero, ↓List.getElem?_cons_succ, ↓List.set_cons_zero, ↓List.set_cons_succ, ↓List.replicate, ↓e_rg1, ↓e_rg1K, ↓e_rg2, ↓e_rg2K]
        refine ⟨by simp [others], ⟨y, rfl, g⟩, fun r hr => ?_⟩
        have e : r = _ := hr
        subst e
        refine ⟨trivial, ?_⟩
        try simp only [↓e_var, ↓e_dvp, ↓e_dvo, ↓e_dvr, ↓e_c, ↓e_op, ↓e_op2, ↓e_op2C, ↓e_rvp, ↓e_rvt, ↓e_rvs, ↓e_rvSp, ↓e_rvSo, ↓e_fp, ↓e_fs, ↓e_ft, ↓e_fr, ↓e_dl, ↓e_dd, ↓e_ixl, ↓e_ixt, ↓e_atK, ↓e_at0, ↓e_at1, ↓e_at2, ↓e_at3, ↓e_add, ↓e_sub, ↓e_mul, ↓e_ii, ↓e_ci, ↓e_cmpT, ↓e_cmp, ↓e_gB, ↓e_test, ↓e_tst, ↓e_and, ↓e_or, ↓e_not, ↓e_ifs, ↓e_if, ↓e_seq, ↓e_sn, ↓e_sr, ↓e_sb, ↓e_sc, ↓e_next, ↓e_asg, ↓e_gn, ↓e_pp, ↓e_pt, ↓e_pr, ↓e_ps, ↓e_kp, ↓e_kt, ↓e_ks, ↓e_kSp, ↓e_kSo, ↓e_ret, ↓e_drop, ↓e_cg, ↓e_cgK, ↓e_rds0, ↓e_rds, ↓e_oc, ↓e_nil, ↓e_cons, ↓e_int, ↓e_abs, ↓e_len, ↓e_lent, ↓e_callP, ↓e_as0, ↓e_as, ↓e_ap, ↓e_ar, ↓e_asl, ↓e_sps, ↓e_spt, ↓e_item, ↓e_itK, ↓e_itK2, ↓e_ixK, ↓e_n0, ↓e_n1, ↓e_n3, ↓e_np, ↓e_part, ↓e_pk, ↓e_sl, ↓e_sll, ↓e_slt, ↓e_sum, ↓e_sumK, ↓e_all, ↓e_allK, ↓e_tupl, ↓e_tupt, ↓e_lstl, ↓e_lstt, ↓e_max2, ↓e_min2, ↓e_srt, ↓e_tupD, ↓e_lstD, ↓e_ka0, ↓e_ka, ↓e_addt, ↓e_addl, ↓e_neg, ↓e_negK, ↓e_isi, ↓e_isiK, ↓e_isiT, ↓e_isiKT, ↓e_tvK, ↓e_andV, ↓e_orV, ↓e_notV, ↓e_isN, ↓e_isB, ↓e_isnN, ↓e_seqIl, ↓e_seqIt, ↓e_for, ↓e_callI, ↓e_rtp, ↓e_rtt, ↓e_rts, ↓e_rtKo, ↓e_rtKp, ↓e_par, ↓e_chain, ↓e_eqi, ↓e_nei, ↓e_seqI, ↓e_yes, ↓e_comp, ↓e_dcomp, ↓e_wp0, ↓e_wp, ↓List.map_cons, ↓List.map_nil, ↓List.length_cons, ↓List.length_nil, ↓List.cons_append, ↓List.nil_append, ↓List.getElem?_cons_zero, ↓List.getElem?_cons_succ, ↓List.set_cons_zero, ↓List.set_cons_succ, ↓List.replicate, ↓e_rg1, ↓e_rg1K, ↓e_rg2, ↓e_rg2K]
        simpa using h0
    · rw [sizeLine_eq, List.length_map, List.length_range]
      have := hx.1
      simp
      omega
    · rw [show ∀ l : List D, l.filter (fun _ => false) = [] from fun l => by induction l with | nil => rfl | cons a l ih => simpa using ih]
      exact ⟨by decide +kernel, by decide +kernel, K⟩
  cases d with
  | none =>
    try simp only [↓e_var, ↓e_dvp, ↓e_dvo, ↓e_dvr, ↓e_c, ↓e_op, ↓e_op2, ↓e_op2C, ↓e_rvp, ↓e_rvt, ↓e_rvs, ↓e_rvSp, ↓e_rvSo, ↓e_fp, ↓e_fs, ↓e_ft, ↓e_fr, ↓e_dl, ↓e_dd, ↓e_ixl, ↓e_ixt, ↓e_atK, ↓e_at0, ↓e_at1, ↓e_at2, ↓e_at3, ↓e_add, ↓e_sub, ↓e_mul, ↓e_ii, ↓e_ci, ↓e_cmpT, ↓e_cmp, ↓e_gB, ↓e_test, ↓e_tst, ↓e_and, ↓e_or, ↓e_not, ↓e_ifs, ↓e_if, ↓e_seq, ↓e_sn, ↓e_sr, ↓e_sb, ↓e_sc, ↓e_next, ↓e_asg, ↓e_gn, ↓e_pp, ↓e_pt, ↓e_pr, ↓e_ps, ↓e_kp, ↓e_kt, ↓e_ks, ↓e_kSp, ↓e_kSo, ↓e_ret, ↓e_drop, ↓e_cg, ↓e_cgK, ↓e_rds0, ↓e_rds, ↓e_oc, ↓e_nil, ↓e_cons, ↓e_int, ↓e_abs, ↓e_len, ↓e_lent, ↓e_callP, ↓e_as0, ↓e_as, ↓e_ap, ↓e_ar, ↓e_asl, ↓e_sps, ↓e_spt, ↓e_item, ↓e_itK, ↓e_itK2, ↓e_ixK, ↓e_n0, ↓e_n1, ↓e_n3, ↓e_np, ↓e_part, ↓e_pk, ↓e_sl, ↓e_sll, ↓e_slt, ↓e_sum, ↓e_sumK, ↓e_all, ↓e_allK, ↓e_tupl, ↓e_tupt, ↓e_lstl, ↓e_lstt, ↓e_max2, ↓e_min2, ↓e_srt, ↓e_tupD, ↓e_lstD, ↓e_ka0, ↓e_ka, ↓e_addt, ↓e_addl, ↓e_neg, ↓e_negK, ↓e_isi, ↓e_isiK, ↓e_isiT, ↓e_isiKT, ↓e_tvK, ↓e_andV, ↓e_orV, ↓e_notV, ↓e_isN, ↓e_isB, ↓e_isnN, ↓e_seqIl, ↓e_seqIt, ↓e_for, ↓e_callI, ↓e_rtp, ↓e_rtt, ↓e_rts, ↓e_rtKo, ↓e_rtKp, ↓e_par, ↓e_chain, ↓e_eqi, ↓e_nei, ↓e_seqI, ↓e_yes, ↓e_comp, ↓e_dcomp, ↓e_wp0, ↓e_wp, ↓List.map_cons, ↓List.map_nil, ↓List.length_cons, ↓List.length_nil, ↓List.cons_append, ↓List.nil_append, ↓List.getElem?_cons_zero, ↓List.getElem?_cons_succ, ↓List.set_cons_zero, ↓List.set_cons_succ, ↓List.replicate, ↓e_rg1, ↓e_rg1K, ↓e_rg2, ↓e_rg2K]
    exact K
  | bool b =>
    try simp only [↓e_var, ↓e_dvp, ↓e_dvo, ↓e_dvr, ↓e_c, ↓e_op, ↓e_op2, ↓e_op2C, ↓e_rvp, ↓e_rvt, ↓e_rvs, ↓e_rvSp, ↓e_rvSo, ↓e_fp, ↓e_fs, ↓e_ft, ↓e_fr, ↓e_dl, ↓e_dd, ↓e_ixl, ↓e_ixt, ↓e_atK, ↓e_at0, ↓e_at1, ↓e_at2, ↓e_at3, ↓e_add, ↓e_sub, ↓e_mul, ↓e_ii, ↓e_ci, ↓e_cmpT, ↓e_cmp, ↓e_gB, ↓e_test, ↓e_tst, ↓e_and, ↓e_or, ↓e_not, ↓e_ifs, ↓e_if, ↓e_seq, ↓e_sn, ↓e_sr, ↓e_sb, ↓e_sc, ↓e_next, ↓e_asg, ↓e_gn, ↓e_pp, ↓e_pt, ↓e_pr, ↓e_ps, ↓e_kp, ↓e_kt, ↓e_ks, ↓e_kSp, ↓e_kSo, ↓e_ret, ↓e_drop, ↓e_cg, ↓e_cgK, ↓e_rds0, ↓e_rds, ↓e_oc, ↓e_nil, ↓e_cons, ↓e_int, ↓e_abs, ↓e_len, ↓e_lent, ↓e_callP, ↓e_as0, ↓e_as, ↓e_ap, ↓e_ar, ↓e_asl, ↓e_sps, ↓e_spt, ↓e_item, ↓e_itK, ↓e_itK2, ↓e_ixK, ↓e_n0, ↓e_n1, ↓e_n3, ↓e_np, ↓e_part, ↓e_pk, ↓e_sl, ↓e_sll, ↓e_slt, ↓e_sum, ↓e_sumK, ↓e_all, ↓e_allK, ↓e_tupl, ↓e_tupt, ↓e_lstl, ↓e_lstt, ↓e_max2, ↓e_min2, ↓e_srt, ↓e_tupD, ↓e_lstD, ↓e_ka0, ↓e_ka, ↓e_addt, ↓e_addl, ↓e_neg, ↓e_negK, ↓e_isi, ↓e_isiK, ↓e_isiT, ↓e_isiKT, ↓e_tvK, ↓e_andV, ↓e_orV, ↓e_notV, ↓e_isN, ↓e_isB, ↓e_isnN, ↓e_seqIl, ↓e_seqIt, ↓e_for, ↓e_callI, ↓e_rtp, ↓e_rtt, ↓e_rts, ↓e_rtKo, ↓e_rtKp, ↓e_par, ↓e_chain, ↓e_eqi, ↓e_nei, ↓e_seqI, ↓e_yes, ↓e_comp, ↓e_dcomp, ↓e_wp0, ↓e_wp, ↓List.map_cons, ↓List.map_nil, ↓List.length_cons, ↓List.length_nil, ↓List.cons_append, ↓List.nil_append, ↓List.getElem?_cons_zero, ↓List.getElem?_cons_succ, ↓List.set_cons_zero, ↓List.set_cons_succ, ↓List.replicate, ↓e_rg1, ↓e_rg1K, ↓e_rg2, ↓e_rg2K]
    simp only [isNoneD, isT, tyD]
    simp (config := { decide := true }) only [if_true, if_false]
    refine ⟨by simp [SeqAt.shaped, PyData.canLay0, PyData.depth], by simp [SeqAt.shaped, PyData.canLay0, PyData.depth], ?_⟩
    rw [show PyData.eqv (.bool (decide (b = true))) (.bool (decide (b = true))) = true from by cases b <;> decide +kernel]
    exact K
  | int i =>
    try simp only [↓e_var, ↓e_dvp, ↓e_dvo, ↓e_dvr, ↓e_c, ↓e_op, ↓e_op2, ↓e_op2C, ↓e_rvp, ↓e_rvt, ↓e_rvs, ↓e_rvSp, ↓e_rvSo, ↓e_fp, ↓e_fs, ↓e_ft, ↓e_fr, ↓e_dl, ↓e_dd, ↓e_ixl, ↓e_ixt, ↓e_atK, ↓e_at0, ↓e_at1, ↓e_at2, ↓e_at3, ↓e_add, ↓e_sub, ↓e_mul, ↓e_ii, ↓e_ci, ↓e_cmpT, ↓e_cmp, ↓e_gB, ↓e_test, ↓e_tst, ↓e_and, ↓e_or, ↓e_not, ↓e_ifs, ↓e_if, ↓e_seq, ↓e_sn, ↓e_sr, ↓e_sb, ↓e_sc, ↓e_next, ↓e_asg, ↓e_gn, ↓e_pp, ↓e_pt, ↓e_pr, ↓e_ps, ↓e_kp, ↓e_kt, ↓e_ks, ↓e_kSp, ↓e_kSo, ↓e_ret, ↓e_drop, ↓e_cg, ↓e_cgK, ↓e_rds0, ↓e_rds, ↓e_oc, ↓e_nil, ↓e_cons, ↓e_int, ↓e_abs, ↓e_len, ↓e_lent, ↓e_callP, ↓e_as0, ↓e_as, ↓e_ap, ↓e_ar, ↓e_asl, ↓e_sps, ↓e_spt, ↓e_item, ↓e_itK, ↓e_itK2, ↓e_ixK, ↓e_n0, ↓e_n1, ↓e_n3, ↓e_np, ↓e_part, ↓e_pk, ↓e_sl, ↓e_sll, ↓e_slt, ↓e_sum, ↓e_sumK, ↓e_all, ↓e_allK, ↓e_tupl, ↓e_tupt, ↓e_lstl, ↓e_lstt, ↓e_max2, ↓e_min2, ↓e_srt, ↓e_tupD, ↓e_lstD, ↓e_ka0, ↓e_ka, ↓e_addt, ↓e_addl, ↓e_neg, ↓e_negK, ↓e_isi, ↓e_isiK, ↓e_isiT, ↓e_isiKT, ↓e_tvK, ↓e_andV, ↓e_orV, ↓e_notV, ↓e_isN, ↓e_isB, ↓e_isnN, ↓e_seqIl, ↓e_seqIt, ↓e_for, ↓e_callI, ↓e_rtp, ↓e_rtt, ↓e_rts, ↓e_rtKo, ↓e_rtKp, ↓e_par, ↓e_chain, ↓e_eqi, ↓e_nei, ↓e_seqI, ↓e_yes, ↓e_comp, ↓e_dcomp, ↓e_wp0, ↓e_wp, ↓List.map_cons, ↓List.map_nil, ↓List.length_cons, ↓List.length_nil, ↓List.cons_append, ↓List.nil_append, ↓List.getElem?_cons_zero, ↓List.getElem?_cons_succ, ↓List.set_cons_zero, ↓List.set_cons_succ, ↓List.replicate, ↓e_rg1, ↓e_rg1K, ↓e_rg2, ↓e_rg2K]
    simp only [isNoneD, isT, tyD]
    simp (config := { decide := true }) only [if_true, if_false, e_eqi, beq_self_eq_true]
    exact K
  | str s =>
    try simp only [↓e_var, ↓e_dvp, ↓e_dvo, ↓e_dvr, ↓e_c, ↓e_op, ↓e_op2, ↓e_op2C, ↓e_rvp, ↓e_rvt, ↓e_rvs, ↓e_rvSp, ↓e_rvSo, ↓e_fp, ↓e_fs, ↓e_ft, ↓e_fr, ↓e_dl, ↓e_dd, ↓e_ixl, ↓e_ixt, ↓e_atK, ↓e_at0, ↓e_at1, ↓e_at2, ↓e_at3, ↓e_add, ↓e_sub, ↓e_mul, ↓e_ii, ↓e_ci, ↓e_cmpT, ↓e_cmp, ↓e_gB, ↓e_test, ↓e_tst, ↓e_and, ↓e_or, ↓e_not, ↓e_ifs, ↓e_if, ↓e_seq, ↓e_sn, ↓e_sr, ↓e_sb, ↓e_sc, ↓e_next, ↓e_asg, ↓e_gn, ↓e_pp, ↓e_pt, ↓e_pr, ↓e_ps, ↓e_kp, ↓e_kt, ↓e_ks, ↓e_kSp, ↓e_kSo, ↓e_ret, ↓e_drop, ↓e_cg, ↓e_cgK, ↓e_rds0, ↓e_rds, ↓e_oc, ↓e_nil, ↓e_cons, ↓e_int, ↓e_abs, ↓e_len, ↓e_lent, ↓e_callP, ↓e_as0, ↓e_as, ↓e_ap, ↓e_ar, ↓e_asl, ↓e_sps, ↓e_spt, ↓e_item, ↓e_itK, ↓e_itK2, ↓e_ixK, ↓e_n0, ↓e_n1, ↓e_n3, ↓e_np, ↓e_part, ↓e_pk, ↓e_sl, ↓e_sll, ↓e_slt, ↓e_sum, ↓e_sumK, ↓e_all, ↓e_allK, ↓e_tupl, ↓e_tupt, ↓e_lstl, ↓e_lstt, ↓e_max2, ↓e_min2, ↓e_srt, ↓e_tupD, ↓e_lstD, ↓e_ka0, ↓e_ka, ↓e_addt, ↓e_addl, ↓e_neg, ↓e_negK, ↓e_isi, ↓e_isiK, ↓e_isiT, ↓e_isiKT, ↓e_tvK, ↓e_andV, ↓e_orV, ↓e_notV, ↓e_isN, ↓e_isB, ↓e_isnN, ↓e_seqIl, ↓e_seqIt, ↓e_for, ↓e_callI, ↓e_rtp, ↓e_rtt, ↓e_rts, ↓e_rtKo, ↓e_rtKp, ↓e_par, ↓e_chain, ↓e_eqi, ↓e_nei, ↓e_seqI, ↓e_yes, ↓e_comp, ↓e_dcomp, ↓e_wp0, ↓e_wp, ↓List.map_cons, ↓List.map_nil, ↓List.length_cons, ↓List.length_nil, ↓List.cons_append, ↓List.nil_append, ↓List.getElem?_cons_zero, ↓List.getElem?_cons_succ, ↓List.set_cons_zero, ↓List.set_cons_succ, ↓List.replicate, ↓e_rg1, ↓e_rg1K, ↓e_rg2, ↓e_rg2K]
    simp only [isNoneD, isT, tyD]
    simp (config := { decide := true }) only [if_true, if_false]
    refine ⟨shaped_str s hg, shaped_str s hg, ?_⟩
    rw [eqv_str]
    exact K
  | list xs =>
    try simp only [↓e_var, ↓e_dvp, ↓e_dvo, ↓e_dvr, ↓e_c, ↓e_op, ↓e_op2, ↓e_op2C, ↓e_rvp, ↓e_rvt, ↓e_rvs, ↓e_rvSp, ↓e_rvSo, ↓e_fp, ↓e_fs, ↓e_ft, ↓e_fr, ↓e_dl, ↓e_dd, ↓e_ixl, ↓e_ixt, ↓e_atK, ↓e_at0, ↓e_at1, ↓e_at2, ↓e_at3, ↓e_add, ↓e_sub, ↓e_mul, ↓e_ii, ↓e_ci, ↓e_cmpT, ↓e_cmp, ↓e_gB, ↓e_test, ↓e_tst, ↓e_and, ↓e_or, ↓e_not, ↓e_ifs, ↓e_if, ↓e_seq, ↓e_sn, ↓e_sr, ↓e_sb, ↓e_sc, ↓e_next, ↓e_asg, ↓e_gn, ↓e_pp, ↓e_pt, ↓e_pr, ↓e_ps, ↓e_kp, ↓e_kt, ↓e_ks, ↓e_kSp, ↓e_kSo, ↓e_ret, ↓e_drop, ↓e_cg, ↓e_cgK, ↓e_rds0, ↓e_rds, ↓e_oc, ↓e_nil, ↓e_cons, ↓e_int, ↓e_abs, ↓e_len, ↓e_lent, ↓e_callP, ↓e_as0, ↓e_as, ↓e_ap, ↓e_ar, ↓e_asl, ↓e_sps, ↓e_spt, ↓e_item, ↓e_itK, ↓e_itK2, ↓e_ixK, ↓e_n0, ↓e_n1, ↓e_n3, ↓e_np, ↓e_part, ↓e_pk, ↓e_sl, ↓e_sll, ↓e_slt, ↓e_sum, ↓e_sumK, ↓e_all, ↓e_allK, ↓e_tupl, ↓e_tupt, ↓e_lstl, ↓e_lstt, ↓e_max2, ↓e_min2, ↓e_srt, ↓e_tupD, ↓e_lstD, ↓e_ka0, ↓e_ka, ↓e_addt, ↓e_addl, ↓e_neg, ↓e_negK, ↓e_isi, ↓e_isiK, ↓e_isiT, ↓e_isiKT, ↓e_tvK, ↓e_andV, ↓e_orV, ↓e_notV, ↓e_isN, ↓e_isB, ↓e_isnN, ↓e_seqIl, ↓e_seqIt, ↓e_for, ↓e_callI, ↓e_rtp, ↓e_rtt, ↓e_rts, ↓e_rtKo, ↓e_rtKp, ↓e_par, ↓e_chain, ↓e_eqi, ↓e_nei, ↓e_seqI, ↓e_yes, ↓e_comp, ↓e_dcomp, ↓e_wp0, ↓e_wp, ↓List.map_cons, ↓List.map_nil, ↓List.length_cons, ↓List.length_nil, ↓List.cons_append, ↓List.nil_append, ↓List.getElem?_cons_zero, ↓List.getElem?_cons_succ, ↓List.set_cons_zero, ↓List.set_cons_succ, ↓List.replicate, ↓e_rg1, ↓e_rg1K, ↓e_rg2, ↓e_rg2K]
    simp only [isNoneD, isT, tyD, isAny]
    simp (config := { decide := true }) only [if_true, if_false]
    refine ⟨by decide +kernel, by decide +kernel, ?_⟩
    rw [show (!PyData.eqv (.bool ("list" == "list" || false)) (.bool ("list" == "list" || false))) = false from by decide +kernel]
    simp only [beq_self_eq_true, Bool.not_true, Bool.false_eq_true, if_false]
    have hg : xs.length ≤ 10000 ∧ ∀ x ∈ xs, good n x := hg
    try simp only [↓e_var, ↓e_dvp, ↓e_dvo, ↓e_dvr, ↓e_c, ↓e_op, ↓e_op2, ↓e_op2C, ↓e_rvp, ↓e_rvt, ↓e_rvs, ↓e_rvSp, ↓e_rvSo, ↓e_fp, ↓e_fs, ↓e_ft, ↓e_fr, ↓e_dl, ↓e_dd, ↓e_ixl, ↓e_ixt, ↓e_atK, ↓e_at0, ↓e_at1, ↓e_at2, ↓e_at3, ↓e_add, ↓e_sub, ↓e_mul, ↓e_ii, ↓e_ci, ↓e_cmpT, ↓e_cmp, ↓e_gB, ↓e_test, ↓e_tst, ↓e_and, ↓e_or, ↓e_not, ↓e_ifs, ↓e_if, ↓e_seq, ↓e_sn, ↓e_sr, ↓e_sb, ↓e_sc, ↓e_next, ↓e_asg, ↓e_gn, ↓e_pp, ↓e_pt, ↓e_pr, ↓e_ps, ↓e_kp, ↓e_kt, ↓e_ks, ↓e_kSp, ↓e_kSo, ↓e_ret, ↓e_drop, ↓e_cg, ↓e_cgK, ↓e_rds0, ↓e_rds, ↓e_oc, ↓e_nil, ↓e_cons, ↓e_int, ↓e_abs, ↓e_len, ↓e_lent, ↓e_callP, ↓e_as0, ↓e_as, ↓e_ap, ↓e_ar, ↓e_asl, ↓e_sps, ↓e_spt, ↓e_item, ↓e_itK, ↓e_itK2, ↓e_ixK, ↓e_n0, ↓e_n1, ↓e_n3, ↓e_np, ↓e_part, ↓e_pk, ↓e_sl, ↓e_sll, ↓e_slt, ↓e_sum, ↓e_sumK, ↓e_all, ↓e_allK, ↓e_tupl, ↓e_tupt, ↓e_lstl, ↓e_lstt, ↓e_max2, ↓e_min2, ↓e_srt, ↓e_tupD, ↓e_lstD, ↓e_ka0, ↓e_ka, ↓e_addt, ↓e_addl, ↓e_neg, ↓e_negK, ↓e_isi, ↓e_isiK, ↓e_isiT, ↓e_isiKT, ↓e_tvK, ↓e_andV, ↓e_orV, ↓e_notV, ↓e_isN, ↓e_isB, ↓e_isnN, ↓e_seqIl, ↓e_seqIt, ↓e_for, ↓e_callI, ↓e_rtp, ↓e_rtt, ↓e_rts, ↓e_rtKo, ↓e_rtKp, ↓e_par, ↓e_chain, ↓e_eqi, ↓e_nei, ↓e_seqI, ↓e_yes, ↓e_comp, ↓e_dcomp, ↓e_wp0, ↓e_wp, ↓List.map_cons, ↓List.map_nil, ↓List.length_cons, ↓List.length_nil, ↓List.cons_append, ↓List.nil_append, ↓List.getElem?_cons_zero, ↓List.getElem?_cons_succ, ↓List.set_cons_zero, ↓List.set_cons_succ, ↓List.replicate, ↓e_rg1, ↓e_rg1K, ↓e_rg2, ↓e_rg2K]
    exact ⟨bnd_of (by omega), by simpa using seq xs hg _ (.inl rfl)⟩
  | tuple xs =>
    try simp only [↓e_var, ↓e_dvp, ↓e_dvo, ↓e_dvr, ↓e_c, ↓e_op, ↓e_op2, ↓e_op2C, ↓e_rvp, ↓e_rvt, ↓e_rvs, ↓e_rvSp, ↓e_rvSo, ↓e_fp, ↓e_fs, ↓e_ft, ↓e_fr, ↓e_dl, ↓e_dd, ↓e_ixl, ↓e_ixt, ↓e_atK, ↓e_at0, ↓e_at1, ↓e_at2, ↓e_at3, ↓e_add, ↓e_sub, ↓e_mul, ↓e_ii, ↓e_ci, ↓e_cmpT, ↓e_cmp, ↓e_gB, ↓e_test, ↓e_tst, ↓e_and, ↓e_or, ↓e_not, ↓e_ifs, ↓e_if, ↓e_seq, ↓e_sn, ↓e_sr, ↓e_sb, ↓e_sc, ↓e_next, ↓e_asg, ↓e_gn, ↓e_pp, ↓e_pt, ↓e_pr, ↓e_ps, ↓e_kp, ↓e_kt, ↓e_ks, ↓e_kSp, ↓e_kSo, ↓e_ret, ↓e_drop, ↓e_cg, ↓e_cgK, ↓e_rds0, ↓e_rds, ↓e_oc, ↓e_nil, ↓e_cons, ↓e_int, ↓e_abs, ↓e_len, ↓e_lent, ↓e_callP, ↓e_as0, ↓e_as, ↓e_ap, ↓e_ar, ↓e_asl, ↓e_sps, ↓e_spt, ↓e_item, ↓e_itK, ↓e_itK2, ↓e_ixK, ↓e_n0, ↓e_n1, ↓e_n3, ↓e_np, ↓e_part, ↓e_pk, ↓e_sl, ↓e_sll, ↓e_slt, ↓e_sum, ↓e_sumK, ↓e_all, ↓e_allK, ↓e_tupl, ↓e_tupt, ↓e_lstl, ↓e_lstt, ↓e_max2, ↓e_min2, ↓e_srt, ↓e_tupD, ↓e_lstD, ↓e_ka0, ↓e_ka, ↓e_addt, ↓e_addl, ↓e_neg, ↓e_negK, ↓e_isi, ↓e_isiK, ↓e_isiT, ↓e_isiKT, ↓e_tvK, ↓e_andV, ↓e_orV, ↓e_notV, ↓e_isN, ↓e_isB, ↓e_isnN, ↓e_seqIl, ↓e_seqIt, ↓e_for, ↓e_callI, ↓e_rtp, ↓e_rtt, ↓e_rts, ↓e_rtKo, ↓e_rtKp, ↓e_par, ↓e_chain, ↓e_eqi, ↓e_nei, ↓e_seqI, ↓e_yes, ↓e_comp, ↓e_dcomp, ↓e_wp0, ↓e_wp, ↓List.map_cons, ↓List.map_nil, ↓List.length_cons, ↓List.length_nil, ↓List.cons_append, ↓List.nil_append, ↓List.getElem?_cons_zero, ↓List.getElem?_cons_succ, ↓List.set_cons_zero, ↓List.set_cons_succ, ↓List.replicate, ↓e_rg1, ↓e_rg1K, ↓e_rg2, ↓e_rg2K]
    simp only [isNoneD, isT, tyD, isAny]
    simp (config := { decide := true }) only [if_true, if_false]
    refine ⟨by decide +kernel, by decide +kernel, ?_⟩
    rw [show (!PyData.eqv (.bool ("tuple" == "list" || false)) (.bool ("tuple" == "list" || false))) = false from by decide +kernel]
    simp only [beq_self_eq_true, Bool.not_true, Bool.false_eq_true, if_false]
    have hg : xs.length ≤ 10000 ∧ ∀ x ∈ xs, good n x := hg
    try simp only [↓e_var, ↓e_dvp, ↓e_dvo, ↓e_dvr, ↓e_c, ↓e_op, ↓e_op2, ↓e_op2C, ↓e_rvp, ↓e_rvt, ↓e_rvs, ↓e_rvSp, ↓e_rvSo, ↓e_fp, ↓e_fs, ↓e_ft, ↓e_fr, ↓e_dl, ↓e_dd, ↓e_ixl, ↓e_ixt, ↓e_atK, ↓e_at0, ↓e_at1, ↓e_at2, ↓e_at3, ↓e_add, ↓e_sub, ↓e_mul, ↓e_ii, ↓e_ci, ↓e_cmpT, ↓e_cmp, ↓e_gB, ↓e_test, ↓e_tst, ↓e_and, ↓e_or, ↓e_not, ↓e_ifs, ↓e_if, ↓e_seq, ↓e_sn, ↓e_sr, ↓e_sb, ↓e_sc, ↓e_next, ↓e_asg, ↓e_gn, ↓e_pp, ↓e_pt, ↓e_pr, ↓e_ps, ↓e_kp, ↓e_kt, ↓e_ks, ↓e_kSp, ↓e_kSo, ↓e_ret, ↓e_drop, ↓e_cg, ↓e_cgK, ↓e_rds0, ↓e_rds, ↓e_oc, ↓e_nil, ↓e_cons, ↓e_int, ↓e_abs, ↓e_len, ↓e_lent, ↓e_callP, ↓e_as0, ↓e_as, ↓e_ap, ↓e_ar, ↓e_asl, ↓e_sps, ↓e_spt, ↓e_item, ↓e_itK, ↓e_itK2, ↓e_ixK, ↓e_n0, ↓e_n1, ↓e_n3, ↓e_np, ↓e_part, ↓e_pk, ↓e_sl, ↓e_sll, ↓e_slt, ↓e_sum, ↓e_sumK, ↓e_all, ↓e_allK, ↓e_tupl, ↓e_tupt, ↓e_lstl, ↓e_lstt, ↓e_max2, ↓e_min2, ↓e_srt, ↓e_tupD, ↓e_lstD, ↓e_ka0, ↓e_ka, ↓e_addt, ↓e_addl, ↓e_neg, ↓e_negK, ↓e_isi, ↓e_isiK, ↓e_isiT, ↓e_isiKT, ↓e_tvK, ↓e_andV, ↓e_orV, ↓e_notV, ↓e_isN, ↓e_isB, ↓e_isnN, ↓e_seqIl, ↓e_seqIt, ↓e_for, ↓e_callI, ↓e_rtp, ↓e_rtt, ↓e_rts, ↓e_rtKo, ↓e_rtKp, ↓e_par, ↓e_chain, ↓e_eqi, ↓e_nei, ↓e_seqI, ↓e_yes, ↓e_comp, ↓e_dcomp, ↓e_wp0, ↓e_wp, ↓List.map_cons, ↓List.map_nil, ↓List.length_cons, ↓List.length_nil, ↓List.cons_append, ↓List.nil_append, ↓List.getElem?_cons_zero, ↓List.getElem?_cons_succ, ↓List.set_cons_zero, ↓List.set_cons_succ, ↓List.replicate, ↓e_rg1, ↓e_rg1K, ↓e_rg2, ↓e_rg2K]
    exact ⟨bnd_of (by omega), by simpa using seq xs hg _ (.inr rfl)⟩
  | dict kvs => exact hg.elim
theorem kn_false {P : Program} {w : World} {K : PySem.W.Frag} {mg : PySem.Str → Option Value} {base : Heap} {k : Nat} {x : PySem.Str} {st : Stmt} {ps : List PySem.Str} {pre : List DV → Prop} {post : List DV → RV → Prop} (d : Df K mg x st) (hb : BindsOk x st ps) (no : ∀ ds, ¬ pre ds) : Kn P w K mg base k x st ps (spP ⟨P, w, K⟩ (spS pre post)) := by
  obtain ⟨f, fd, hm, F⟩ := d.ex
  have z : ∀ {vs H Q E}, ¬ spP ⟨P, w, K⟩ (spS pre post) vs H Q E := fun ⟨_, _, _, _, h⟩ => no _ h.1
  exact ⟨f, fd, hm, F, ⟨fun _ _ _ _ h => (z h).elim, fun _ _ _ _ _ _ _ _ _ _ _ _ _ h => (z h).elim⟩, F.bindsN hb⟩
theorem ok__law_same_ {P : Program} {w : World} {K : PySem.W.Frag} {mg : PySem.Str → Option Value} {base : Heap} (fa : Facts K mg) : ∀ n : Nat, Kn P w K mg base (n + 2) "_law_same" (top 54) ["told", "due"] (spP ⟨P, w, K⟩ (S__law_same_ n))
  | 0 => kn_false fa.d__law_same bd__law_same fun ds ⟨_, _, h⟩ => h
  | n + 1 => kn_p fa.d__law_same sc__law_same bd__law_same (len__law_same (n + 1)) (g__law_same (S__law_same_ n)) (dv__law_same fa spS.mono (ok__law_same_ fa n) (by omega)) (law__law_same n)
def S__law_same : SpP := S__law_same_ 6
theorem ok__law_same {P : Program} {w : World} {K : PySem.W.Frag} {mg : PySem.Str → Option Value} {base : Heap} (fa : Facts K mg) : Kn P w K mg base 8 "_law_same" (top 54) ["told", "due"] (spP ⟨P, w, K⟩ S__law_same) := ok__law_same_ fa 6
def g__law_value : TDS := (dSeq (dAsg (dLst (dCons (dC .none) (dCons (dC (.bool true)) (dCons (dC (.bool false)) (dCons (dC (.int 0)) (dCons (dUn gNeg (dC (.int 7))) (dCons (dC (.int 10000000000000000000)) (dCons (dC (.str "")) (dCons (dC (.str "way")) (dCons (dLst dNil) (dCons (dLst (dCons (dC (.int 1)) (dCons (dLst (dCons (dC (.int 2)) dNil)) dNil))) (dCons (dTup dNil) (dCons (dTup (dCons (dC (.int 1)) (dCons (dC (.int 2)) dNil))) (dCons (dTup (dCons (dC (.int 1)) (dCons (dTup (dCons (dTup (dCons (dTup (dCons (dC (.int 1)) (dCons (dC (.int 2)) dNil))) dNil)) (dCons (dTup (dCons (dTup (dCons (dC (.int 0)) (dCons (dC (.int 1)) dNil))) dNil)) dNil))) dNil))) (dCons (dC (.str "1 | 1/2")) dNil))))))))))))))) (dgName [0] 1))
  (dRet (dOp gIx (dVar 1) (dCallI S__law_take 0 (dCons (dC (.int 14)) dNil)))))
theorem sc__law_value : FnScope ["box", "values"] ["box"] (defScope (top 56)) := ⟨rfl, rfl, rfl, by decide +kernel, rfl, by decide +kernel, by decide +kernel⟩
theorem bd__law_value : BindsOk "_law_value" (top 56) ["box"] := fun _ _ _ _ _ _ us hl => match us, hl with | [_], _ => rfl
theorem dv__law_value {P : Program} {w : World} {K : PySem.W.Frag} {mg : Str → Option Value} {base : Heap} (fa : Facts K mg) (f : Addr) (cdv : Value) (A : Around) (outer : List Env) (s : Shared) (H : Hp) (E : XK) (hr : Room 1 (A.deeper (envOfC "_law_value" (defScope (top 56)) s.heap.objs.size f cdv))) :
    DSs (cxOf CX0 P w K mg base ["box", "values"] "_law_value" (defScope (top 56)) f cdv A outer s H E).nox W0 [0] (defBody (top 56)) g__law_value :=
  (dss_cons (ds_setN (i := 1) sc__law_value.nd rfl (Or.inl rfl) (de_lst (da_cons de_non (da_cons de_bl (da_cons de_bl (da_cons de_int (da_cons (de_neg de_int) (da_cons de_int (da_cons de_str (da_cons de_str (da_cons (de_lst da_nil) (da_cons (de_lst (da_cons de_int (da_cons (de_lst (da_cons de_int da_nil)) da_nil))) (da_cons (de_tup da_nil) (da_cons (de_tup (da_cons de_int (da_cons de_int da_nil))) (da_cons (de_tup (da_cons de_int (da_cons (de_tup (da_cons (de_tup (da_cons (de_tup (da_cons de_int (da_cons de_int da_nil))) da_nil)) (da_cons (de_tup (da_cons (de_tup (da_cons de_int (da_cons de_int da_nil))) da_nil)) da_nil))) da_nil))) (da_cons de_str da_nil))))))))))))))))
  (dss_one (ds_ret (de_ix (de_of (pe_var (i := 1) rfl (.inl rfl))) (de_knI (Kn.mono (ok__law_take fa) (by decide)) spT.mono hr rfl (pe_var (i := 0) rfl (.inl rfl)) (da_cons de_int da_nil)) (by intro _ _; rfl)))))
def vals : List D := [.none, .bool true, .bool false, .int 0, .int (-7), .int 10000000000000000000, .str "", .str "way", .list [], .list [.int 1, .list [.int 2]], .tuple [], .tuple [.int 1, .int 2], .tuple [.int 1, .tuple [.tuple [.tuple [.int 1, .int 2]], .tuple [.tuple [.int 0, .int 1]]]], .str "1 | 1/2"]
def pre__law_value (o : OB) (ds : List DV) : Prop := BoxOk 1000000000 o ∧ ds = []
def post__law_value (o : OB) (_ : List DV) (r : RV) (o' : OB) : Prop := (∃ d, d ∈ vals ∧ r = .pure d) ∧ ∀ m, BoxOk m o → BoxOk (m + 1) o'
def S__law_value : SpI := spT pre__law_value post__law_value
theorem len__law_value (o : OB) (ds : List DV) (h : pre__law_value o ds) : ds.length + 1 = ["box"].length := by
  obtain ⟨_, rfl⟩ := h
  rfl
theorem law__law_value (o : OB) (ds : List DV) (Q : RV → OB → Prop) (h : pre__law_value o ds) (k : ∀ r o', post__law_value o ds r o' → Q r o') : bodyI 2 g__law_value o ds Q := by
  obtain ⟨hb, rfl⟩ := h
  unfold bodyI g__law_value S__law_take
  try simp only [↓e_var, ↓e_dvp, ↓e_dvo, ↓e_dvr, ↓e_c, ↓e_op, ↓e_op2, ↓e_op2C, ↓e_rvp, ↓e_rvt, ↓e_rvs, ↓e_rvSp, ↓e_rvSo, ↓e_fp, ↓e_fs, ↓e_ft, ↓e_fr, ↓e_dl, ↓e_dd, ↓e_ixl, ↓e_ixt, ↓e_atK, ↓e_at0, ↓e_at1, ↓e_at2, ↓e_at3, ↓e_add, ↓e_sub, ↓e_mul, ↓e_ii, ↓e_ci, ↓e_cmpT, ↓e_cmp, ↓e_gB, ↓e_test, ↓e_tst, ↓e_and, ↓e_or, ↓e_not, ↓e_ifs, ↓e_if, ↓e_seq, ↓e_sn, ↓e_sr, ↓e_sb, ↓e_sc, ↓e_next, ↓e_asg, ↓e_gn, ↓e_pp, ↓e_pt, ↓e_pr, ↓e_ps, ↓e_kp, ↓e_kt, ↓e_ks, ↓e_kSp, ↓e_kSo, ↓e_ret, ↓e_drop, ↓e_cg, ↓e_cgK, ↓e_rds0, ↓e_rds, ↓e_oc, ↓e_nil, ↓e_cons, ↓e_int, ↓e_abs, ↓e_len, ↓e_lent, ↓e_callP, ↓e_as0, ↓e_as, ↓e_ap, ↓e_ar, ↓e_asl, ↓e_sps, ↓e_spt, ↓e_item, ↓e_itK, ↓e_itK2, ↓e_ixK, ↓e_n0, ↓e_n1, ↓e_n3, ↓e_np, ↓e_part, ↓e_pk, ↓e_sl, ↓e_sll, ↓e_slt, ↓e_sum, ↓e_sumK, ↓e_all, ↓e_allK, ↓e_tupl, ↓e_tupt, ↓e_lstl, ↓e_lstt, ↓e_max2, ↓e_min2, ↓e_srt, ↓e_tupD, ↓e_lstD, ↓e_ka0, ↓e_ka, ↓e_addt, ↓e_addl, ↓e_neg, ↓e_negK, ↓e_isi, ↓e_isiK, ↓e_isiT, ↓e_isiKT, ↓e_tvK, ↓e_andV, ↓e_orV, ↓e_notV, ↓e_isN, ↓e_isB, ↓e_isnN, ↓e_seqIl, ↓e_seqIt, ↓e_for, ↓e_callI, ↓e_rtp, ↓e_rtt, ↓e_rts, ↓e_rtKo, ↓e_rtKp, ↓e_par, ↓e_chain, ↓e_eqi, ↓e_nei, ↓e_seqI, ↓e_yes, ↓e_comp, ↓e_dcomp, ↓e_wp0, ↓e_wp, ↓List.map_cons, ↓List.map_nil, ↓List.length_cons, ↓List.length_nil, ↓List.cons_append, ↓List.nil_append, ↓List.getElem?_cons_zero, ↓List.getElem?_cons_succ, ↓List.set_cons_zero, ↓List.set_cons_succ, ↓List.replicate, ↓e_rg1, ↓e_rg1K, ↓e_rg2, ↓e_rg2K]
  have z : ∀ {n : Nat}, n ≤ 100 → n ≤ sizeLine := fun h => by rw [sizeLine_eq]; omega
  refine ⟨z (by decide), z (by decide), z (by decide), z (by decide), z (by decide), z (by decide), z (by decide), z (by decide), z (by decide), z (by decide), z (by decide), z (by decide), by decide, ⟨o, rfl⟩, o, rfl, ⟨14, hb, rfl, by decide, by decide⟩, fun r o' ⟨i, e, h0, h1, hm⟩ => ?_⟩
  subst e
  refine ⟨trivial, ?_⟩
  have h1 := h1 14 rfl
  generalize hv : ([PyData.none, _, _, _, _, _, _, _, _, _, _, _, _, _] : List D) = L
  have hL : L = vals := by rw [← hv]; rfl
  subst hL
  try simp only [↓e_var, ↓e_dvp, ↓e_dvo, ↓e_dvr, ↓e_c, ↓e_op, ↓e_op2, ↓e_op2C, ↓e_rvp, ↓e_rvt, ↓e_rvs, ↓e_rvSp, ↓e_rvSo, ↓e_fp, ↓e_fs, ↓e_ft, ↓e_fr, ↓e_dl, ↓e_dd, ↓e_ixl, ↓e_ixt, ↓e_atK, ↓e_at0, ↓e_at1, ↓e_at2, ↓e_at3, ↓e_add, ↓e_sub, ↓e_mul, ↓e_ii, ↓e_ci, ↓e_cmpT, ↓e_cmp, ↓e_gB, ↓e_test, ↓e_tst, ↓e_and, ↓e_or, ↓e_not, ↓e_ifs, ↓e_if, ↓e_seq, ↓e_sn, ↓e_sr, ↓e_sb, ↓e_sc, ↓e_next, ↓e_asg, ↓e_gn, ↓e_pp, ↓e_pt, ↓e_pr, ↓e_ps, ↓e_kp, ↓e_kt, ↓e_ks, ↓e_kSp, ↓e_kSo, ↓e_ret, ↓e_drop, ↓e_cg, ↓e_cgK, ↓e_rds0, ↓e_rds, ↓e_oc, ↓e_nil, ↓e_cons, ↓e_int, ↓e_abs, ↓e_len, ↓e_lent, ↓e_callP, ↓e_as0, ↓e_as, ↓e_ap, ↓e_ar, ↓e_asl, ↓e_sps, ↓e_spt, ↓e_item, ↓e_itK, ↓e_itK2, ↓e_ixK, ↓e_n0, ↓e_n1, ↓e_n3, ↓e_np, ↓e_part, ↓e_pk, ↓e_sl, ↓e_sll, ↓e_slt, ↓e_sum, ↓e_sumK, ↓e_all, ↓e_allK, ↓e_tupl, ↓e_tupt, ↓e_lstl, ↓e_lstt, ↓e_max2, ↓e_min2, ↓e_srt, ↓e_tupD, ↓e_lstD, ↓e_ka0, ↓e_ka, ↓e_addt, ↓e_addl, ↓e_neg, ↓e_negK, ↓e_isi, ↓e_isiK, ↓e_isiT, ↓e_isiKT, ↓e_tvK, ↓e_andV, ↓e_orV, ↓e_notV, ↓e_isN, ↓e_isB, ↓e_isnN, ↓e_seqIl, ↓e_seqIt, ↓e_for, ↓e_callI, ↓e_rtp, ↓e_rtt, ↓e_rts, ↓e_rtKo, ↓e_rtKp, ↓e_par, ↓e_chain, ↓e_eqi, ↓e_nei, ↓e_seqI, ↓e_yes, ↓e_comp, ↓e_dcomp, ↓e_wp0, ↓e_wp, ↓List.map_cons, ↓List.map_nil, ↓List.length_cons, ↓List.length_nil, ↓List.cons_append, ↓List.nil_append, ↓List.getElem?_cons_zero, ↓List.getElem?_cons_succ, ↓List.set_cons_zero, ↓List.set_cons_succ, ↓List.replicate, ↓e_rg1, ↓e_rg1K, ↓e_rg2, ↓e_rg2K]
  obtain ⟨j, rfl⟩ := Int.eq_ofNat_of_zero_le h0
  have hj : j < vals.length := by show j < 14; omega
  have e := ix_of (List.getElem?_eq_getElem hj)
  show atK (atI vals (j : Int)) _
  rw [e, e_atK]
  exact ⟨_, rfl, (fun z => nomatch z), k _ _ ⟨⟨_, List.getElem_mem hj, rfl⟩, hm⟩⟩
theorem ok__law_value {P : Program} {w : World} {K : PySem.W.Frag} {mg : Str → Option Value} {base : Heap} (fa : Facts K mg) : Kn P w K mg base 2 "_law_value" (top 56) ["box"] (spI ⟨P, w, K⟩ S__law_value) :=
  kn_i fa.d__law_value sc__law_value bd__law_value len__law_value g__law_value (dv__law_value fa) law__law_value
def g__law_deep : TDS := (dRet (dIf (dTest (dIsi "list" (dVar 0))) (dCallG gList (dCons (dVar 0) dNil)) (dVar 0)))
theorem sc__law_deep : FnScope ["value"] ["value"] (defScope (top 66)) := ⟨rfl, rfl, rfl, by decide +kernel, rfl, by decide +kernel, by decide +kernel⟩
theorem bd__law_deep : BindsOk "_law_deep" (top 66) ["value"] := fun _ _ _ _ _ _ us hl => match us, hl with | [_], _ => rfl
theorem dv__law_deep {P : Program} {w : World} {K : PySem.W.Frag} {mg : Str → Option Value} {base : Heap} (fa : Facts K mg) (f : Addr) (cdv : Value) (A : Around) (outer : List Env) (s : Shared) (H : Hp) (E : XK) (hr : Room 0 (A.deeper (envOfC "_law_deep" (defScope (top 66)) s.heap.objs.size f cdv))) :
    DSs (cxOf CX0 P w K mg base ["value"] "_law_deep" (defScope (top 66)) f cdv A outer s H E).nox W0 [] (defBody (top 66)) g__law_deep :=
  (dss_one (ds_ret (de_if (dt_val (de_isi (T := "list") rfl fa.b_isinstance (by decide) (de_of (pe_var (i := 0) rfl (.inl rfl))) (pe_ty rfl fa.b_list (by kernel_rfl)))) (de_callT_ g_list rfl fa.b_list (by kernel_rfl) (da_cons (de_of (pe_var (i := 0) rfl (.inl rfl))) da_nil)) (de_of (pe_var (i := 0) rfl (.inl rfl))))))
def pre__law_deep (ds : List DV) : Prop := ∃ d : D, ds = [.pure d] ∧ ∀ xs, d = .list xs → xs.length ≤ 10000
def post__law_deep (ds : List DV) (r : RV) : Prop := ∀ d, ds = [.pure d] → (∃ xs, d = .list xs ∧ r = .tmp (.lst xs)) ∨ ((∀ xs, d ≠ .list xs) ∧ r = .pure d)
def S__law_deep : SpP := spS pre__law_deep post__law_deep
theorem len__law_deep (ds : List DV) (h : pre__law_deep ds) : ds.length = ["value"].length := by
  obtain ⟨d, rfl, _⟩ := h
  rfl
theorem law__law_deep (ds : List DV) (Q : RV → Prop) (h : pre__law_deep ds) (k : ∀ r, post__law_deep ds r → Q r) : bodyP 1 g__law_deep ds Q := by
  obtain ⟨d, rfl, hl⟩ := h
  unfold bodyP g__law_deep
  cases d with
  | list xs =>
    try simp only [↓e_var, ↓e_dvp, ↓e_dvo, ↓e_dvr, ↓e_c, ↓e_op, ↓e_op2, ↓e_op2C, ↓e_rvp, ↓e_rvt, ↓e_rvs, ↓e_rvSp, ↓e_rvSo, ↓e_fp, ↓e_fs, ↓e_ft, ↓e_fr, ↓e_dl, ↓e_dd, ↓e_ixl, ↓e_ixt, ↓e_atK, ↓e_at0, ↓e_at1, ↓e_at2, ↓e_at3, ↓e_add, ↓e_sub, ↓e_mul, ↓e_ii, ↓e_ci, ↓e_cmpT, ↓e_cmp, ↓e_gB, ↓e_test, ↓e_tst, ↓e_and, ↓e_or, ↓e_not, ↓e_ifs, ↓e_if, ↓e_seq, ↓e_sn, ↓e_sr, ↓e_sb, ↓e_sc, ↓e_next, ↓e_asg, ↓e_gn, ↓e_pp, ↓e_pt, ↓e_pr, ↓e_ps, ↓e_kp, ↓e_kt, ↓e_ks, ↓e_kSp, ↓e_kSo, ↓e_ret, ↓e_drop, ↓e_cg, ↓e_cgK, ↓e_rds0, ↓e_rds, ↓e_oc, ↓e_nil, ↓e_cons, ↓e_int, ↓e_abs, ↓e_len, ↓e_lent, ↓e_callP, ↓e_as0, ↓e_as, ↓e_ap, ↓e_ar, ↓e_asl, ↓e_sps, ↓e_spt, ↓e_item, ↓e_itK, ↓e_itK2, ↓e_ixK, ↓e_n0, ↓e_n1, ↓e_n3, ↓e_np, ↓e_part, ↓e_pk, ↓e_sl, ↓e_sll, ↓e_slt, ↓e_sum, ↓e_sumK, ↓e_all, ↓e_allK, ↓e_tupl, ↓e_tupt, ↓e_lstl, ↓e_lstt, ↓e_max2, ↓e_min2, ↓e_srt, ↓e_tupD, ↓e_lstD, ↓e_ka0, ↓e_ka, ↓e_addt, ↓e_addl, ↓e_neg, ↓e_negK, ↓e_isi, ↓e_isiK, ↓e_isiT, ↓e_isiKT, ↓e_tvK, ↓e_andV, ↓e_orV, ↓e_notV, ↓e_isN, ↓e_isB, ↓e_isnN, ↓e_seqIl, ↓e_seqIt, ↓e_for, ↓e_callI, ↓e_rtp, ↓e_rtt, ↓e_rts, ↓e_rtKo, ↓e_rtKp, ↓e_par, ↓e_chain, ↓e_eqi, ↓e_nei, ↓e_seqI, ↓e_yes, ↓e_comp, ↓e_dcomp, ↓e_wp0, ↓e_wp, ↓List.map_cons, ↓List.map_nil, ↓List.length_cons, ↓List.length_nil, ↓List.cons_append, ↓List.nil_append, ↓List.getElem?_cons_zero, ↓List.getElem?_cons_succ, ↓List.set_cons_zero, ↓List.set_cons_succ, ↓List.replicate, ↓e_rg1, ↓e_rg1K, ↓e_rg2, ↓e_rg2K]
    exact k _ fun d e => by cases e; exact .inl ⟨xs, rfl, rfl⟩
  | _ =>
    try simp only [↓e_var, ↓e_dvp, ↓e_dvo, ↓e_dvr, ↓e_c, ↓e_op, ↓e_op2, ↓e_op2C, ↓e_rvp, ↓e_rvt, ↓e_rvs, ↓e_rvSp, ↓e_rvSo, ↓e_fp, ↓e_fs, ↓e_ft, ↓e_fr, ↓e_dl, ↓e_dd, ↓e_ixl, ↓e_ixt, ↓e_atK, ↓e_at0, ↓e_at1, ↓e_at2, ↓e_at3, ↓e_add, ↓e_sub, ↓e_mul, ↓e_ii, ↓e_ci, ↓e_cmpT, ↓e_cmp, ↓e_gB, ↓e_test, ↓e_tst, ↓e_and, ↓e_or, ↓e_not, ↓e_ifs, ↓e_if, ↓e_seq, ↓e_sn, ↓e_sr, ↓e_sb, ↓e_sc, ↓e_next, ↓e_asg, ↓e_gn, ↓e_pp, ↓e_pt, ↓e_pr, ↓e_ps, ↓e_kp, ↓e_kt, ↓e_ks, ↓e_kSp, ↓e_kSo, ↓e_ret, ↓e_drop, ↓e_cg, ↓e_cgK, ↓e_rds0, ↓e_rds, ↓e_oc, ↓e_nil, ↓e_cons, ↓e_int, ↓e_abs, ↓e_len, ↓e_lent, ↓e_callP, ↓e_as0, ↓e_as, ↓e_ap, ↓e_ar, ↓e_asl, ↓e_sps, ↓e_spt, ↓e_item, ↓e_itK, ↓e_itK2, ↓e_ixK, ↓e_n0, ↓e_n1, ↓e_n3, ↓e_np, ↓e_part, ↓e_pk, ↓e_sl, ↓e_sll, ↓e_slt, ↓e_sum, ↓e_sumK, ↓e_all, ↓e_allK, ↓e_tupl, ↓e_tupt, ↓e_lstl, ↓e_lstt, ↓e_max2, ↓e_min2, ↓e_srt, ↓e_tupD, ↓e_lstD, ↓e_ka0, ↓e_ka, ↓e_addt, ↓e_addl, ↓e_neg, ↓e_negK, ↓e_isi, ↓e_isiK, ↓e_isiT, ↓e_isiKT, ↓e_tvK, ↓e_andV, ↓e_orV, ↓e_notV, ↓e_isN, ↓e_isB, ↓e_isnN, ↓e_seqIl, ↓e_seqIt, ↓e_for, ↓e_callI, ↓e_rtp, ↓e_rtt, ↓e_rts, ↓e_rtKo, ↓e_rtKp, ↓e_par, ↓e_chain, ↓e_eqi, ↓e_nei, ↓e_seqI, ↓e_yes, ↓e_comp, ↓e_dcomp, ↓e_wp0, ↓e_wp, ↓List.map_cons, ↓List.map_nil, ↓List.length_cons, ↓List.length_nil, ↓List.cons_append, ↓List.nil_append, ↓List.getElem?_cons_zero, ↓List.getElem?_cons_succ, ↓List.set_cons_zero, ↓List.set_cons_succ, ↓List.replicate, ↓e_rg1, ↓e_rg1K, ↓e_rg2, ↓e_rg2K]
    exact k _ fun d e => by cases e; exact .inr ⟨(fun _ z => nomatch z), rfl⟩
theorem ok__law_deep {P : Program} {w : World} {K : PySem.W.Frag} {mg : Str → Option Value} {base : Heap} (fa : Facts K mg) : Kn P w K mg base 1 "_law_deep" (top 66) ["value"] (spP ⟨P, w, K⟩ S__law_deep) :=
  kn_p fa.d__law_deep sc__law_deep bd__law_deep len__law_deep g__law_deep (dv__law_deep fa) law__law_deep
end TT
set_option Elab.async false
set_option linter.all false
set_option maxRecDepth 100000
set_option maxHeartbeats 4000000
namespace TT
open PySem PySem.Spec PyProof.Rows L2 DL
def cRow (i : Nat) : PySem.Str × Nat × Nat × Option PySem.Str := T99.clss.getD i ("", 0, 0, none)
def cC (i : Nat) : Addr := (cRow i).2.1
def cI (i : Nat) : Addr := (cRow i).2.2.1
def cF (i : Nat) : Option PySem.Str := (cRow i).2.2.2
/-- what the head tells of the classes -/
structure FX (P : Program) (w : World) (K : PySem.W.Frag) (mg : PySem.Str → Option Value) (base : Heap) : Prop where
  fa : Facts K mg
  g : ∀ i, i < 47 → mg (cRow i).1 = some (.ref (cC i))
  gL : mg "LookError" = some (.ref T99.lkE)
  ex : ∀ i, i < 47 → HB.ExK K (cC i) (cI i) (cF i)
  isx : ∀ i, i < 47 → IsX K (cC i)
  kit : ∀ i j, i < 47 → j < 47 → PySem.W.kitOne K (.ref (cC i)) (.ref (cC j)) = some (decide (i = j))
  kitL : ∀ i, i < 47 → PySem.W.kitOne K (.ref (cC i)) (.ref T99.lkE) = some true
  kitV : ∀ i, i < 47 → PySem.W.kitOne K (.ref (cC i)) (.type "ValueError") = some true
  exm : ∀ i, i < 47 → PySem.W.exmOne K (.ref (cC i)) (.ref T99.lkE) = some true
  ini : ∀ i, i < 47 → InitOk P w K mg base (cC i) (cI i) (cF i)
section
variable {P : Program} {w : World} {K : PySem.W.Frag} {mg : PySem.Str → Option Value} {base : Heap}
theorem kn_raw {x : PySem.Str} {st : Stmt} {N ps : List PySem.Str} {k : Nat} {sp : Sp} (d : Df K mg x st) (sc : FnScope N ps (defScope st)) (hb : BindsOk x st ps) (hlen : ∀ vs H Q E, sp vs H Q E → vs.length = ps.length)
    (h : ∀ (f : Addr) (cdv : Value) (A : Around) (outer : List Env) (s : Shared) (H : Hp) (vs : List V) (Q : VK) (E : XK), Room k (A.deeper (envOfC x (defScope st) s.heap.objs.size f cdv)) → sp vs H Q E →
      ∃ t, PSs (cxOf CX0 P w K mg base N x (defScope st) f cdv A outer s H E) (defBody st) t ∧ t { nx := fun _ H' => Q .non H', rt := Q } (start N vs) H) : Kn P w K mg base (k + 1) x st ps sp := by
  obtain ⟨f, fd, hm, F⟩ := d.ex
  exact ⟨f, fd, hm, F, F.ok sc hlen (h f), F.bindsN hb⟩
end
section
variable {X : Cx} {x : PySem.Str} {st : Stmt} {ps : List PySem.Str} {k : Nat} {sp : Sp} {e : Expr} {es : List Expr} {ta : TA} {p pos : Pos}
theorem pe_kn (c : Kn X.prog X.w X.K X.mg X.base k x st ps sp) (hr : Room k X.A) (hg : Gl X x) (ha : PA X (e :: es) ta) (hdb : (x == ("__debug__" : PySem.Str)) = false := by decide)
    (he : starEach (e :: es) X.env = (false, eval e X.env) :: starEach es X.env := by rfl) (hpl : (backTo pos (starEach es X.env)).any (·.1) = false := by rfl) : PE X (.Call (.Name x p) (e :: es) [] pos) (tCall sp [] E0 ta) := by
  obtain ⟨f, fd, hm, Fd, F, hb⟩ := c.ex
  exact pe_call F hr hg hm Fd.kp hb .nil pass0 ha hdb he hpl
end
theorem vint_of {a b : Int} (h : decide (V.int a = V.int b) = true) : a = b := V.int.inj (of_decide_eq_true h)
theorem vint_no {a b : Int} (h : ¬ decide (V.int a = V.int b) = true) : a ≠ b := fun e => h (decide_eq_true (congrArg V.int e))
/-- an error made -/
def spMade (lo : Nat) : Sp := fun vs H Q _ => ∃ (k : Nat) (one other : V) (b : Bool), vs = [.int k, one, other, .bl b] ∧ lo ≤ k ∧ k < 47 ∧ ∀ a H', H a = none → (∀ c u, H c = some u → H' c = some u) → MadeX H' a (cC k) (cF k) one → Q (.ref a) H'
theorem sc__law_made_3 : FnScope ["k", "one", "other", "by_name"] ["k", "one", "other", "by_name"] (defScope (top 60)) := ⟨rfl, rfl, rfl, by decide +kernel, rfl, by decide +kernel, by decide +kernel⟩
theorem bd__law_made_3 : BindsOk "_law_made_3" (top 60) ["k", "one", "other", "by_name"] := fun _ _ _ _ _ _ us hl => match us, hl with | [_, _, _, _], _ => rfl
theorem ok__law_made_3 {P : Program} {w : World} {K : PySem.W.Frag} {mg : PySem.Str → Option Value} {base : Heap} (fx : FX P w K mg base) : Kn P w K mg base 3 "_law_made_3" (top 60) ["k", "one", "other", "by_name"] (spMade 42) := by
  refine kn_raw fx.fa.d__law_made_3 sc__law_made_3 bd__law_made_3 (fun vs H Q E ⟨_, _, _, _, e, _⟩ => by rw [e]; rfl) fun f cdv A outer s H vs Q E hr ⟨k, one, other, b, e, l0, l1, q⟩ => ⟨_, PSs.nox (pss_cons (ps_if (pt_cmpR op_eq (pv 0) pe_int (nomark _)) (pss_one (ps_ret (pe_mk0 (fx.ex 42 (by decide)) (fx.ini 42 (by decide)) (hr.mono (by decide)) rfl (fx.g 42 (by decide))))) pss_nil)
  (pss_cons (ps_if (pt_cmpR op_eq (pv 0) pe_int (nomark _)) (pss_one (ps_ret (pe_mk0 (fx.ex 43 (by decide)) (fx.ini 43 (by decide)) (hr.mono (by decide)) rfl (fx.g 43 (by decide))))) pss_nil)
  (pss_cons (ps_if (pt_cmpR op_eq (pv 0) pe_int (nomark _)) (pss_one (ps_ret (pe_mk0 (fx.ex 44 (by decide)) (fx.ini 44 (by decide)) (hr.mono (by decide)) rfl (fx.g 44 (by decide))))) pss_nil)
  (pss_cons (ps_if (pt_cmpR op_eq (pv 0) pe_int (nomark _)) (pss_one (ps_ret (pe_mk0 (fx.ex 45 (by decide)) (fx.ini 45 (by decide)) (hr.mono (by decide)) rfl (fx.g 45 (by decide))))) pss_nil)
  (pss_cons (ps_if (pt_cmpR op_eq (pv 0) pe_int (nomark _)) (pss_one (ps_ret (pe_mk0 (fx.ex 46 (by decide)) (fx.ini 46 (by decide)) (hr.mono (by decide)) rfl (fx.g 46 (by decide))))) pss_nil)
  (pss_one (ps_ret pe_non))))))), ?_⟩
  subst e
  refine ⟨_, rfl, rfl, _, rfl, ite2 (fun e => ?_) (fun e42 => ?_)⟩
  · have e := Int.ofNat.inj (vint_of e)
    subst e
    exact fun a H' na m M => q a H' na m (by cases M with | bare h => exact .bare h)
  have e42 := vint_no e42
  refine ⟨_, rfl, rfl, _, rfl, ite2 (fun e => ?_) (fun e43 => ?_)⟩
  · have e := Int.ofNat.inj (vint_of e)
    subst e
    exact fun a H' na m M => q a H' na m (by cases M with | bare h => exact .bare h)
  have e43 := vint_no e43
  refine ⟨_, rfl, rfl, _, rfl, ite2 (fun e => ?_) (fun e44 => ?_)⟩
  · have e := Int.ofNat.inj (vint_of e)
    subst e
    exact fun a H' na m M => q a H' na m (by cases M with | bare h => exact .bare h)
  have e44 := vint_no e44
  refine ⟨_, rfl, rfl, _, rfl, ite2 (fun e => ?_) (fun e45 => ?_)⟩
  · have e := Int.ofNat.inj (vint_of e)
    subst e
    exact fun a H' na m M => q a H' na m (by cases M with | bare h => exact .bare h)
  have e45 := vint_no e45
  refine ⟨_, rfl, rfl, _, rfl, ite2 (fun e => ?_) (fun e46 => ?_)⟩
  · have e := Int.ofNat.inj (vint_of e)
    subst e
    exact fun a H' na m M => q a H' na m (by cases M with | bare h => exact .bare h)
  have e46 := vint_no e46
  omega
theorem sc__law_made_2 : FnScope ["k", "one", "other", "by_name"] ["k", "one", "other", "by_name"] (defScope (top 59)) := ⟨rfl, rfl, rfl, by decide +kernel, rfl, by decide +kernel, by decide +kernel⟩
theorem bd__law_made_2 : BindsOk "_law_made_2" (top 59) ["k", "one", "other", "by_name"] := fun _ _ _ _ _ _ us hl => match us, hl with | [_, _, _, _], _ => rfl
theorem ok__law_made_2 {P : Program} {w : World} {K : PySem.W.Frag} {mg : PySem.Str → Option Value} {base : Heap} (fx : FX P w K mg base) : Kn P w K mg base 4 "_law_made_2" (top 59) ["k", "one", "other", "by_name"] (spMade 28) := by
  refine kn_raw fx.fa.d__law_made_2 sc__law_made_2 bd__law_made_2 (fun vs H Q E ⟨_, _, _, _, e, _⟩ => by rw [e]; rfl) fun f cdv A outer s H vs Q E hr ⟨k, one, other, b, e, l0, l1, q⟩ => ⟨_, PSs.nox (pss_cons (ps_if (pt_cmpR op_eq (pv 0) pe_int (nomark _)) (pss_one (ps_ret (pe_ifExp (pt_val (pv 3)) (pe_mkK (fx.ex 28 (by decide)) (fx.ini 28 (by decide)) (hr.mono (by decide)) rfl (fx.g 28 (by decide)) (pk_cons (pv 1) pk_nil)) (pe_mk (fx.ex 28 (by decide)) (fx.ini 28 (by decide)) (hr.mono (by decide)) rfl (fx.g 28 (by decide)) (pv 1))))) pss_nil)
  (pss_cons (ps_if (pt_cmpR op_eq (pv 0) pe_int (nomark _)) (pss_one (ps_ret (pe_ifExp (pt_val (pv 3)) (pe_mkK (fx.ex 29 (by decide)) (fx.ini 29 (by decide)) (hr.mono (by decide)) rfl (fx.g 29 (by decide)) (pk_cons (pv 1) pk_nil)) (pe_mk (fx.ex 29 (by decide)) (fx.ini 29 (by decide)) (hr.mono (by decide)) rfl (fx.g 29 (by decide)) (pv 1))))) pss_nil)
  (pss_cons (ps_if (pt_cmpR op_eq (pv 0) pe_int (nomark _)) (pss_one (ps_ret (pe_ifExp (pt_val (pv 3)) (pe_mkK (fx.ex 30 (by decide)) (fx.ini 30 (by decide)) (hr.mono (by decide)) rfl (fx.g 30 (by decide)) (pk_cons (pv 1) pk_nil)) (pe_mk (fx.ex 30 (by decide)) (fx.ini 30 (by decide)) (hr.mono (by decide)) rfl (fx.g 30 (by decide)) (pv 1))))) pss_nil)
  (pss_cons (ps_if (pt_cmpR op_eq (pv 0) pe_int (nomark _)) (pss_one (ps_ret (pe_ifExp (pt_val (pv 3)) (pe_mkK (fx.ex 31 (by decide)) (fx.ini 31 (by decide)) (hr.mono (by decide)) rfl (fx.g 31 (by decide)) (pk_cons (pv 1) pk_nil)) (pe_mk (fx.ex 31 (by decide)) (fx.ini 31 (by decide)) (hr.mono (by decide)) rfl (fx.g 31 (by decide)) (pv 1))))) pss_nil)
  (pss_cons (ps_if (pt_cmpR op_eq (pv 0) pe_int (nomark _)) (pss_one (ps_ret (pe_ifExp (pt_val (pv 3)) (pe_mkK (fx.ex 32 (by decide)) (fx.ini 32 (by decide)) (hr.mono (by decide)) rfl (fx.g 32 (by decide)) (pk_cons (pv 1) pk_nil)) (pe_mk (fx.ex 32 (by decide)) (fx.ini 32 (by decide)) (hr.mono (by decide)) rfl (fx.g 32 (by decide)) (pv 1))))) pss_nil)
  (pss_cons (ps_if (pt_cmpR op_eq (pv 0) pe_int (nomark _)) (pss_one (ps_ret (pe_mk0 (fx.ex 33 (by decide)) (fx.ini 33 (by decide)) (hr.mono (by decide)) rfl (fx.g 33 (by decide))))) pss_nil)
  (pss_cons (ps_if (pt_cmpR op_eq (pv 0) pe_int (nomark _)) (pss_one (ps_ret (pe_ifExp (pt_val (pv 3)) (pe_mkK (fx.ex 34 (by decide)) (fx.ini 34 (by decide)) (hr.mono (by decide)) rfl (fx.g 34 (by decide)) (pk_cons (pv 1) pk_nil)) (pe_mk (fx.ex 34 (by decide)) (fx.ini 34 (by decide)) (hr.mono (by decide)) rfl (fx.g 34 (by decide)) (pv 1))))) pss_nil)
  (pss_cons (ps_if (pt_cmpR op_eq (pv 0) pe_int (nomark _)) (pss_one (ps_ret (pe_mk0 (fx.ex 35 (by decide)) (fx.ini 35 (by decide)) (hr.mono (by decide)) rfl (fx.g 35 (by decide))))) pss_nil)
  (pss_cons (ps_if (pt_cmpR op_eq (pv 0) pe_int (nomark _)) (pss_one (ps_ret (pe_mk0 (fx.ex 36 (by decide)) (fx.ini 36 (by decide)) (hr.mono (by decide)) rfl (fx.g 36 (by decide))))) pss_nil)
  (pss_cons (ps_if (pt_cmpR op_eq (pv 0) pe_int (nomark _)) (pss_one (ps_ret (pe_ifExp (pt_val (pv 3)) (pe_mkK (fx.ex 37 (by decide)) (fx.ini 37 (by decide)) (hr.mono (by decide)) rfl (fx.g 37 (by decide)) (pk_cons (pv 1) pk_nil)) (pe_mk (fx.ex 37 (by decide)) (fx.ini 37 (by decide)) (hr.mono (by decide)) rfl (fx.g 37 (by decide)) (pv 1))))) pss_nil)
  (pss_cons (ps_if (pt_cmpR op_eq (pv 0) pe_int (nomark _)) (pss_one (ps_ret (pe_ifExp (pt_val (pv 3)) (pe_mkK (fx.ex 38 (by decide)) (fx.ini 38 (by decide)) (hr.mono (by decide)) rfl (fx.g 38 (by decide)) (pk_cons (pv 1) pk_nil)) (pe_mk (fx.ex 38 (by decide)) (fx.ini 38 (by decide)) (hr.mono (by decide)) rfl (fx.g 38 (by decide)) (pv 1))))) pss_nil)
  (pss_cons (ps_if (pt_cmpR op_eq (pv 0) pe_int (nomark _)) (pss_one (ps_ret (pe_mk0 (fx.ex 39 (by decide)) (fx.ini 39 (by decide)) (hr.mono (by decide)) rfl (fx.g 39 (by decide))))) pss_nil)
  (pss_cons (ps_if (pt_cmpR op_eq (pv 0) pe_int (nomark _)) (pss_one (ps_ret (pe_ifExp (pt_val (pv 3)) (pe_mkK (fx.ex 40 (by decide)) (fx.ini 40 (by decide)) (hr.mono (by decide)) rfl (fx.g 40 (by decide)) (pk_cons (pv 1) pk_nil)) (pe_mk (fx.ex 40 (by decide)) (fx.ini 40 (by decide)) (hr.mono (by decide)) rfl (fx.g 40 (by decide)) (pv 1))))) pss_nil)
  (pss_cons (ps_if (pt_cmpR op_eq (pv 0) pe_int (nomark _)) (pss_one (ps_ret (pe_ifExp (pt_val (pv 3)) (pe_mkK (fx.ex 41 (by decide)) (fx.ini 41 (by decide)) (hr.mono (by decide)) rfl (fx.g 41 (by decide)) (pk_cons (pv 1) pk_nil)) (pe_mk (fx.ex 41 (by decide)) (fx.ini 41 (by decide)) (hr.mono (by decide)) rfl (fx.g 41 (by decide)) (pv 1))))) pss_nil)
  (pss_one (ps_ret (pe_kn (Kn.mono (ok__law_made_3 fx) (by decide)) hr rfl (pa_cons (pv 0) (pa_cons (pv 1) (pa_cons (pv 2) (pa_cons (pv 3) pa_nil))))))))))))))))))))), ?_⟩
  subst e
  refine ⟨_, rfl, rfl, _, rfl, ite2 (fun e => ?_) (fun e28 => ?_)⟩
  · have e := Int.ofNat.inj (vint_of e)
    subst e
    refine ⟨_, rfl, b, rfl, ?_⟩
    cases b
    · exact ⟨_, rfl, fun a H' na m M => q a H' na m M⟩
    · exact ⟨_, rfl, fun a H' na m M => q a H' na m M⟩
  have e28 := vint_no e28
  refine ⟨_, rfl, rfl, _, rfl, ite2 (fun e => ?_) (fun e29 => ?_)⟩
  · have e := Int.ofNat.inj (vint_of e)
    subst e
    refine ⟨_, rfl, b, rfl, ?_⟩
    cases b
    · exact ⟨_, rfl, fun a H' na m M => q a H' na m M⟩
    · exact ⟨_, rfl, fun a H' na m M => q a H' na m M⟩
  have e29 := vint_no e29
  refine ⟨_, rfl, rfl, _, rfl, ite2 (fun e => ?_) (fun e30 => ?_)⟩
  · have e := Int.ofNat.inj (vint_of e)
    subst e
    refine ⟨_, rfl, b, rfl, ?_⟩
    cases b
    · exact ⟨_, rfl, fun a H' na m M => q a H' na m M⟩
    · exact ⟨_, rfl, fun a H' na m M => q a H' na m M⟩
  have e30 := vint_no e30
  refine ⟨_, rfl, rfl, _, rfl, ite2 (fun e => ?_) (fun e31 => ?_)⟩
  · have e := Int.ofNat.inj (vint_of e)
    subst e
    refine ⟨_, rfl, b, rfl, ?_⟩
    cases b
    · exact ⟨_, rfl, fun a H' na m M => q a H' na m M⟩
    · exact ⟨_, rfl, fun a H' na m M => q a H' na m M⟩
  have e31 := vint_no e31
  refine ⟨_, rfl, rfl, _, rfl, ite2 (fun e => ?_) (fun e32 => ?_)⟩
  · have e := Int.ofNat.inj (vint_of e)
    subst e
    refine ⟨_, rfl, b, rfl, ?_⟩
    cases b
    · exact ⟨_, rfl, fun a H' na m M => q a H' na m M⟩
    · exact ⟨_, rfl, fun a H' na m M => q a H' na m M⟩
  have e32 := vint_no e32
  refine ⟨_, rfl, rfl, _, rfl, ite2 (fun e => ?_) (fun e33 => ?_)⟩
  · have e := Int.ofNat.inj (vint_of e)
    subst e
    exact fun a H' na m M => q a H' na m (by cases M with | bare h => exact .bare h)
  have e33 := vint_no e33
  refine ⟨_, rfl, rfl, _, rfl, ite2 (fun e => ?_) (fun e34 => ?_)⟩
  · have e := Int.ofNat.inj (vint_of e)
    subst e
    refine ⟨_, rfl, b, rfl, ?_⟩
    cases b
    · exact ⟨_, rfl, fun a H' na m M => q a H' na m M⟩
    · exact ⟨_, rfl, fun a H' na m M => q a H' na m M⟩
  have e34 := vint_no e34
  refine ⟨_, rfl, rfl, _, rfl, ite2 (fun e => ?_) (fun e35 => ?_)⟩
  · have e := Int.ofNat.inj (vint_of e)
    subst e
    exact fun a H' na m M => q a H' na m (by cases M with | bare h => exact .bare h)
  have e35 := vint_no e35
  refine ⟨_, rfl, rfl, _, rfl, ite2 (fun e => ?_) (fun e36 => ?_)⟩
  · have e := Int.ofNat.inj (vint_of e)
    subst e
    exact fun a H' na m M => q a H' na m (by cases M with | bare h => exact .bare h)
  have e36 := vint_no e36
  refine ⟨_, rfl, rfl, _, rfl, ite2 (fun e => ?_) (fun e37 => ?_)⟩
  · have e := Int.ofNat.inj (vint_of e)
    subst e
    refine ⟨_, rfl, b, rfl, ?_⟩
    cases b
    · exact ⟨_, rfl, fun a H' na m M => q a H' na m M⟩
    · exact ⟨_, rfl, fun a H' na m M => q a H' na m M⟩
  have e37 := vint_no e37
  refine ⟨_, rfl, rfl, _, rfl, ite2 (fun e => ?_) (fun e38 => ?_)⟩
  · have e := Int.ofNat.inj (vint_of e)
    subst e
    refine ⟨_, rfl, b, rfl, ?_⟩
    cases b
    · exact ⟨_, rfl, fun a H' na m M => q a H' na m M⟩
    · exact ⟨_, rfl, fun a H' na m M => q a H' na m M⟩
  have e38 := vint_no e38
  refine ⟨_, rfl, rfl, _, rfl, ite2 (fun e => ?_) (fun e39 => ?_)⟩
  · have e := Int.ofNat.inj (vint_of e)
    subst e
    exact fun a H' na m M => q a H' na m (by cases M with | bare h => exact .bare h)
  have e39 := vint_no e39
  refine ⟨_, rfl, rfl, _, rfl, ite2 (fun e => ?_) (fun e40 => ?_)⟩
  · have e := Int.ofNat.inj (vint_of e)
    subst e
    refine ⟨_, rfl, b, rfl, ?_⟩
    cases b
    · exact ⟨_, rfl, fun a H' na m M => q a H' na m M⟩
    · exact ⟨_, rfl, fun a H' na m M => q a H' na m M⟩
  have e40 := vint_no e40
  refine ⟨_, rfl, rfl, _, rfl, ite2 (fun e => ?_) (fun e41 => ?_)⟩
  · have e := Int.ofNat.inj (vint_of e)
    subst e
    refine ⟨_, rfl, b, rfl, ?_⟩
    cases b
    · exact ⟨_, rfl, fun a H' na m M => q a H' na m M⟩
    · exact ⟨_, rfl, fun a H' na m M => q a H' na m M⟩
  have e41 := vint_no e41
  have l2 : 42 ≤ k := by omega
  exact ⟨_, rfl, _, rfl, _, rfl, _, rfl, k, one, other, b, rfl, l2, l1, q⟩
theorem sc__law_made_1 : FnScope ["k", "one", "other", "by_name"] ["k", "one", "other", "by_name"] (defScope (top 58)) := ⟨rfl, rfl, rfl, by decide +kernel, rfl, by decide +kernel, by decide +kernel⟩
theorem bd__law_made_1 : BindsOk "_law_made_1" (top 58) ["k", "one", "other", "by_name"] := fun _ _ _ _ _ _ us hl => match us, hl with | [_, _, _, _], _ => rfl
theorem ok__law_made_1 {P : Program} {w : World} {K : PySem.W.Frag} {mg : PySem.Str → Option Value} {base : Heap} (fx : FX P w K mg base) : Kn P w K mg base 5 "_law_made_1" (top 58) ["k", "one", "other", "by_name"] (spMade 14) := by
  refine kn_raw fx.fa.d__law_made_1 sc__law_made_1 bd__law_made_1 (fun vs H Q E ⟨_, _, _, _, e, _⟩ => by rw [e]; rfl) fun f cdv A outer s H vs Q E hr ⟨k, one, other, b, e, l0, l1, q⟩ => ⟨_, PSs.nox (pss_cons (ps_if (pt_cmpR op_eq (pv 0) pe_int (nomark _)) (pss_one (ps_ret (pe_ifExp (pt_val (pv 3)) (pe_mkK (fx.ex 14 (by decide)) (fx.ini 14 (by decide)) (hr.mono (by decide)) rfl (fx.g 14 (by decide)) (pk_cons (pv 1) pk_nil)) (pe_mk (fx.ex 14 (by decide)) (fx.ini 14 (by decide)) (hr.mono (by decide)) rfl (fx.g 14 (by decide)) (pv 1))))) pss_nil)
  (pss_cons (ps_if (pt_cmpR op_eq (pv 0) pe_int (nomark _)) (pss_one (ps_ret (pe_ifExp (pt_val (pv 3)) (pe_mkK (fx.ex 15 (by decide)) (fx.ini 15 (by decide)) (hr.mono (by decide)) rfl (fx.g 15 (by decide)) (pk_cons (pv 1) pk_nil)) (pe_mk (fx.ex 15 (by decide)) (fx.ini 15 (by decide)) (hr.mono (by decide)) rfl (fx.g 15 (by decide)) (pv 1))))) pss_nil)
  (pss_cons (ps_if (pt_cmpR op_eq (pv 0) pe_int (nomark _)) (pss_one (ps_ret (pe_ifExp (pt_val (pv 3)) (pe_mkK (fx.ex 16 (by decide)) (fx.ini 16 (by decide)) (hr.mono (by decide)) rfl (fx.g 16 (by decide)) (pk_cons (pv 1) pk_nil)) (pe_mk (fx.ex 16 (by decide)) (fx.ini 16 (by decide)) (hr.mono (by decide)) rfl (fx.g 16 (by decide)) (pv 1))))) pss_nil)
  (pss_cons (ps_if (pt_cmpR op_eq (pv 0) pe_int (nomark _)) (pss_one (ps_ret (pe_ifExp (pt_val (pv 3)) (pe_mkK (fx.ex 17 (by decide)) (fx.ini 17 (by decide)) (hr.mono (by decide)) rfl (fx.g 17 (by decide)) (pk_cons (pv 1) pk_nil)) (pe_mk (fx.ex 17 (by decide)) (fx.ini 17 (by decide)) (hr.mono (by decide)) rfl (fx.g 17 (by decide)) (pv 1))))) pss_nil)
  (pss_cons (ps_if (pt_cmpR op_eq (pv 0) pe_int (nomark _)) (pss_one (ps_ret (pe_ifExp (pt_val (pv 3)) (pe_mkK (fx.ex 18 (by decide)) (fx.ini 18 (by decide)) (hr.mono (by decide)) rfl (fx.g 18 (by decide)) (pk_cons (pv 1) pk_nil)) (pe_mk (fx.ex 18 (by decide)) (fx.ini 18 (by decide)) (hr.mono (by decide)) rfl (fx.g 18 (by decide)) (pv 1))))) pss_nil)
  (pss_cons (ps_if (pt_cmpR op_eq (pv 0) pe_int (nomark _)) (pss_one (ps_ret (pe_ifExp (pt_val (pv 3)) (pe_mkK (fx.ex 19 (by decide)) (fx.ini 19 (by decide)) (hr.mono (by decide)) rfl (fx.g 19 (by decide)) (pk_cons (pv 1) pk_nil)) (pe_mk (fx.ex 19 (by decide)) (fx.ini 19 (by decide)) (hr.mono (by decide)) rfl (fx.g 19 (by decide)) (pv 1))))) pss_nil)
  (pss_cons (ps_if (pt_cmpR op_eq (pv 0) pe_int (nomark _)) (pss_one (ps_ret (pe_ifExp (pt_val (pv 3)) (pe_mkK (fx.ex 20 (by decide)) (fx.ini 20 (by decide)) (hr.mono (by decide)) rfl (fx.g 20 (by decide)) (pk_cons (pv 1) pk_nil)) (pe_mk (fx.ex 20 (by decide)) (fx.ini 20 (by decide)) (hr.mono (by decide)) rfl (fx.g 20 (by decide)) (pv 1))))) pss_nil)
  (pss_cons (ps_if (pt_cmpR op_eq (pv 0) pe_int (nomark _)) (pss_one (ps_ret (pe_ifExp (pt_val (pv 3)) (pe_mkK (fx.ex 21 (by decide)) (fx.ini 21 (by decide)) (hr.mono (by decide)) rfl (fx.g 21 (by decide)) (pk_cons (pv 1) pk_nil)) (pe_mk (fx.ex 21 (by decide)) (fx.ini 21 (by decide)) (hr.mono (by decide)) rfl (fx.g 21 (by decide)) (pv 1))))) pss_nil)
  (pss_cons (ps_if (pt_cmpR op_eq (pv 0) pe_int (nomark _)) (pss_one (ps_ret (pe_ifExp (pt_val (pv 3)) (pe_mkK (fx.ex 22 (by decide)) (fx.ini 22 (by decide)) (hr.mono (by decide)) rfl (fx.g 22 (by decide)) (pk_cons (pv 1) pk_nil)) (pe_mk (fx.ex 22 (by decide)) (fx.ini 22 (by decide)) (hr.mono (by decide)) rfl (fx.g 22 (by decide)) (pv 1))))) pss_nil)
  (pss_cons (ps_if (pt_cmpR op_eq (pv 0) pe_int (nomark _)) (pss_one (ps_ret (pe_ifExp (pt_val (pv 3)) (pe_mkK (fx.ex 23 (by decide)) (fx.ini 23 (by decide)) (hr.mono (by decide)) rfl (fx.g 23 (by decide)) (pk_cons (pv 1) pk_nil)) (pe_mk (fx.ex 23 (by decide)) (fx.ini 23 (by decide)) (hr.mono (by decide)) rfl (fx.g 23 (by decide)) (pv 1))))) pss_nil)
  (pss_cons (ps_if (pt_cmpR op_eq (pv 0) pe_int (nomark _)) (pss_one (ps_ret (pe_ifExp (pt_val (pv 3)) (pe_mkK (fx.ex 24 (by decide)) (fx.ini 24 (by decide)) (hr.mono (by decide)) rfl (fx.g 24 (by decide)) (pk_cons (pv 1) pk_nil)) (pe_mk (fx.ex 24 (by decide)) (fx.ini 24 (by decide)) (hr.mono (by decide)) rfl (fx.g 24 (by decide)) (pv 1))))) pss_nil)
  (pss_cons (ps_if (pt_cmpR op_eq (pv 0) pe_int (nomark _)) (pss_one (ps_ret (pe_ifExp (pt_val (pv 3)) (pe_mkK (fx.ex 25 (by decide)) (fx.ini 25 (by decide)) (hr.mono (by decide)) rfl (fx.g 25 (by decide)) (pk_cons (pv 1) pk_nil)) (pe_mk (fx.ex 25 (by decide)) (fx.ini 25 (by decide)) (hr.mono (by decide)) rfl (fx.g 25 (by decide)) (pv 1))))) pss_nil)
  (pss_cons (ps_if (pt_cmpR op_eq (pv 0) pe_int (nomark _)) (pss_one (ps_ret (pe_ifExp (pt_val (pv 3)) (pe_mkK (fx.ex 26 (by decide)) (fx.ini 26 (by decide)) (hr.mono (by decide)) rfl (fx.g 26 (by decide)) (pk_cons (pv 1) pk_nil)) (pe_mk (fx.ex 26 (by decide)) (fx.ini 26 (by decide)) (hr.mono (by decide)) rfl (fx.g 26 (by decide)) (pv 1))))) pss_nil)
  (pss_cons (ps_if (pt_cmpR op_eq (pv 0) pe_int (nomark _)) (pss_one (ps_ret (pe_ifExp (pt_val (pv 3)) (pe_mkK (fx.ex 27 (by decide)) (fx.ini 27 (by decide)) (hr.mono (by decide)) rfl (fx.g 27 (by decide)) (pk_cons (pv 1) pk_nil)) (pe_mk (fx.ex 27 (by decide)) (fx.ini 27 (by decide)) (hr.mono (by decide)) rfl (fx.g 27 (by decide)) (pv 1))))) pss_nil)
  (pss_one (ps_ret (pe_kn (Kn.mono (ok__law_made_2 fx) (by decide)) hr rfl (pa_cons (pv 0) (pa_cons (pv 1) (pa_cons (pv 2) (pa_cons (pv 3) pa_nil))))))))))))))))))))), ?_⟩
  subst e
  refine ⟨_, rfl, rfl, _, rfl, ite2 (fun e => ?_) (fun e14 => ?_)⟩
  · have e := Int.ofNat.inj (vint_of e)
    subst e
    refine ⟨_, rfl, b, rfl, ?_⟩
    cases b
    · exact ⟨_, rfl, fun a H' na m M => q a H' na m M⟩
    · exact ⟨_, rfl, fun a H' na m M => q a H' na m M⟩
  have e14 := vint_no e14
  refine ⟨_, rfl, rfl, _, rfl, ite2 (fun e => ?_) (fun e15 => ?_)⟩
  · have e := Int.ofNat.inj (vint_of e)
    subst e
    refine ⟨_, rfl, b, rfl, ?_⟩
    cases b
    · exact ⟨_, rfl, fun a H' na m M => q a H' na m M⟩
    · exact ⟨_, rfl, fun a H' na m M => q a H' na m M⟩
  have e15 := vint_no e15
  refine ⟨_, rfl, rfl, _, rfl, ite2 (fun e => ?_) (fun e16 => ?_)⟩
  · have e := Int.ofNat.inj (vint_of e)
    subst e
    refine ⟨_, rfl, b, rfl, ?_⟩
    cases b
    · exact ⟨_, rfl, fun a H' na m M => q a H' na m M⟩
    · exact ⟨_, rfl, fun a H' na m M => q a H' na m M⟩
  have e16 := vint_no e16
  refine ⟨_, rfl, rfl, _, rfl, ite2 (fun e => ?_) (fun e17 => ?_)⟩
  · have e := Int.ofNat.inj (vint_of e)
    subst e
    refine ⟨_, rfl, b, rfl, ?_⟩
    cases b
    · exact ⟨_, rfl, fun a H' na m M => q a H' na m M⟩
    · exact ⟨_, rfl, fun a H' na m M => q a H' na m M⟩
  have e17 := vint_no e17
  refine ⟨_, rfl, rfl, _, rfl, ite2 (fun e => ?_) (fun e18 => ?_)⟩
  · have e := Int.ofNat.inj (vint_of e)
    subst e
    refine ⟨_, rfl, b, rfl, ?_⟩
    cases b
    · exact ⟨_, rfl, fun a H' na m M => q a H' na m M⟩
    · exact ⟨_, rfl, fun a H' na m M => q a H' na m M⟩
  have e18 := vint_no e18
  refine ⟨_, rfl, rfl, _, rfl, ite2 (fun e => ?_) (fun e19 => ?_)⟩
  · have e := Int.ofNat.inj (vint_of e)
    subst e
    refine ⟨_, rfl, b, rfl, ?_⟩
    cases b
    · exact ⟨_, rfl, fun a H' na m M => q a H' na m M⟩
    · exact ⟨_, rfl, fun a H' na m M => q a H' na m M⟩
  have e19 := vint_no e19
  refine ⟨_, rfl, rfl, _, rfl, ite2 (fun e => ?_) (fun e20 => ?_)⟩
  · have e := Int.ofNat.inj (vint_of e)
    subst e
    refine ⟨_, rfl, b, rfl, ?_⟩
    cases b
    · exact ⟨_, rfl, fun a H' na m M => q a H' na m M⟩
    · exact ⟨_, rfl, fun a H' na m M => q a H' na m M⟩
  have e20 := vint_no e20
  refine ⟨_, rfl, rfl, _, rfl, ite2 (fun e => ?_) (fun e21 => ?_)⟩
  · have e := Int.ofNat.inj (vint_of e)
    subst e
    refine ⟨_, rfl, b, rfl, ?_⟩
    cases b
    · exact ⟨_, rfl, fun a H' na m M => q a H' na m M⟩
    · exact ⟨_, rfl, fun a H' na m M => q a H' na m M⟩
  have e21 := vint_no e21
  refine ⟨_, rfl, rfl, _, rfl, ite2 (fun e => ?_) (fun e22 => ?_)⟩
  · have e := Int.ofNat.inj (vint_of e)
    subst e
    refine ⟨_, rfl, b, rfl, ?_⟩
    cases b
    · exact ⟨_, rfl, fun a H' na m M => q a H' na m M⟩
    · exact ⟨_, rfl, fun a H' na m M => q a H' na m M⟩
  have e22 := vint_no e22
  refine ⟨_, rfl, rfl, _, rfl, ite2 (fun e => ?_) (fun e23 => ?_)⟩
  · have e := Int.ofNat.inj (vint_of e)
    subst e
    refine ⟨_, rfl, b, rfl, ?_⟩
    cases b
    · exact ⟨_, rfl, fun a H' na m M => q a H' na m M⟩
    · exact ⟨_, rfl, fun a H' na m M => q a H' na m M⟩
  have e23 := vint_no e23
  refine ⟨_, rfl, rfl, _, rfl, ite2 (fun e => ?_) (fun e24 => ?_)⟩
  · have e := Int.ofNat.inj (vint_of e)
    subst e
    refine ⟨_, rfl, b, rfl, ?_⟩
    cases b
    · exact ⟨_, rfl, fun a H' na m M => q a H' na m M⟩
    · exact ⟨_, rfl, fun a H' na m M => q a H' na m M⟩
  have e24 := vint_no e24
  refine ⟨_, rfl, rfl, _, rfl, ite2 (fun e => ?_) (fun e25 => ?_)⟩
  · have e := Int.ofNat.inj (vint_of e)
    subst e
    refine ⟨_, rfl, b, rfl, ?_⟩
    cases b
    · exact ⟨_, rfl, fun a H' na m M => q a H' na m M⟩
    · exact ⟨_, rfl, fun a H' na m M => q a H' na m M⟩
  have e25 := vint_no e25
  refine ⟨_, rfl, rfl, _, rfl, ite2 (fun e => ?_) (fun e26 => ?_)⟩
  · have e := Int.ofNat.inj (vint_of e)
    subst e
    refine ⟨_, rfl, b, rfl, ?_⟩
    cases b
    · exact ⟨_, rfl, fun a H' na m M => q a H' na m M⟩
    · exact ⟨_, rfl, fun a H' na m M => q a H' na m M⟩
  have e26 := vint_no e26
  refine ⟨_, rfl, rfl, _, rfl, ite2 (fun e => ?_) (fun e27 => ?_)⟩
  · have e := Int.ofNat.inj (vint_of e)
    subst e
    refine ⟨_, rfl, b, rfl, ?_⟩
    cases b
    · exact ⟨_, rfl, fun a H' na m M => q a H' na m M⟩
    · exact ⟨_, rfl, fun a H' na m M => q a H' na m M⟩
  have e27 := vint_no e27
  have l2 : 28 ≤ k := by omega
  exact ⟨_, rfl, _, rfl, _, rfl, _, rfl, k, one, other, b, rfl, l2, l1, q⟩
theorem sc__law_made_0 : FnScope ["k", "one", "other", "by_name"] ["k", "one", "other", "by_name"] (defScope (top 57)) := ⟨rfl, rfl, rfl, by decide +kernel, rfl, by decide +kernel, by decide +kernel⟩
theorem bd__law_made_0 : BindsOk "_law_made_0" (top 57) ["k", "one", "other", "by_name"] := fun _ _ _ _ _ _ us hl => match us, hl with | [_, _, _, _], _ => rfl
theorem ok__law_made_0 {P : Program} {w : World} {K : PySem.W.Frag} {mg : PySem.Str → Option Value} {base : Heap} (fx : FX P w K mg base) : Kn P w K mg base 6 "_law_made_0" (top 57) ["k", "one", "other", "by_name"] (spMade 0) := by
  refine kn_raw fx.fa.d__law_made_0 sc__law_made_0 bd__law_made_0 (fun vs H Q E ⟨_, _, _, _, e, _⟩ => by rw [e]; rfl) fun f cdv A outer s H vs Q E hr ⟨k, one, other, b, e, l0, l1, q⟩ => ⟨_, PSs.nox (pss_cons (ps_if (pt_cmpR op_eq (pv 0) pe_int (nomark _)) (pss_one (ps_ret (pe_ifExp (pt_val (pv 3)) (pe_mkK (fx.ex 0 (by decide)) (fx.ini 0 (by decide)) (hr.mono (by decide)) rfl (fx.g 0 (by decide)) (pk_cons (pv 1) pk_nil)) (pe_mk (fx.ex 0 (by decide)) (fx.ini 0 (by decide)) (hr.mono (by decide)) rfl (fx.g 0 (by decide)) (pv 1))))) pss_nil)
  (pss_cons (ps_if (pt_cmpR op_eq (pv 0) pe_int (nomark _)) (pss_one (ps_ret (pe_ifExp (pt_val (pv 3)) (pe_mkK (fx.ex 1 (by decide)) (fx.ini 1 (by decide)) (hr.mono (by decide)) rfl (fx.g 1 (by decide)) (pk_cons (pv 1) pk_nil)) (pe_mk (fx.ex 1 (by decide)) (fx.ini 1 (by decide)) (hr.mono (by decide)) rfl (fx.g 1 (by decide)) (pv 1))))) pss_nil)
  (pss_cons (ps_if (pt_cmpR op_eq (pv 0) pe_int (nomark _)) (pss_one (ps_ret (pe_ifExp (pt_val (pv 3)) (pe_mkK (fx.ex 2 (by decide)) (fx.ini 2 (by decide)) (hr.mono (by decide)) rfl (fx.g 2 (by decide)) (pk_cons (pv 1) pk_nil)) (pe_mk (fx.ex 2 (by decide)) (fx.ini 2 (by decide)) (hr.mono (by decide)) rfl (fx.g 2 (by decide)) (pv 1))))) pss_nil)
  (pss_cons (ps_if (pt_cmpR op_eq (pv 0) pe_int (nomark _)) (pss_one (ps_ret (pe_ifExp (pt_val (pv 3)) (pe_mkK (fx.ex 3 (by decide)) (fx.ini 3 (by decide)) (hr.mono (by decide)) rfl (fx.g 3 (by decide)) (pk_cons (pv 1) pk_nil)) (pe_mk (fx.ex 3 (by decide)) (fx.ini 3 (by decide)) (hr.mono (by decide)) rfl (fx.g 3 (by decide)) (pv 1))))) pss_nil)
  (pss_cons (ps_if (pt_cmpR op_eq (pv 0) pe_int (nomark _)) (pss_one (ps_ret (pe_ifExp (pt_val (pv 3)) (pe_mkK (fx.ex 4 (by decide)) (fx.ini 4 (by decide)) (hr.mono (by decide)) rfl (fx.g 4 (by decide)) (pk_cons (pv 1) pk_nil)) (pe_mk (fx.ex 4 (by decide)) (fx.ini 4 (by decide)) (hr.mono (by decide)) rfl (fx.g 4 (by decide)) (pv 1))))) pss_nil)
  (pss_cons (ps_if (pt_cmpR op_eq (pv 0) pe_int (nomark _)) (pss_one (ps_ret (pe_ifExp (pt_val (pv 3)) (pe_mkK (fx.ex 5 (by decide)) (fx.ini 5 (by decide)) (hr.mono (by decide)) rfl (fx.g 5 (by decide)) (pk_cons (pv 1) pk_nil)) (pe_mk (fx.ex 5 (by decide)) (fx.ini 5 (by decide)) (hr.mono (by decide)) rfl (fx.g 5 (by decide)) (pv 1))))) pss_nil)
  (pss_cons (ps_if (pt_cmpR op_eq (pv 0) pe_int (nomark _)) (pss_one (ps_ret (pe_ifExp (pt_val (pv 3)) (pe_mkK (fx.ex 6 (by decide)) (fx.ini 6 (by decide)) (hr.mono (by decide)) rfl (fx.g 6 (by decide)) (pk_cons (pv 1) pk_nil)) (pe_mk (fx.ex 6 (by decide)) (fx.ini 6 (by decide)) (hr.mono (by decide)) rfl (fx.g 6 (by decide)) (pv 1))))) pss_nil)
  (pss_cons (ps_if (pt_cmpR op_eq (pv 0) pe_int (nomark _)) (pss_one (ps_ret (pe_ifExp (pt_val (pv 3)) (pe_mkK (fx.ex 7 (by decide)) (fx.ini 7 (by decide)) (hr.mono (by decide)) rfl (fx.g 7 (by decide)) (pk_cons (pv 1) pk_nil)) (pe_mk (fx.ex 7 (by decide)) (fx.ini 7 (by decide)) (hr.mono (by decide)) rfl (fx.g 7 (by decide)) (pv 1))))) pss_nil)
  (pss_cons (ps_if (pt_cmpR op_eq (pv 0) pe_int (nomark _)) (pss_one (ps_ret (pe_ifExp (pt_val (pv 3)) (pe_mkK (fx.ex 8 (by decide)) (fx.ini 8 (by decide)) (hr.mono (by decide)) rfl (fx.g 8 (by decide)) (pk_cons (pv 1) pk_nil)) (pe_mk (fx.ex 8 (by decide)) (fx.ini 8 (by decide)) (hr.mono (by decide)) rfl (fx.g 8 (by decide)) (pv 1))))) pss_nil)
  (pss_cons (ps_if (pt_cmpR op_eq (pv 0) pe_int (nomark _)) (pss_one (ps_ret (pe_ifExp (pt_val (pv 3)) (pe_mkK (fx.ex 9 (by decide)) (fx.ini 9 (by decide)) (hr.mono (by decide)) rfl (fx.g 9 (by decide)) (pk_cons (pv 1) pk_nil)) (pe_mk (fx.ex 9 (by decide)) (fx.ini 9 (by decide)) (hr.mono (by decide)) rfl (fx.g 9 (by decide)) (pv 1))))) pss_nil)
  (pss_cons (ps_if (pt_cmpR op_eq (pv 0) pe_int (nomark _)) (pss_one (ps_ret (pe_ifExp (pt_val (pv 3)) (pe_mkK (fx.ex 10 (by decide)) (fx.ini 10 (by decide)) (hr.mono (by decide)) rfl (fx.g 10 (by decide)) (pk_cons (pv 1) pk_nil)) (pe_mk (fx.ex 10 (by decide)) (fx.ini 10 (by decide)) (hr.mono (by decide)) rfl (fx.g 10 (by decide)) (pv 1))))) pss_nil)
  (pss_cons (ps_if (pt_cmpR op_eq (pv 0) pe_int (nomark _)) (pss_one (ps_ret (pe_ifExp (pt_val (pv 3)) (pe_mkK (fx.ex 11 (by decide)) (fx.ini 11 (by decide)) (hr.mono (by decide)) rfl (fx.g 11 (by decide)) (pk_cons (pv 1) pk_nil)) (pe_mk (fx.ex 11 (by decide)) (fx.ini 11 (by decide)) (hr.mono (by decide)) rfl (fx.g 11 (by decide)) (pv 1))))) pss_nil)
  (pss_cons (ps_if (pt_cmpR op_eq (pv 0) pe_int (nomark _)) (pss_one (ps_ret (pe_ifExp (pt_val (pv 3)) (pe_mkK (fx.ex 12 (by decide)) (fx.ini 12 (by decide)) (hr.mono (by decide)) rfl (fx.g 12 (by decide)) (pk_cons (pv 1) pk_nil)) (pe_mk (fx.ex 12 (by decide)) (fx.ini 12 (by decide)) (hr.mono (by decide)) rfl (fx.g 12 (by decide)) (pv 1))))) pss_nil)
  (pss_cons (ps_if (pt_cmpR op_eq (pv 0) pe_int (nomark _)) (pss_one (ps_ret (pe_ifExp (pt_val (pv 3)) (pe_mkK (fx.ex 13 (by decide)) (fx.ini 13 (by decide)) (hr.mono (by decide)) rfl (fx.g 13 (by decide)) (pk_cons (pv 1) pk_nil)) (pe_mk (fx.ex 13 (by decide)) (fx.ini 13 (by decide)) (hr.mono (by decide)) rfl (fx.g 13 (by decide)) (pv 1))))) pss_nil)
  (pss_one (ps_ret (pe_kn (Kn.mono (ok__law_made_1 fx) (by decide)) hr rfl (pa_cons (pv 0) (pa_cons (pv 1) (pa_cons (pv 2) (pa_cons (pv 3) pa_nil))))))))))))))))))))), ?_⟩
  subst e
  refine ⟨_, rfl, rfl, _, rfl, ite2 (fun e => ?_) (fun e0 => ?_)⟩
  · have e := Int.ofNat.inj (vint_of e)
    subst e
    refine ⟨_, rfl, b, rfl, ?_⟩
    cases b
    · exact ⟨_, rfl, fun a H' na m M => q a H' na m M⟩
    · exact ⟨_, rfl, fun a H' na m M => q a H' na m M⟩
  have e0 := vint_no e0
  refine ⟨_, rfl, rfl, _, rfl, ite2 (fun e => ?_) (fun e1 => ?_)⟩
  · have e := Int.ofNat.inj (vint_of e)
    subst e
    refine ⟨_, rfl, b, rfl, ?_⟩
    cases b
    · exact ⟨_, rfl, fun a H' na m M => q a H' na m M⟩
    · exact ⟨_, rfl, fun a H' na m M => q a H' na m M⟩
  have e1 := vint_no e1
  refine ⟨_, rfl, rfl, _, rfl, ite2 (fun e => ?_) (fun e2 => ?_)⟩
  · have e := Int.ofNat.inj (vint_of e)
    subst e
    refine ⟨_, rfl, b, rfl, ?_⟩
    cases b
    · exact ⟨_, rfl, fun a H' na m M => q a H' na m M⟩
    · exact ⟨_, rfl, fun a H' na m M => q a H' na m M⟩
  have e2 := vint_no e2
  refine ⟨_, rfl, rfl, _, rfl, ite2 (fun e => ?_) (fun e3 => ?_)⟩
  · have e := Int.ofNat.inj (vint_of e)
    subst e
    refine ⟨_, rfl, b, rfl, ?_⟩
    cases b
    · exact ⟨_, rfl, fun a H' na m M => q a H' na m M⟩
    · exact ⟨_, rfl, fun a H' na m M => q a H' na m M⟩
  have e3 := vint_no e3
  refine ⟨_, rfl, rfl, _, rfl, ite2 (fun e => ?_) (fun e4 => ?_)⟩
  · have e := Int.ofNat.inj (vint_of e)
    subst e
    refine ⟨_, rfl, b, rfl, ?_⟩
    cases b
    · exact ⟨_, rfl, fun a H' na m M => q a H' na m M⟩
    · exact ⟨_, rfl, fun a H' na m M => q a H' na m M⟩
  have e4 := vint_no e4
  refine ⟨_, rfl, rfl, _, rfl, ite2 (fun e => ?_) (fun e5 => ?_)⟩
  · have e := Int.ofNat.inj (vint_of e)
    subst e
    refine ⟨_, rfl, b, rfl, ?_⟩
    cases b
    · exact ⟨_, rfl, fun a H' na m M => q a H' na m M⟩
    · exact ⟨_, rfl, fun a H' na m M => q a H' na m M⟩
  have e5 := vint_no e5
  refine ⟨_, rfl, rfl, _, rfl, ite2 (fun e => ?_) (fun e6 => ?_)⟩
  · have e := Int.ofNat.inj (vint_of e)
    subst e
    refine ⟨_, rfl, b, rfl, ?_⟩
    cases b
    · exact ⟨_, rfl, fun a H' na m M => q a H' na m M⟩
    · exact ⟨_, rfl, fun a H' na m M => q a H' na m M⟩
  have e6 := vint_no e6
  refine ⟨_, rfl, rfl, _, rfl, ite2 (fun e => ?_) (fun e7 => ?_)⟩
  · have e := Int.ofNat.inj (vint_of e)
    subst e
    refine ⟨_, rfl, b, rfl, ?_⟩
    cases b
    · exact ⟨_, rfl, fun a H' na m M => q a H' na m M⟩
    · exact ⟨_, rfl, fun a H' na m M => q a H' na m M⟩
  have e7 := vint_no e7
  refine ⟨_, rfl, rfl, _, rfl, ite2 (fun e => ?_) (fun e8 => ?_)⟩
  · have e := Int.ofNat.inj (vint_of e)
    subst e
    refine ⟨_, rfl, b, rfl, ?_⟩
    cases b
    · exact ⟨_, rfl, fun a H' na m M => q a H' na m M⟩
    · exact ⟨_, rfl, fun a H' na m M => q a H' na m M⟩
  have e8 := vint_no e8
  refine ⟨_, rfl, rfl, _, rfl, ite2 (fun e => ?_) (fun e9 => ?_)⟩
  · have e := Int.ofNat.inj (vint_of e)
    subst e
    refine ⟨_, rfl, b, rfl, ?_⟩
    cases b
    · exact ⟨_, rfl, fun a H' na m M => q a H' na m M⟩
    · exact ⟨_, rfl, fun a H' na m M => q a H' na m M⟩
  have e9 := vint_no e9
  refine ⟨_, rfl, rfl, _, rfl, ite2 (fun e => ?_) (fun e10 => ?_)⟩
  · have e := Int.ofNat.inj (vint_of e)
    subst e
    refine ⟨_, rfl, b, rfl, ?_⟩
    cases b
    · exact ⟨_, rfl, fun a H' na m M => q a H' na m M⟩
    · exact ⟨_, rfl, fun a H' na m M => q a H' na m M⟩
  have e10 := vint_no e10
  refine ⟨_, rfl, rfl, _, rfl, ite2 (fun e => ?_) (fun e11 => ?_)⟩
  · have e := Int.ofNat.inj (vint_of e)
    subst e
    refine ⟨_, rfl, b, rfl, ?_⟩
    cases b
    · exact ⟨_, rfl, fun a H' na m M => q a H' na m M⟩
    · exact ⟨_, rfl, fun a H' na m M => q a H' na m M⟩
  have e11 := vint_no e11
  refine ⟨_, rfl, rfl, _, rfl, ite2 (fun e => ?_) (fun e12 => ?_)⟩
  · have e := Int.ofNat.inj (vint_of e)
    subst e
    refine ⟨_, rfl, b, rfl, ?_⟩
    cases b
    · exact ⟨_, rfl, fun a H' na m M => q a H' na m M⟩
    · exact ⟨_, rfl, fun a H' na m M => q a H' na m M⟩
  have e12 := vint_no e12
  refine ⟨_, rfl, rfl, _, rfl, ite2 (fun e => ?_) (fun e13 => ?_)⟩
  · have e := Int.ofNat.inj (vint_of e)
    subst e
    refine ⟨_, rfl, b, rfl, ?_⟩
    cases b
    · exact ⟨_, rfl, fun a H' na m M => q a H' na m M⟩
    · exact ⟨_, rfl, fun a H' na m M => q a H' na m M⟩
  have e13 := vint_no e13
  have l2 : 14 ≤ k := by omega
  exact ⟨_, rfl, _, rfl, _, rfl, _, rfl, k, one, other, b, rfl, l2, l1, q⟩
/-- which class -/
def spIs (lo : Nat) : Sp := fun vs H Q _ => ∃ (k : Nat) (a : Addr) (i : Nat), vs = [.int k, .ref a] ∧ lo ≤ k ∧ k < 47 ∧ i < 47 ∧ HeldX H a (cC i) ∧ Q (.bl (decide (i = k))) H
theorem sc__law_is_1 : FnScope ["k", "error"] ["k", "error"] (defScope (top 62)) := ⟨rfl, rfl, rfl, by decide +kernel, rfl, by decide +kernel, by decide +kernel⟩
theorem bd__law_is_1 : BindsOk "_law_is_1" (top 62) ["k", "error"] := fun _ _ _ _ _ _ us hl => match us, hl with | [_, _], _ => rfl
theorem ok__law_is_1 {P : Program} {w : World} {K : PySem.W.Frag} {mg : PySem.Str → Option Value} {base : Heap} (fx : FX P w K mg base) : Kn P w K mg base 1 "_law_is_1" (top 62) ["k", "error"] (spIs 25) := by
  refine kn_raw fx.fa.d__law_is_1 sc__law_is_1 bd__law_is_1 (fun vs H Q E ⟨_, _, _, e, _⟩ => by rw [e]; rfl) fun f cdv A outer s H vs Q E hr ⟨k, a, i, e, l0, l1, li, hx, q⟩ => ⟨_, PSs.nox (pss_cons (ps_if (pt_cmpR op_eq (pv 0) pe_int (nomark _)) (pss_one (ps_ret (pe_callB call_isX rfl fx.fa.b_isinstance (by kernel_rfl) (pa_cons (pv 1) (pa_cons (pe_glob (v := V.ref (cC 25)) rfl (fx.g 25 (by decide)) rfl) pa_nil))))) pss_nil)
  (pss_cons (ps_if (pt_cmpR op_eq (pv 0) pe_int (nomark _)) (pss_one (ps_ret (pe_callB call_isX rfl fx.fa.b_isinstance (by kernel_rfl) (pa_cons (pv 1) (pa_cons (pe_glob (v := V.ref (cC 26)) rfl (fx.g 26 (by decide)) rfl) pa_nil))))) pss_nil)
  (pss_cons (ps_if (pt_cmpR op_eq (pv 0) pe_int (nomark _)) (pss_one (ps_ret (pe_callB call_isX rfl fx.fa.b_isinstance (by kernel_rfl) (pa_cons (pv 1) (pa_cons (pe_glob (v := V.ref (cC 27)) rfl (fx.g 27 (by decide)) rfl) pa_nil))))) pss_nil)
  (pss_cons (ps_if (pt_cmpR op_eq (pv 0) pe_int (nomark _)) (pss_one (ps_ret (pe_callB call_isX rfl fx.fa.b_isinstance (by kernel_rfl) (pa_cons (pv 1) (pa_cons (pe_glob (v := V.ref (cC 28)) rfl (fx.g 28 (by decide)) rfl) pa_nil))))) pss_nil)
  (pss_cons (ps_if (pt_cmpR op_eq (pv 0) pe_int (nomark _)) (pss_one (ps_ret (pe_callB call_isX rfl fx.fa.b_isinstance (by kernel_rfl) (pa_cons (pv 1) (pa_cons (pe_glob (v := V.ref (cC 29)) rfl (fx.g 29 (by decide)) rfl) pa_nil))))) pss_nil)
  (pss_cons (ps_if (pt_cmpR op_eq (pv 0) pe_int (nomark _)) (pss_one (ps_ret (pe_callB call_isX rfl fx.fa.b_isinstance (by kernel_rfl) (pa_cons (pv 1) (pa_cons (pe_glob (v := V.ref (cC 30)) rfl (fx.g 30 (by decide)) rfl) pa_nil))))) pss_nil)
  (pss_cons (ps_if (pt_cmpR op_eq (pv 0) pe_int (nomark _)) (pss_one (ps_ret (pe_callB call_isX rfl fx.fa.b_isinstance (by kernel_rfl) (pa_cons (pv 1) (pa_cons (pe_glob (v := V.ref (cC 31)) rfl (fx.g 31 (by decide)) rfl) pa_nil))))) pss_nil)
  (pss_cons (ps_if (pt_cmpR op_eq (pv 0) pe_int (nomark _)) (pss_one (ps_ret (pe_callB call_isX rfl fx.fa.b_isinstance (by kernel_rfl) (pa_cons (pv 1) (pa_cons (pe_glob (v := V.ref (cC 32)) rfl (fx.g 32 (by decide)) rfl) pa_nil))))) pss_nil)
  (pss_cons (ps_if (pt_cmpR op_eq (pv 0) pe_int (nomark _)) (pss_one (ps_ret (pe_callB call_isX rfl fx.fa.b_isinstance (by kernel_rfl) (pa_cons (pv 1) (pa_cons (pe_glob (v := V.ref (cC 33)) rfl (fx.g 33 (by decide)) rfl) pa_nil))))) pss_nil)
  (pss_cons (ps_if (pt_cmpR op_eq (pv 0) pe_int (nomark _)) (pss_one (ps_ret (pe_callB call_isX rfl fx.fa.b_isinstance (by kernel_rfl) (pa_cons (pv 1) (pa_cons (pe_glob (v := V.ref (cC 34)) rfl (fx.g 34 (by decide)) rfl) pa_nil))))) pss_nil)
  (pss_cons (ps_if (pt_cmpR op_eq (pv 0) pe_int (nomark _)) (pss_one (ps_ret (pe_callB call_isX rfl fx.fa.b_isinstance (by kernel_rfl) (pa_cons (pv 1) (pa_cons (pe_glob (v := V.ref (cC 35)) rfl (fx.g 35 (by decide)) rfl) pa_nil))))) pss_nil)
  (pss_cons (ps_if (pt_cmpR op_eq (pv 0) pe_int (nomark _)) (pss_one (ps_ret (pe_callB call_isX rfl fx.fa.b_isinstance (by kernel_rfl) (pa_cons (pv 1) (pa_cons (pe_glob (v := V.ref (cC 36)) rfl (fx.g 36 (by decide)) rfl) pa_nil))))) pss_nil)
  (pss_cons (ps_if (pt_cmpR op_eq (pv 0) pe_int (nomark _)) (pss_one (ps_ret (pe_callB call_isX rfl fx.fa.b_isinstance (by kernel_rfl) (pa_cons (pv 1) (pa_cons (pe_glob (v := V.ref (cC 37)) rfl (fx.g 37 (by decide)) rfl) pa_nil))))) pss_nil)
  (pss_cons (ps_if (pt_cmpR op_eq (pv 0) pe_int (nomark _)) (pss_one (ps_ret (pe_callB call_isX rfl fx.fa.b_isinstance (by kernel_rfl) (pa_cons (pv 1) (pa_cons (pe_glob (v := V.ref (cC 38)) rfl (fx.g 38 (by decide)) rfl) pa_nil))))) pss_nil)
  (pss_cons (ps_if (pt_cmpR op_eq (pv 0) pe_int (nomark _)) (pss_one (ps_ret (pe_callB call_isX rfl fx.fa.b_isinstance (by kernel_rfl) (pa_cons (pv 1) (pa_cons (pe_glob (v := V.ref (cC 39)) rfl (fx.g 39 (by decide)) rfl) pa_nil))))) pss_nil)
  (pss_cons (ps_if (pt_cmpR op_eq (pv 0) pe_int (nomark _)) (pss_one (ps_ret (pe_callB call_isX rfl fx.fa.b_isinstance (by kernel_rfl) (pa_cons (pv 1) (pa_cons (pe_glob (v := V.ref (cC 40)) rfl (fx.g 40 (by decide)) rfl) pa_nil))))) pss_nil)
  (pss_cons (ps_if (pt_cmpR op_eq (pv 0) pe_int (nomark _)) (pss_one (ps_ret (pe_callB call_isX rfl fx.fa.b_isinstance (by kernel_rfl) (pa_cons (pv 1) (pa_cons (pe_glob (v := V.ref (cC 41)) rfl (fx.g 41 (by decide)) rfl) pa_nil))))) pss_nil)
  (pss_cons (ps_if (pt_cmpR op_eq (pv 0) pe_int (nomark _)) (pss_one (ps_ret (pe_callB call_isX rfl fx.fa.b_isinstance (by kernel_rfl) (pa_cons (pv 1) (pa_cons (pe_glob (v := V.ref (cC 42)) rfl (fx.g 42 (by decide)) rfl) pa_nil))))) pss_nil)
  (pss_cons (ps_if (pt_cmpR op_eq (pv 0) pe_int (nomark _)) (pss_one (ps_ret (pe_callB call_isX rfl fx.fa.b_isinstance (by kernel_rfl) (pa_cons (pv 1) (pa_cons (pe_glob (v := V.ref (cC 43)) rfl (fx.g 43 (by decide)) rfl) pa_nil))))) pss_nil)
  (pss_cons (ps_if (pt_cmpR op_eq (pv 0) pe_int (nomark _)) (pss_one (ps_ret (pe_callB call_isX rfl fx.fa.b_isinstance (by kernel_rfl) (pa_cons (pv 1) (pa_cons (pe_glob (v := V.ref (cC 44)) rfl (fx.g 44 (by decide)) rfl) pa_nil))))) pss_nil)
  (pss_cons (ps_if (pt_cmpR op_eq (pv 0) pe_int (nomark _)) (pss_one (ps_ret (pe_callB call_isX rfl fx.fa.b_isinstance (by kernel_rfl) (pa_cons (pv 1) (pa_cons (pe_glob (v := V.ref (cC 45)) rfl (fx.g 45 (by decide)) rfl) pa_nil))))) pss_nil)
  (pss_cons (ps_if (pt_cmpR op_eq (pv 0) pe_int (nomark _)) (pss_one (ps_ret (pe_callB call_isX rfl fx.fa.b_isinstance (by kernel_rfl) (pa_cons (pv 1) (pa_cons (pe_glob (v := V.ref (cC 46)) rfl (fx.g 46 (by decide)) rfl) pa_nil))))) pss_nil)
  (pss_one (ps_ret pe_bl)))))))))))))))))))))))), ?_⟩
  subst e
  refine ⟨_, rfl, rfl, _, rfl, ite2 (fun e => ?_) (fun e25 => ?_)⟩
  · have e := Int.ofNat.inj (vint_of e)
    subst e
    exact ⟨_, rfl, a, cC i, _, _, _, rfl, hx, fx.isx i li, .own _, fx.kit i 25 li (by decide), q⟩
  have e25 := vint_no e25
  refine ⟨_, rfl, rfl, _, rfl, ite2 (fun e => ?_) (fun e26 => ?_)⟩
  · have e := Int.ofNat.inj (vint_of e)
    subst e
    exact ⟨_, rfl, a, cC i, _, _, _, rfl, hx, fx.isx i li, .own _, fx.kit i 26 li (by decide), q⟩
  have e26 := vint_no e26
  refine ⟨_, rfl, rfl, _, rfl, ite2 (fun e => ?_) (fun e27 => ?_)⟩
  · have e := Int.ofNat.inj (vint_of e)
    subst e
    exact ⟨_, rfl, a, cC i, _, _, _, rfl, hx, fx.isx i li, .own _, fx.kit i 27 li (by decide), q⟩
  have e27 := vint_no e27
  refine ⟨_, rfl, rfl, _, rfl, ite2 (fun e => ?_) (fun e28 => ?_)⟩
  · have e := Int.ofNat.inj (vint_of e)
    subst e
    exact ⟨_, rfl, a, cC i, _, _, _, rfl, hx, fx.isx i li, .own _, fx.kit i 28 li (by decide), q⟩
  have e28 := vint_no e28
  refine ⟨_, rfl, rfl, _, rfl, ite2 (fun e => ?_) (fun e29 => ?_)⟩
  · have e := Int.ofNat.inj (vint_of e)
    subst e
    exact ⟨_, rfl, a, cC i, _, _, _, rfl, hx, fx.isx i li, .own _, fx.kit i 29 li (by decide), q⟩
  have e29 := vint_no e29
  refine ⟨_, rfl, rfl, _, rfl, ite2 (fun e => ?_) (fun e30 => ?_)⟩
  · have e := Int.ofNat.inj (vint_of e)
    subst e
    exact ⟨_, rfl, a, cC i, _, _, _, rfl, hx, fx.isx i li, .own _, fx.kit i 30 li (by decide), q⟩
  have e30 := vint_no e30
  refine ⟨_, rfl, rfl, _, rfl, ite2 (fun e => ?_) (fun e31 => ?_)⟩
  · have e := Int.ofNat.inj (vint_of e)
    subst e
    exact ⟨_, rfl, a, cC i, _, _, _, rfl, hx, fx.isx i li, .own _, fx.kit i 31 li (by decide), q⟩
  have e31 := vint_no e31
  refine ⟨_, rfl, rfl, _, rfl, ite2 (fun e => ?_) (fun e32 => ?_)⟩
  · have e := Int.ofNat.inj (vint_of e)
    subst e
    exact ⟨_, rfl, a, cC i, _, _, _, rfl, hx, fx.isx i li, .own _, fx.kit i 32 li (by decide), q⟩
  have e32 := vint_no e32
  refine ⟨_, rfl, rfl, _, rfl, ite2 (fun e => ?_) (fun e33 => ?_)⟩
  · have e := Int.ofNat.inj (vint_of e)
    subst e
    exact ⟨_, rfl, a, cC i, _, _, _, rfl, hx, fx.isx i li, .own _, fx.kit i 33 li (by decide), q⟩
  have e33 := vint_no e33
  refine ⟨_, rfl, rfl, _, rfl, ite2 (fun e => ?_) (fun e34 => ?_)⟩
  · have e := Int.ofNat.inj (vint_of e)
    subst e
    exact ⟨_, rfl, a, cC i, _, _, _, rfl, hx, fx.isx i li, .own _, fx.kit i 34 li (by decide), q⟩
  have e34 := vint_no e34
  refine ⟨_, rfl, rfl, _, rfl, ite2 (fun e => ?_) (fun e35 => ?_)⟩
  · have e := Int.ofNat.inj (vint_of e)
    subst e
    exact ⟨_, rfl, a, cC i, _, _, _, rfl, hx, fx.isx i li, .own _, fx.kit i 35 li (by decide), q⟩
  have e35 := vint_no e35
  refine ⟨_, rfl, rfl, _, rfl, ite2 (fun e => ?_) (fun e36 => ?_)⟩
  · have e := Int.ofNat.inj (vint_of e)
    subst e
    exact ⟨_, rfl, a, cC i, _, _, _, rfl, hx, fx.isx i li, .own _, fx.kit i 36 li (by decide), q⟩
  have e36 := vint_no e36
  refine ⟨_, rfl, rfl, _, rfl, ite2 (fun e => ?_) (fun e37 => ?_)⟩
  · have e := Int.ofNat.inj (vint_of e)
    subst e
    exact ⟨_, rfl, a, cC i, _, _, _, rfl, hx, fx.isx i li, .own _, fx.kit i 37 li (by decide), q⟩
  have e37 := vint_no e37
  refine ⟨_, rfl, rfl, _, rfl, ite2 (fun e => ?_) (fun e38 => ?_)⟩
  · have e := Int.ofNat.inj (vint_of e)
    subst e
    exact ⟨_, rfl, a, cC i, _, _, _, rfl, hx, fx.isx i li, .own _, fx.kit i 38 li (by decide), q⟩
  have e38 := vint_no e38
  refine ⟨_, rfl, rfl, _, rfl, ite2 (fun e => ?_) (fun e39 => ?_)⟩
  · have e := Int.ofNat.inj (vint_of e)
    subst e
    exact ⟨_, rfl, a, cC i, _, _, _, rfl, hx, fx.isx i li, .own _, fx.kit i 39 li (by decide), q⟩
  have e39 := vint_no e39
  refine ⟨_, rfl, rfl, _, rfl, ite2 (fun e => ?_) (fun e40 => ?_)⟩
  · have e := Int.ofNat.inj (vint_of e)
    subst e
    exact ⟨_, rfl, a, cC i, _, _, _, rfl, hx, fx.isx i li, .own _, fx.kit i 40 li (by decide), q⟩
  have e40 := vint_no e40
  refine ⟨_, rfl, rfl, _, rfl, ite2 (fun e => ?_) (fun e41 => ?_)⟩
  · have e := Int.ofNat.inj (vint_of e)
    subst e
    exact ⟨_, rfl, a, cC i, _, _, _, rfl, hx, fx.isx i li, .own _, fx.kit i 41 li (by decide), q⟩
  have e41 := vint_no e41
  refine ⟨_, rfl, rfl, _, rfl, ite2 (fun e => ?_) (fun e42 => ?_)⟩
  · have e := Int.ofNat.inj (vint_of e)
    subst e
    exact ⟨_, rfl, a, cC i, _, _, _, rfl, hx, fx.isx i li, .own _, fx.kit i 42 li (by decide), q⟩
  have e42 := vint_no e42
  refine ⟨_, rfl, rfl, _, rfl, ite2 (fun e => ?_) (fun e43 => ?_)⟩
  · have e := Int.ofNat.inj (vint_of e)
    subst e
    exact ⟨_, rfl, a, cC i, _, _, _, rfl, hx, fx.isx i li, .own _, fx.kit i 43 li (by decide), q⟩
  have e43 := vint_no e43
  refine ⟨_, rfl, rfl, _, rfl, ite2 (fun e => ?_) (fun e44 => ?_)⟩
  · have e := Int.ofNat.inj (vint_of e)
    subst e
    exact ⟨_, rfl, a, cC i, _, _, _, rfl, hx, fx.isx i li, .own _, fx.kit i 44 li (by decide), q⟩
  have e44 := vint_no e44
  refine ⟨_, rfl, rfl, _, rfl, ite2 (fun e => ?_) (fun e45 => ?_)⟩
  · have e := Int.ofNat.inj (vint_of e)
    subst e
    exact ⟨_, rfl, a, cC i, _, _, _, rfl, hx, fx.isx i li, .own _, fx.kit i 45 li (by decide), q⟩
  have e45 := vint_no e45
  refine ⟨_, rfl, rfl, _, rfl, ite2 (fun e => ?_) (fun e46 => ?_)⟩
  · have e := Int.ofNat.inj (vint_of e)
    subst e
    exact ⟨_, rfl, a, cC i, _, _, _, rfl, hx, fx.isx i li, .own _, fx.kit i 46 li (by decide), q⟩
  have e46 := vint_no e46
  omega
theorem sc__law_is_0 : FnScope ["k", "error"] ["k", "error"] (defScope (top 61)) := ⟨rfl, rfl, rfl, by decide +kernel, rfl, by decide +kernel, by decide +kernel⟩
theorem bd__law_is_0 : BindsOk "_law_is_0" (top 61) ["k", "error"] := fun _ _ _ _ _ _ us hl => match us, hl with | [_, _], _ => rfl
theorem ok__law_is_0 {P : Program} {w : World} {K : PySem.W.Frag} {mg : PySem.Str → Option Value} {base : Heap} (fx : FX P w K mg base) : Kn P w K mg base 2 "_law_is_0" (top 61) ["k", "error"] (spIs 0) := by
  refine kn_raw fx.fa.d__law_is_0 sc__law_is_0 bd__law_is_0 (fun vs H Q E ⟨_, _, _, e, _⟩ => by rw [e]; rfl) fun f cdv A outer s H vs Q E hr ⟨k, a, i, e, l0, l1, li, hx, q⟩ => ⟨_, PSs.nox (pss_cons (ps_if (pt_cmpR op_eq (pv 0) pe_int (nomark _)) (pss_one (ps_ret (pe_callB call_isX rfl fx.fa.b_isinstance (by kernel_rfl) (pa_cons (pv 1) (pa_cons (pe_glob (v := V.ref (cC 0)) rfl (fx.g 0 (by decide)) rfl) pa_nil))))) pss_nil)
  (pss_cons (ps_if (pt_cmpR op_eq (pv 0) pe_int (nomark _)) (pss_one (ps_ret (pe_callB call_isX rfl fx.fa.b_isinstance (by kernel_rfl) (pa_cons (pv 1) (pa_cons (pe_glob (v := V.ref (cC 1)) rfl (fx.g 1 (by decide)) rfl) pa_nil))))) pss_nil)
  (pss_cons (ps_if (pt_cmpR op_eq (pv 0) pe_int (nomark _)) (pss_one (ps_ret (pe_callB call_isX rfl fx.fa.b_isinstance (by kernel_rfl) (pa_cons (pv 1) (pa_cons (pe_glob (v := V.ref (cC 2)) rfl (fx.g 2 (by decide)) rfl) pa_nil))))) pss_nil)
  (pss_cons (ps_if (pt_cmpR op_eq (pv 0) pe_int (nomark _)) (pss_one (ps_ret (pe_callB call_isX rfl fx.fa.b_isinstance (by kernel_rfl) (pa_cons (pv 1) (pa_cons (pe_glob (v := V.ref (cC 3)) rfl (fx.g 3 (by decide)) rfl) pa_nil))))) pss_nil)
  (pss_cons (ps_if (pt_cmpR op_eq (pv 0) pe_int (nomark _)) (pss_one (ps_ret (pe_callB call_isX rfl fx.fa.b_isinstance (by kernel_rfl) (pa_cons (pv 1) (pa_cons (pe_glob (v := V.ref (cC 4)) rfl (fx.g 4 (by decide)) rfl) pa_nil))))) pss_nil)
  (pss_cons (ps_if (pt_cmpR op_eq (pv 0) pe_int (nomark _)) (pss_one (ps_ret (pe_callB call_isX rfl fx.fa.b_isinstance (by kernel_rfl) (pa_cons (pv 1) (pa_cons (pe_glob (v := V.ref (cC 5)) rfl (fx.g 5 (by decide)) rfl) pa_nil))))) pss_nil)
  (pss_cons (ps_if (pt_cmpR op_eq (pv 0) pe_int (nomark _)) (pss_one (ps_ret (pe_callB call_isX rfl fx.fa.b_isinstance (by kernel_rfl) (pa_cons (pv 1) (pa_cons (pe_glob (v := V.ref (cC 6)) rfl (fx.g 6 (by decide)) rfl) pa_nil))))) pss_nil)
  (pss_cons (ps_if (pt_cmpR op_eq (pv 0) pe_int (nomark _)) (pss_one (ps_ret (pe_callB call_isX rfl fx.fa.b_isinstance (by kernel_rfl) (pa_cons (pv 1) (pa_cons (pe_glob (v := V.ref (cC 7)) rfl (fx.g 7 (by decide)) rfl) pa_nil))))) pss_nil)
  (pss_cons (ps_if (pt_cmpR op_eq (pv 0) pe_int (nomark _)) (pss_one (ps_ret (pe_callB call_isX rfl fx.fa.b_isinstance (by kernel_rfl) (pa_cons (pv 1) (pa_cons (pe_glob (v := V.ref (cC 8)) rfl (fx.g 8 (by decide)) rfl) pa_nil))))) pss_nil)
  (pss_cons (ps_if (pt_cmpR op_eq (pv 0) pe_int (nomark _)) (pss_one (ps_ret (pe_callB call_isX rfl fx.fa.b_isinstance (by kernel_rfl) (pa_cons (pv 1) (pa_cons (pe_glob (v := V.ref (cC 9)) rfl (fx.g 9 (by decide)) rfl) pa_nil))))) pss_nil)
  (pss_cons (ps_if (pt_cmpR op_eq (pv 0) pe_int (nomark _)) (pss_one (ps_ret (pe_callB call_isX rfl fx.fa.b_isinstance (by kernel_rfl) (pa_cons (pv 1) (pa_cons (pe_glob (v := V.ref (cC 10)) rfl (fx.g 10 (by decide)) rfl) pa_nil))))) pss_nil)
  (pss_cons (ps_if (pt_cmpR op_eq (pv 0) pe_int (nomark _)) (pss_one (ps_ret (pe_callB call_isX rfl fx.fa.b_isinstance (by kernel_rfl) (pa_cons (pv 1) (pa_cons (pe_glob (v := V.ref (cC 11)) rfl (fx.g 11 (by decide)) rfl) pa_nil))))) pss_nil)
  (pss_cons (ps_if (pt_cmpR op_eq (pv 0) pe_int (nomark _)) (pss_one (ps_ret (pe_callB call_isX rfl fx.fa.b_isinstance (by kernel_rfl) (pa_cons (pv 1) (pa_cons (pe_glob (v := V.ref (cC 12)) rfl (fx.g 12 (by decide)) rfl) pa_nil))))) pss_nil)
  (pss_cons (ps_if (pt_cmpR op_eq (pv 0) pe_int (nomark _)) (pss_one (ps_ret (pe_callB call_isX rfl fx.fa.b_isinstance (by kernel_rfl) (pa_cons (pv 1) (pa_cons (pe_glob (v := V.ref (cC 13)) rfl (fx.g 13 (by decide)) rfl) pa_nil))))) pss_nil)
  (pss_cons (ps_if (pt_cmpR op_eq (pv 0) pe_int (nomark _)) (pss_one (ps_ret (pe_callB call_isX rfl fx.fa.b_isinstance (by kernel_rfl) (pa_cons (pv 1) (pa_cons (pe_glob (v := V.ref (cC 14)) rfl (fx.g 14 (by decide)) rfl) pa_nil))))) pss_nil)
  (pss_cons (ps_if (pt_cmpR op_eq (pv 0) pe_int (nomark _)) (pss_one (ps_ret (pe_callB call_isX rfl fx.fa.b_isinstance (by kernel_rfl) (pa_cons (pv 1) (pa_cons (pe_glob (v := V.ref (cC 15)) rfl (fx.g 15 (by decide)) rfl) pa_nil))))) pss_nil)
  (pss_cons (ps_if (pt_cmpR op_eq (pv 0) pe_int (nomark _)) (pss_one (ps_ret (pe_callB call_isX rfl fx.fa.b_isinstance (by kernel_rfl) (pa_cons (pv 1) (pa_cons (pe_glob (v := V.ref (cC 16)) rfl (fx.g 16 (by decide)) rfl) pa_nil))))) pss_nil)
  (pss_cons (ps_if (pt_cmpR op_eq (pv 0) pe_int (nomark _)) (pss_one (ps_ret (pe_callB call_isX rfl fx.fa.b_isinstance (by kernel_rfl) (pa_cons (pv 1) (pa_cons (pe_glob (v := V.ref (cC 17)) rfl (fx.g 17 (by decide)) rfl) pa_nil))))) pss_nil)
  (pss_cons (ps_if (pt_cmpR op_eq (pv 0) pe_int (nomark _)) (pss_one (ps_ret (pe_callB call_isX rfl fx.fa.b_isinstance (by kernel_rfl) (pa_cons (pv 1) (pa_cons (pe_glob (v := V.ref (cC 18)) rfl (fx.g 18 (by decide)) rfl) pa_nil))))) pss_nil)
  (pss_cons (ps_if (pt_cmpR op_eq (pv 0) pe_int (nomark _)) (pss_one (ps_ret (pe_callB call_isX rfl fx.fa.b_isinstance (by kernel_rfl) (pa_cons (pv 1) (pa_cons (pe_glob (v := V.ref (cC 19)) rfl (fx.g 19 (by decide)) rfl) pa_nil))))) pss_nil)
  (pss_cons (ps_if (pt_cmpR op_eq (pv 0) pe_int (nomark _)) (pss_one (ps_ret (pe_callB call_isX rfl fx.fa.b_isinstance (by kernel_rfl) (pa_cons (pv 1) (pa_cons (pe_glob (v := V.ref (cC 20)) rfl (fx.g 20 (by decide)) rfl) pa_nil))))) pss_nil)
  (pss_cons (ps_if (pt_cmpR op_eq (pv 0) pe_int (nomark _)) (pss_one (ps_ret (pe_callB call_isX rfl fx.fa.b_isinstance (by kernel_rfl) (pa_cons (pv 1) (pa_cons (pe_glob (v := V.ref (cC 21)) rfl (fx.g 21 (by decide)) rfl) pa_nil))))) pss_nil)
  (pss_cons (ps_if (pt_cmpR op_eq (pv 0) pe_int (nomark _)) (pss_one (ps_ret (pe_callB call_isX rfl fx.fa.b_isinstance (by kernel_rfl) (pa_cons (pv 1) (pa_cons (pe_glob (v := V.ref (cC 22)) rfl (fx.g 22 (by decide)) rfl) pa_nil))))) pss_nil)
  (pss_cons (ps_if (pt_cmpR op_eq (pv 0) pe_int (nomark _)) (pss_one (ps_ret (pe_callB call_isX rfl fx.fa.b_isinstance (by kernel_rfl) (pa_cons (pv 1) (pa_cons (pe_glob (v := V.ref (cC 23)) rfl (fx.g 23 (by decide)) rfl) pa_nil))))) pss_nil)
  (pss_cons (ps_if (pt_cmpR op_eq (pv 0) pe_int (nomark _)) (pss_one (ps_ret (pe_callB call_isX rfl fx.fa.b_isinstance (by kernel_rfl) (pa_cons (pv 1) (pa_cons (pe_glob (v := V.ref (cC 24)) rfl (fx.g 24 (by decide)) rfl) pa_nil))))) pss_nil)
  (pss_one (ps_ret (pe_kn (Kn.mono (ok__law_is_1 fx) (by decide)) hr rfl (pa_cons (pv 0) (pa_cons (pv 1) pa_nil)))))))))))))))))))))))))))))), ?_⟩
  subst e
  refine ⟨_, rfl, rfl, _, rfl, ite2 (fun e => ?_) (fun e0 => ?_)⟩
  · have e := Int.ofNat.inj (vint_of e)
    subst e
    exact ⟨_, rfl, a, cC i, _, _, _, rfl, hx, fx.isx i li, .own _, fx.kit i 0 li (by decide), q⟩
  have e0 := vint_no e0
  refine ⟨_, rfl, rfl, _, rfl, ite2 (fun e => ?_) (fun e1 => ?_)⟩
  · have e := Int.ofNat.inj (vint_of e)
    subst e
    exact ⟨_, rfl, a, cC i, _, _, _, rfl, hx, fx.isx i li, .own _, fx.kit i 1 li (by decide), q⟩
  have e1 := vint_no e1
  refine ⟨_, rfl, rfl, _, rfl, ite2 (fun e => ?_) (fun e2 => ?_)⟩
  · have e := Int.ofNat.inj (vint_of e)
    subst e
    exact ⟨_, rfl, a, cC i, _, _, _, rfl, hx, fx.isx i li, .own _, fx.kit i 2 li (by decide), q⟩
  have e2 := vint_no e2
  refine ⟨_, rfl, rfl, _, rfl, ite2 (fun e => ?_) (fun e3 => ?_)⟩
  · have e := Int.ofNat.inj (vint_of e)
    subst e
    exact ⟨_, rfl, a, cC i, _, _, _, rfl, hx, fx.isx i li, .own _, fx.kit i 3 li (by decide), q⟩
  have e3 := vint_no e3
  refine ⟨_, rfl, rfl, _, rfl, ite2 (fun e => ?_) (fun e4 => ?_)⟩
  · have e := Int.ofNat.inj (vint_of e)
    subst e
    exact ⟨_, rfl, a, cC i, _, _, _, rfl, hx, fx.isx i li, .own _, fx.kit i 4 li (by decide), q⟩
  have e4 := vint_no e4
  refine ⟨_, rfl, rfl, _, rfl, ite2 (fun e => ?_) (fun e5 => ?_)⟩
  · have e := Int.ofNat.inj (vint_of e)
    subst e
    exact ⟨_, rfl, a, cC i, _, _, _, rfl, hx, fx.isx i li, .own _, fx.kit i 5 li (by decide), q⟩
  have e5 := vint_no e5
  refine ⟨_, rfl, rfl, _, rfl, ite2 (fun e => ?_) (fun e6 => ?_)⟩
  · have e := Int.ofNat.inj (vint_of e)
    subst e
    exact ⟨_, rfl, a, cC i, _, _, _, rfl, hx, fx.isx i li, .own _, fx.kit i 6 li (by decide), q⟩
  have e6 := vint_no e6
  refine ⟨_, rfl, rfl, _, rfl, ite2 (fun e => ?_) (fun e7 => ?_)⟩
  · have e := Int.ofNat.inj (vint_of e)
    subst e
    exact ⟨_, rfl, a, cC i, _, _, _, rfl, hx, fx.isx i li, .own _, fx.kit i 7 li (by decide), q⟩
  have e7 := vint_no e7
  refine ⟨_, rfl, rfl, _, rfl, ite2 (fun e => ?_) (fun e8 => ?_)⟩
  · have e := Int.ofNat.inj (vint_of e)
    subst e
    exact ⟨_, rfl, a, cC i, _, _, _, rfl, hx, fx.isx i li, .own _, fx.kit i 8 li (by decide), q⟩
  have e8 := vint_no e8
  refine ⟨_, rfl, rfl, _, rfl, ite2 (fun e => ?_) (fun e9 => ?_)⟩
  · have e := Int.ofNat.inj (vint_of e)
    subst e
    exact ⟨_, rfl, a, cC i, _, _, _, rfl, hx, fx.isx i li, .own _, fx.kit i 9 li (by decide), q⟩
  have e9 := vint_no e9
  refine ⟨_, rfl, rfl, _, rfl, ite2 (fun e => ?_) (fun e10 => ?_)⟩
  · have e := Int.ofNat.inj (vint_of e)
    subst e
    exact ⟨_, rfl, a, cC i, _, _, _, rfl, hx, fx.isx i li, .own _, fx.kit i 10 li (by decide), q⟩
  have e10 := vint_no e10
  refine ⟨_, rfl, rfl, _, rfl, ite2 (fun e => ?_) (fun e11 => ?_)⟩
  · have e := Int.ofNat.inj (vint_of e)
    subst e
    exact ⟨_, rfl, a, cC i, _, _, _, rfl, hx, fx.isx i li, .own _, fx.kit i 11 li (by decide), q⟩
  have e11 := vint_no e11
  refine ⟨_, rfl, rfl, _, rfl, ite2 (fun e => ?_) (fun e12 => ?_)⟩
  · have e := Int.ofNat.inj (vint_of e)
    subst e
    exact ⟨_, rfl, a, cC i, _, _, _, rfl, hx, fx.isx i li, .own _, fx.kit i 12 li (by decide), q⟩
  have e12 := vint_no e12
  refine ⟨_, rfl, rfl, _, rfl, ite2 (fun e => ?_) (fun e13 => ?_)⟩
  · have e := Int.ofNat.inj (vint_of e)
    subst e
    exact ⟨_, rfl, a, cC i, _, _, _, rfl, hx, fx.isx i li, .own _, fx.kit i 13 li (by decide), q⟩
  have e13 := vint_no e13
  refine ⟨_, rfl, rfl, _, rfl, ite2 (fun e => ?_) (fun e14 => ?_)⟩
  · have e := Int.ofNat.inj (vint_of e)
    subst e
    exact ⟨_, rfl, a, cC i, _, _, _, rfl, hx, fx.isx i li, .own _, fx.kit i 14 li (by decide), q⟩
  have e14 := vint_no e14
  refine ⟨_, rfl, rfl, _, rfl, ite2 (fun e => ?_) (fun e15 => ?_)⟩
  · have e := Int.ofNat.inj (vint_of e)
    subst e
    exact ⟨_, rfl, a, cC i, _, _, _, rfl, hx, fx.isx i li, .own _, fx.kit i 15 li (by decide), q⟩
  have e15 := vint_no e15
  refine ⟨_, rfl, rfl, _, rfl, ite2 (fun e => ?_) (fun e16 => ?_)⟩
  · have e := Int.ofNat.inj (vint_of e)
    subst e
    exact ⟨_, rfl, a, cC i, _, _, _, rfl, hx, fx.isx i li, .own _, fx.kit i 16 li (by decide), q⟩
  have e16 := vint_no e16
  refine ⟨_, rfl, rfl, _, rfl, ite2 (fun e => ?_) (fun e17 => ?_)⟩
  · have e := Int.ofNat.inj (vint_of e)
    subst e
    exact ⟨_, rfl, a, cC i, _, _, _, rfl, hx, fx.isx i li, .own _, fx.kit i 17 li (by decide), q⟩
  have e17 := vint_no e17
  refine ⟨_, rfl, rfl, _, rfl, ite2 (fun e => ?_) (fun e18 => ?_)⟩
  · have e := Int.ofNat.inj (vint_of e)
    subst e
    exact ⟨_, rfl, a, cC i, _, _, _, rfl, hx, fx.isx i li, .own _, fx.kit i 18 li (by decide), q⟩
  have e18 := vint_no e18
  refine ⟨_, rfl, rfl, _, rfl, ite2 (fun e => ?_) (fun e19 => ?_)⟩
  · have e := Int.ofNat.inj (vint_of e)
    subst e
    exact ⟨_, rfl, a, cC i, _, _, _, rfl, hx, fx.isx i li, .own _, fx.kit i 19 li (by decide), q⟩
  have e19 := vint_no e19
  refine ⟨_, rfl, rfl, _, rfl, ite2 (fun e => ?_) (fun e20 => ?_)⟩
  · have e := Int.ofNat.inj (vint_of e)
    subst e
    exact ⟨_, rfl, a, cC i, _, _, _, rfl, hx, fx.isx i li, .own _, fx.kit i 20 li (by decide), q⟩
  have e20 := vint_no e20
  refine ⟨_, rfl, rfl, _, rfl, ite2 (fun e => ?_) (fun e21 => ?_)⟩
  · have e := Int.ofNat.inj (vint_of e)
    subst e
    exact ⟨_, rfl, a, cC i, _, _, _, rfl, hx, fx.isx i li, .own _, fx.kit i 21 li (by decide), q⟩
  have e21 := vint_no e21
  refine ⟨_, rfl, rfl, _, rfl, ite2 (fun e => ?_) (fun e22 => ?_)⟩
  · have e := Int.ofNat.inj (vint_of e)
    subst e
    exact ⟨_, rfl, a, cC i, _, _, _, rfl, hx, fx.isx i li, .own _, fx.kit i 22 li (by decide), q⟩
  have e22 := vint_no e22
  refine ⟨_, rfl, rfl, _, rfl, ite2 (fun e => ?_) (fun e23 => ?_)⟩
  · have e := Int.ofNat.inj (vint_of e)
    subst e
    exact ⟨_, rfl, a, cC i, _, _, _, rfl, hx, fx.isx i li, .own _, fx.kit i 23 li (by decide), q⟩
  have e23 := vint_no e23
  refine ⟨_, rfl, rfl, _, rfl, ite2 (fun e => ?_) (fun e24 => ?_)⟩
  · have e := Int.ofNat.inj (vint_of e)
    subst e
    exact ⟨_, rfl, a, cC i, _, _, _, rfl, hx, fx.isx i li, .own _, fx.kit i 24 li (by decide), q⟩
  have e24 := vint_no e24
  have l2 : 25 ≤ k := by omega
  exact ⟨_, rfl, _, rfl, k, a, i, rfl, l2, l1, li, hx, q⟩
/-- the fields of an error made with v -/
def spFields : Sp := fun vs H Q _ => ∃ (k : Nat) (a : Addr) (v : V), vs = [.int k, .ref a] ∧ k < 47 ∧ MadeX H a (cC k) (cF k) v ∧ ∀ p H', H p = none → (∀ c u, H c = some u → H' c = some u) → H' p = some (.lst (match cF k with | none => [] | some _ => [v])) → Q (.ref p) H'
theorem fr_upd {H : Hp} {p : Addr} {o : HO} (n : H p = none) : ∀ c u, H c = some u → upd H p o c = some u := fun c u q => by rw [upd_ne (ne_of_none q n)]; exact q
theorem none_upd {H : Hp} {t p : Addr} {o : HO} (h : upd H t o p = none) : H p = none := by
  by_cases c : p = t
  · subst c; rw [upd_same] at h; cases h
  · rw [upd_ne c] at h; exact h
theorem z100 {n : Nat} (h : n ≤ 100) : n ≤ sizeLine := by rw [sizeLine_eq]; omega
theorem fk0 : ∀ k : Nat, k < 47 → inV (.int (k : Int)) [.int 33, .int 35, .int 36, .int 39, .int 42, .int 43, .int 44, .int 45, .int 46] = true → cF k = none := by decide +kernel
theorem fk1 : ∀ k : Nat, k < 47 → inV (.int (k : Int)) [.int 34, .int 38] = true → cF k = (some ("name" : PySem.Str) : Option PySem.Str) := by decide +kernel
theorem fk2 : ∀ k : Nat, k < 47 → inV (.int (k : Int)) [.int 37] = true → cF k = (some ("power" : PySem.Str) : Option PySem.Str) := by decide +kernel
theorem fk3 : ∀ k : Nat, k < 47 → inV (.int (k : Int)) [.int 40] = true → cF k = (some ("walk" : PySem.Str) : Option PySem.Str) := by decide +kernel
theorem fk4 : ∀ k : Nat, k < 47 → inV (.int (k : Int)) [.int 41] = true → cF k = (some ("index" : PySem.Str) : Option PySem.Str) := by decide +kernel
theorem fkl : ∀ k : Nat, k < 47 → (inV (.int (k : Int)) [.int 33, .int 35, .int 36, .int 39, .int 42, .int 43, .int 44, .int 45, .int 46] || inV (.int (k : Int)) [.int 34, .int 38] || inV (.int (k : Int)) [.int 37] || inV (.int (k : Int)) [.int 40] || inV (.int (k : Int)) [.int 41]) = false → cF k = (some ("given" : PySem.Str) : Option PySem.Str) := by decide +kernel
theorem sc__law_fields : FnScope ["k", "error"] ["k", "error"] (defScope (top 63)) := ⟨rfl, rfl, rfl, by decide +kernel, rfl, by decide +kernel, by decide +kernel⟩
theorem bd__law_fields : BindsOk "_law_fields" (top 63) ["k", "error"] := fun _ _ _ _ _ _ us hl => match us, hl with | [_, _], _ => rfl
theorem ok__law_fields {P : Program} {w : World} {K : PySem.W.Frag} {mg : PySem.Str → Option Value} {base : Heap} (fx : FX P w K mg base) : Kn P w K mg base 1 "_law_fields" (top 63) ["k", "error"] spFields := by
  refine kn_raw fx.fa.d__law_fields sc__law_fields bd__law_fields (fun vs H Q E ⟨_, _, _, e, _⟩ => by rw [e]; rfl) fun f cdv A outer s H vs Q E hr ⟨k, a, v, e, l1, M, q⟩ => ⟨_, PSs.nox (pss_cons (ps_if (pt_cmpR op_in_seq (pv 0) (pe_tup (pa_cons pe_int (pa_cons pe_int (pa_cons pe_int (pa_cons pe_int (pa_cons pe_int (pa_cons pe_int (pa_cons pe_int (pa_cons pe_int (pa_cons pe_int pa_nil)))))))))) (by with_unfolding_all rfl)) (pss_one (ps_ret (pe_lst pa_nil))) pss_nil)
  (pss_cons (ps_if (pt_cmpR op_in_seq (pv 0) (pe_tup (pa_cons pe_int (pa_cons pe_int pa_nil))) (by with_unfolding_all rfl)) (pss_one (ps_ret (pe_lst (pa_cons (pe_xv (pv 1)) pa_nil)))) pss_nil)
  (pss_cons (ps_if (pt_cmpR op_in_seq (pv 0) (pe_tup (pa_cons pe_int pa_nil)) (by with_unfolding_all rfl)) (pss_one (ps_ret (pe_lst (pa_cons (pe_xv (pv 1)) pa_nil)))) pss_nil)
  (pss_cons (ps_if (pt_cmpR op_in_seq (pv 0) (pe_tup (pa_cons pe_int pa_nil)) (by with_unfolding_all rfl)) (pss_one (ps_ret (pe_lst (pa_cons (pe_xv (pv 1)) pa_nil)))) pss_nil)
  (pss_cons (ps_if (pt_cmpR op_in_seq (pv 0) (pe_tup (pa_cons pe_int pa_nil)) (by with_unfolding_all rfl)) (pss_one (ps_ret (pe_lst (pa_cons (pe_xv (pv 1)) pa_nil)))) pss_nil)
  (pss_one (ps_ret (pe_lst (pa_cons (pe_xv (pv 1)) pa_nil))))))))), ?_⟩
  subst e
  refine ⟨.int k, rfl, z100 (by decide), fun t0 n0 => ⟨t0, _, rfl, .inr (.inl (.inl upd_same)), rfl, rfl, _, rfl, ite2 (fun e => ?_) (fun e0 => ?_)⟩⟩
  · have ef := fk0 k l1 e
    rw [ef] at q
    exact ⟨z100 (by decide), fun p np => q p _ (none_upd np) (fun c u z => fr_upd np c u (fr_upd n0 c u z)) upd_same⟩
  refine ⟨.int k, rfl, z100 (by decide), fun t1 n1 => ⟨t1, _, rfl, .inr (.inl (.inl upd_same)), rfl, rfl, _, rfl, ite2 (fun e => ?_) (fun e1 => ?_)⟩⟩
  · have ef := fk1 k l1 e
    have X := fx.ex k l1
    rw [ef] at q X M
    cases M with
    | field h hd hn => exact ⟨_, rfl, a, cC k, _, _, v, rfl, X.xf, X.fld _ rfl, fr_upd n1 _ _ (fr_upd n0 _ _ (h)), fr_upd n1 _ _ (fr_upd n0 _ _ (hd)), rfl, z100 (by show 1 ≤ 100; omega), fun p np => q p _ (none_upd (none_upd (np))) (fun c u z => fr_upd np c u (fr_upd n1 c u (fr_upd n0 c u (z)))) upd_same⟩
  refine ⟨.int k, rfl, z100 (by decide), fun t2 n2 => ⟨t2, _, rfl, .inr (.inl (.inl upd_same)), rfl, rfl, _, rfl, ite2 (fun e => ?_) (fun e2 => ?_)⟩⟩
  · have ef := fk2 k l1 e
    have X := fx.ex k l1
    rw [ef] at q X M
    cases M with
    | field h hd hn => exact ⟨_, rfl, a, cC k, _, _, v, rfl, X.xf, X.fld _ rfl, fr_upd n2 _ _ (fr_upd n1 _ _ (fr_upd n0 _ _ (h))), fr_upd n2 _ _ (fr_upd n1 _ _ (fr_upd n0 _ _ (hd))), rfl, z100 (by show 1 ≤ 100; omega), fun p np => q p _ (none_upd (none_upd (none_upd (np)))) (fun c u z => fr_upd np c u (fr_upd n2 c u (fr_upd n1 c u (fr_upd n0 c u (z))))) upd_same⟩
  refine ⟨.int k, rfl, z100 (by decide), fun t3 n3 => ⟨t3, _, rfl, .inr (.inl (.inl upd_same)), rfl, rfl, _, rfl, ite2 (fun e => ?_) (fun e3 => ?_)⟩⟩
  · have ef := fk3 k l1 e
    have X := fx.ex k l1
    rw [ef] at q X M
    cases M with
    | field h hd hn => exact ⟨_, rfl, a, cC k, _, _, v, rfl, X.xf, X.fld _ rfl, fr_upd n3 _ _ (fr_upd n2 _ _ (fr_upd n1 _ _ (fr_upd n0 _ _ (h)))), fr_upd n3 _ _ (fr_upd n2 _ _ (fr_upd n1 _ _ (fr_upd n0 _ _ (hd)))), rfl, z100 (by show 1 ≤ 100; omega), fun p np => q p _ (none_upd (none_upd (none_upd (none_upd (np))))) (fun c u z => fr_upd np c u (fr_upd n3 c u (fr_upd n2 c u (fr_upd n1 c u (fr_upd n0 c u (z)))))) upd_same⟩
  refine ⟨.int k, rfl, z100 (by decide), fun t4 n4 => ⟨t4, _, rfl, .inr (.inl (.inl upd_same)), rfl, rfl, _, rfl, ite2 (fun e => ?_) (fun e4 => ?_)⟩⟩
  · have ef := fk4 k l1 e
    have X := fx.ex k l1
    rw [ef] at q X M
    cases M with
    | field h hd hn => exact ⟨_, rfl, a, cC k, _, _, v, rfl, X.xf, X.fld _ rfl, fr_upd n4 _ _ (fr_upd n3 _ _ (fr_upd n2 _ _ (fr_upd n1 _ _ (fr_upd n0 _ _ (h))))), fr_upd n4 _ _ (fr_upd n3 _ _ (fr_upd n2 _ _ (fr_upd n1 _ _ (fr_upd n0 _ _ (hd))))), rfl, z100 (by show 1 ≤ 100; omega), fun p np => q p _ (none_upd (none_upd (none_upd (none_upd (none_upd (np)))))) (fun c u z => fr_upd np c u (fr_upd n4 c u (fr_upd n3 c u (fr_upd n2 c u (fr_upd n1 c u (fr_upd n0 c u (z))))))) upd_same⟩
  have ef := fkl k l1 (by simp only [Bool.or_eq_false_iff]; exact ⟨⟨⟨⟨Bool.eq_false_iff.mpr e0, Bool.eq_false_iff.mpr e1⟩, Bool.eq_false_iff.mpr e2⟩, Bool.eq_false_iff.mpr e3⟩, Bool.eq_false_iff.mpr e4⟩)
  have X := fx.ex k l1
  rw [ef] at q X M
  cases M with
  | field h hd hn => exact ⟨_, rfl, a, cC k, _, _, v, rfl, X.xf, X.fld _ rfl, fr_upd n4 _ _ (fr_upd n3 _ _ (fr_upd n2 _ _ (fr_upd n1 _ _ (fr_upd n0 _ _ (h))))), fr_upd n4 _ _ (fr_upd n3 _ _ (fr_upd n2 _ _ (fr_upd n1 _ _ (fr_upd n0 _ _ (hd))))), rfl, z100 (by show 1 ≤ 100; omega), fun p np => q p _ (none_upd (none_upd (none_upd (none_upd (none_upd (np)))))) (fun c u z => fr_upd np c u (fr_upd n4 c u (fr_upd n3 c u (fr_upd n2 c u (fr_upd n1 c u (fr_upd n0 c u (z))))))) upd_same⟩
/-- an error raised: of class k, or of class 0 -/
def spRaised : Sp := fun vs H _ E => ∃ (k : Nat) (v : V), vs = [.int k, v] ∧ k < 47 ∧ ∀ i od H', i < 47 → (i = k ∨ i = 0) → Left H (cC i) od H' → E (.ref (cC i)) od H'
structure KnX (P : Program) (w : World) (K : PySem.W.Frag) (mg : PySem.Str → Option Value) (base : Heap) (k : Nat) (x : PySem.Str) (st : Stmt) (ps : List PySem.Str) (sp : Sp) : Prop where
  ex : ∃ f fd, mg x = some (.ref f) ∧ FunD K x x (defArgs st) (defBody st) (defScope st) [] [] f fd ∧ FnOk P w K mg base (L2.CX P w) k f fd ps sp ∧ L2.Binds K fd ps []
theorem sc__law_raised : FnScope ["k", "one"] ["k", "one"] (defScope (top 64)) := ⟨rfl, rfl, rfl, by decide +kernel, rfl, by decide +kernel, by decide +kernel⟩
theorem bd__law_raised : BindsOk "_law_raised" (top 64) ["k", "one"] := fun _ _ _ _ _ _ us hl => match us, hl with | [_, _], _ => rfl
theorem ok__law_raised {P : Program} {w : World} {K : PySem.W.Frag} {mg : PySem.Str → Option Value} {base : Heap} (fx : FX P w K mg base) : KnX P w K mg base 3 "_law_raised" (top 64) ["k", "one"] spRaised := by
  obtain ⟨f, fd, hm, F⟩ := fx.fa.d__law_raised.ex
  refine ⟨f, fd, hm, F, F.ok sc__law_raised (fun vs H Q E ⟨_, _, e, _⟩ => by rw [e]; rfl) fun cdv A outer s H vs Q E hr ⟨k, v, e, l1, q⟩ => ⟨_, (pss_cons (ps_if (pt_cmpR op_eq (pv 0) pe_int (nomark _)) (pss_one (ps_raise rfl (takes_of rfl rfl rfl rfl) (pmk_held rfl (pe_mk (fx.ex 2 (by decide)) (fx.ini 2 (by decide)) (hr.mono (by decide)) rfl (fx.g 2 (by decide)) (pv 1))))) pss_nil)
  (pss_cons (ps_if (pt_cmpR op_eq (pv 0) pe_int (nomark _)) (pss_one (ps_raise rfl (takes_of rfl rfl rfl rfl) (pmk_held rfl (pe_mk (fx.ex 5 (by decide)) (fx.ini 5 (by decide)) (hr.mono (by decide)) rfl (fx.g 5 (by decide)) (pv 1))))) pss_nil)
  (pss_cons (ps_if (pt_cmpR op_eq (pv 0) pe_int (nomark _)) (pss_one (ps_raise rfl (takes_of rfl rfl rfl rfl) (pmk_held rfl (pe_mk (fx.ex 8 (by decide)) (fx.ini 8 (by decide)) (hr.mono (by decide)) rfl (fx.g 8 (by decide)) (pv 1))))) pss_nil)
  (pss_cons (ps_if (pt_cmpR op_eq (pv 0) pe_int (nomark _)) (pss_one (ps_raise rfl (takes_of rfl rfl rfl rfl) (pmk_held rfl (pe_mk (fx.ex 11 (by decide)) (fx.ini 11 (by decide)) (hr.mono (by decide)) rfl (fx.g 11 (by decide)) (pv 1))))) pss_nil)
  (pss_cons (ps_if (pt_cmpR op_eq (pv 0) pe_int (nomark _)) (pss_one (ps_raise rfl (takes_of rfl rfl rfl rfl) (pmk_held rfl (pe_mk (fx.ex 14 (by decide)) (fx.ini 14 (by decide)) (hr.mono (by decide)) rfl (fx.g 14 (by decide)) (pv 1))))) pss_nil)
  (pss_cons (ps_if (pt_cmpR op_eq (pv 0) pe_int (nomark _)) (pss_one (ps_raise rfl (takes_of rfl rfl rfl rfl) (pmk_held rfl (pe_mk (fx.ex 17 (by decide)) (fx.ini 17 (by decide)) (hr.mono (by decide)) rfl (fx.g 17 (by decide)) (pv 1))))) pss_nil)
  (pss_cons (ps_if (pt_cmpR op_eq (pv 0) pe_int (nomark _)) (pss_one (ps_raise rfl (takes_of rfl rfl rfl rfl) (pmk_held rfl (pe_mk (fx.ex 20 (by decide)) (fx.ini 20 (by decide)) (hr.mono (by decide)) rfl (fx.g 20 (by decide)) (pv 1))))) pss_nil)
  (pss_cons (ps_if (pt_cmpR op_eq (pv 0) pe_int (nomark _)) (pss_one (ps_raise rfl (takes_of rfl rfl rfl rfl) (pmk_held rfl (pe_mk (fx.ex 23 (by decide)) (fx.ini 23 (by decide)) (hr.mono (by decide)) rfl (fx.g 23 (by decide)) (pv 1))))) pss_nil)
  (pss_cons (ps_if (pt_cmpR op_eq (pv 0) pe_int (nomark _)) (pss_one (ps_raise rfl (takes_of rfl rfl rfl rfl) (pmk_held rfl (pe_mk (fx.ex 26 (by decide)) (fx.ini 26 (by decide)) (hr.mono (by decide)) rfl (fx.g 26 (by decide)) (pv 1))))) pss_nil)
  (pss_cons (ps_if (pt_cmpR op_eq (pv 0) pe_int (nomark _)) (pss_one (ps_raise rfl (takes_of rfl rfl rfl rfl) (pmk_held rfl (pe_mk (fx.ex 29 (by decide)) (fx.ini 29 (by decide)) (hr.mono (by decide)) rfl (fx.g 29 (by decide)) (pv 1))))) pss_nil)
  (pss_cons (ps_if (pt_cmpR op_eq (pv 0) pe_int (nomark _)) (pss_one (ps_raise rfl (takes_of rfl rfl rfl rfl) (pmk_held rfl (pe_mk (fx.ex 32 (by decide)) (fx.ini 32 (by decide)) (hr.mono (by decide)) rfl (fx.g 32 (by decide)) (pv 1))))) pss_nil)
  (pss_cons (ps_if (pt_cmpR op_eq (pv 0) pe_int (nomark _)) (pss_one (ps_raise rfl (takes_of rfl rfl rfl rfl) (pmk_held rfl (pe_mk0 (fx.ex 35 (by decide)) (fx.ini 35 (by decide)) (hr.mono (by decide)) rfl (fx.g 35 (by decide)))))) pss_nil)
  (pss_cons (ps_if (pt_cmpR op_eq (pv 0) pe_int (nomark _)) (pss_one (ps_raise rfl (takes_of rfl rfl rfl rfl) (pmk_held rfl (pe_mk (fx.ex 38 (by decide)) (fx.ini 38 (by decide)) (hr.mono (by decide)) rfl (fx.g 38 (by decide)) (pv 1))))) pss_nil)
  (pss_cons (ps_if (pt_cmpR op_eq (pv 0) pe_int (nomark _)) (pss_one (ps_raise rfl (takes_of rfl rfl rfl rfl) (pmk_held rfl (pe_mk (fx.ex 41 (by decide)) (fx.ini 41 (by decide)) (hr.mono (by decide)) rfl (fx.g 41 (by decide)) (pv 1))))) pss_nil)
  (pss_cons (ps_if (pt_cmpR op_eq (pv 0) pe_int (nomark _)) (pss_one (ps_raise rfl (takes_of rfl rfl rfl rfl) (pmk_held rfl (pe_mk0 (fx.ex 44 (by decide)) (fx.ini 44 (by decide)) (hr.mono (by decide)) rfl (fx.g 44 (by decide)))))) pss_nil)
  (pss_one (ps_raise rfl (takes_of rfl rfl rfl rfl) (pmk_held rfl (pe_mk (fx.ex 0 (by decide)) (fx.ini 0 (by decide)) (hr.mono (by decide)) rfl (fx.g 0 (by decide)) (pv 1)))))))))))))))))))), ?_⟩, F.bindsN bd__law_raised⟩
  subst e
  refine ⟨_, rfl, rfl, _, rfl, ite2 (fun e => ?_) (fun e2 => ?_)⟩
  · have e := Int.ofNat.inj (vint_of e)
    subst e
    exact ⟨_, rfl, fun a H' na m M => by
        obtain ⟨od, e1, L⟩ := left_of na m M
        exact ⟨a, _, od, rfl, e1, fr0_none na, raises_own (fx.ex 2 (by decide)).oex.exC (fx.ex 2 (by decide)).oex.tyC, q 2 od _ (by decide) (.inl rfl) L⟩⟩
  refine ⟨_, rfl, rfl, _, rfl, ite2 (fun e => ?_) (fun e5 => ?_)⟩
  · have e := Int.ofNat.inj (vint_of e)
    subst e
    exact ⟨_, rfl, fun a H' na m M => by
        obtain ⟨od, e1, L⟩ := left_of na m M
        exact ⟨a, _, od, rfl, e1, fr0_none na, raises_own (fx.ex 5 (by decide)).oex.exC (fx.ex 5 (by decide)).oex.tyC, q 5 od _ (by decide) (.inl rfl) L⟩⟩
  refine ⟨_, rfl, rfl, _, rfl, ite2 (fun e => ?_) (fun e8 => ?_)⟩
  · have e := Int.ofNat.inj (vint_of e)
    subst e
    exact ⟨_, rfl, fun a H' na m M => by
        obtain ⟨od, e1, L⟩ := left_of na m M
        exact ⟨a, _, od, rfl, e1, fr0_none na, raises_own (fx.ex 8 (by decide)).oex.exC (fx.ex 8 (by decide)).oex.tyC, q 8 od _ (by decide) (.inl rfl) L⟩⟩
  refine ⟨_, rfl, rfl, _, rfl, ite2 (fun e => ?_) (fun e11 => ?_)⟩
  · have e := Int.ofNat.inj (vint_of e)
    subst e
    exact ⟨_, rfl, fun a H' na m M => by
        obtain ⟨od, e1, L⟩ := left_of na m M
        exact ⟨a, _, od, rfl, e1, fr0_none na, raises_own (fx.ex 11 (by decide)).oex.exC (fx.ex 11 (by decide)).oex.tyC, q 11 od _ (by decide) (.inl rfl) L⟩⟩
  refine ⟨_, rfl, rfl, _, rfl, ite2 (fun e => ?_) (fun e14 => ?_)⟩
  · have e := Int.ofNat.inj (vint_of e)
    subst e
    exact ⟨_, rfl, fun a H' na m M => by
        obtain ⟨od, e1, L⟩ := left_of na m M
        exact ⟨a, _, od, rfl, e1, fr0_none na, raises_own (fx.ex 14 (by decide)).oex.exC (fx.ex 14 (by decide)).oex.tyC, q 14 od _ (by decide) (.inl rfl) L⟩⟩
  refine ⟨_, rfl, rfl, _, rfl, ite2 (fun e => ?_) (fun e17 => ?_)⟩
  · have e := Int.ofNat.inj (vint_of e)
    subst e
    exact ⟨_, rfl, fun a H' na m M => by
        obtain ⟨od, e1, L⟩ := left_of na m M
        exact ⟨a, _, od, rfl, e1, fr0_none na, raises_own (fx.ex 17 (by decide)).oex.exC (fx.ex 17 (by decide)).oex.tyC, q 17 od _ (by decide) (.inl rfl) L⟩⟩
  refine ⟨_, rfl, rfl, _, rfl, ite2 (fun e => ?_) (fun e20 => ?_)⟩
  · have e := Int.ofNat.inj (vint_of e)
    subst e
    exact ⟨_, rfl, fun a H' na m M => by
        obtain ⟨od, e1, L⟩ := left_of na m M
        exact ⟨a, _, od, rfl, e1, fr0_none na, raises_own (fx.ex 20 (by decide)).oex.exC (fx.ex 20 (by decide)).oex.tyC, q 20 od _ (by decide) (.inl rfl) L⟩⟩
  refine ⟨_, rfl, rfl, _, rfl, ite2 (fun e => ?_) (fun e23 => ?_)⟩
  · have e := Int.ofNat.inj (vint_of e)
    subst e
    exact ⟨_, rfl, fun a H' na m M => by
        obtain ⟨od, e1, L⟩ := left_of na m M
        exact ⟨a, _, od, rfl, e1, fr0_none na, raises_own (fx.ex 23 (by decide)).oex.exC (fx.ex 23 (by decide)).oex.tyC, q 23 od _ (by decide) (.inl rfl) L⟩⟩
  refine ⟨_, rfl, rfl, _, rfl, ite2 (fun e => ?_) (fun e26 => ?_)⟩
  · have e := Int.ofNat.inj (vint_of e)
    subst e
    exact ⟨_, rfl, fun a H' na m M => by
        obtain ⟨od, e1, L⟩ := left_of na m M
        exact ⟨a, _, od, rfl, e1, fr0_none na, raises_own (fx.ex 26 (by decide)).oex.exC (fx.ex 26 (by decide)).oex.tyC, q 26 od _ (by decide) (.inl rfl) L⟩⟩
  refine ⟨_, rfl, rfl, _, rfl, ite2 (fun e => ?_) (fun e29 => ?_)⟩
  · have e := Int.ofNat.inj (vint_of e)
    subst e
    exact ⟨_, rfl, fun a H' na m M => by
        obtain ⟨od, e1, L⟩ := left_of na m M
        exact ⟨a, _, od, rfl, e1, fr0_none na, raises_own (fx.ex 29 (by decide)).oex.exC (fx.ex 29 (by decide)).oex.tyC, q 29 od _ (by decide) (.inl rfl) L⟩⟩
  refine ⟨_, rfl, rfl, _, rfl, ite2 (fun e => ?_) (fun e32 => ?_)⟩
  · have e := Int.ofNat.inj (vint_of e)
    subst e
    exact ⟨_, rfl, fun a H' na m M => by
        obtain ⟨od, e1, L⟩ := left_of na m M
        exact ⟨a, _, od, rfl, e1, fr0_none na, raises_own (fx.ex 32 (by decide)).oex.exC (fx.ex 32 (by decide)).oex.tyC, q 32 od _ (by decide) (.inl rfl) L⟩⟩
  refine ⟨_, rfl, rfl, _, rfl, ite2 (fun e => ?_) (fun e35 => ?_)⟩
  · have e := Int.ofNat.inj (vint_of e)
    subst e
    exact fun a H' na m M => by
        obtain ⟨od, e1, L⟩ := left_of na m M
        exact ⟨a, _, od, rfl, e1, fr0_none na, raises_own (fx.ex 35 (by decide)).oex.exC (fx.ex 35 (by decide)).oex.tyC, q 35 od _ (by decide) (.inl rfl) L⟩
  refine ⟨_, rfl, rfl, _, rfl, ite2 (fun e => ?_) (fun e38 => ?_)⟩
  · have e := Int.ofNat.inj (vint_of e)
    subst e
    exact ⟨_, rfl, fun a H' na m M => by
        obtain ⟨od, e1, L⟩ := left_of na m M
        exact ⟨a, _, od, rfl, e1, fr0_none na, raises_own (fx.ex 38 (by decide)).oex.exC (fx.ex 38 (by decide)).oex.tyC, q 38 od _ (by decide) (.inl rfl) L⟩⟩
  refine ⟨_, rfl, rfl, _, rfl, ite2 (fun e => ?_) (fun e41 => ?_)⟩
  · have e := Int.ofNat.inj (vint_of e)
    subst e
    exact ⟨_, rfl, fun a H' na m M => by
        obtain ⟨od, e1, L⟩ := left_of na m M
        exact ⟨a, _, od, rfl, e1, fr0_none na, raises_own (fx.ex 41 (by decide)).oex.exC (fx.ex 41 (by decide)).oex.tyC, q 41 od _ (by decide) (.inl rfl) L⟩⟩
  refine ⟨_, rfl, rfl, _, rfl, ite2 (fun e => ?_) (fun e44 => ?_)⟩
  · have e := Int.ofNat.inj (vint_of e)
    subst e
    exact fun a H' na m M => by
        obtain ⟨od, e1, L⟩ := left_of na m M
        exact ⟨a, _, od, rfl, e1, fr0_none na, raises_own (fx.ex 44 (by decide)).oex.exC (fx.ex 44 (by decide)).oex.tyC, q 44 od _ (by decide) (.inl rfl) L⟩
  exact ⟨_, rfl, fun a H' na m M => by
        obtain ⟨od, e1, L⟩ := left_of na m M
        exact ⟨a, _, od, rfl, e1, fr0_none na, raises_own (fx.ex 0 (by decide)).oex.exC (fx.ex 0 (by decide)).oex.tyC, q 0 od _ (by decide) (.inr rfl) L⟩⟩
end TT
set_option Elab.async false
set_option linter.all false
set_option maxRecDepth 100000
set_option maxHeartbeats 4000000
namespace TT
open PySem PySem.Spec PyProof.Rows L2 DL
section
variable {W : Wd} {F F' H H' : Hp} {v : V} {d : D}
/-- the frozen lists and tuples alone -/
def seqs (F : Hp) : Hp := fun b => match F b with
  | some (.lst xs) => some (.lst xs)
  | some (.tup xs) => some (.tup xs)
  | _ => none
theorem seqs_le : Le (seqs F) F := fun b u e => by
  unfold seqs at e
  split at e <;> first | (rename_i q; rw [q]; exact e) | cases e
theorem seqs_lst {b : Addr} {xs : List V} (h : F b = some (.lst xs)) : seqs F b = some (.lst xs) := by unfold seqs; rw [h]
theorem seqs_tup {b : Addr} {xs : List V} (h : F b = some (.tup xs)) : seqs F b = some (.tup xs) := by unfold seqs; rw [h]
/-- frozen lists and tuples of the heap -/
structure Fz (F H : Hp) : Prop where
  rd : ∀ b u, F b = some u → Rd H b u
  sq : ∀ b u, F b = some u → (∃ xs, u = .lst xs) ∨ ∃ xs, u = .tup xs
theorem seqs_sq : ∀ b u, seqs F b = some u → (∃ xs, u = .lst xs) ∨ ∃ xs, u = .tup xs := fun b u e => by
  unfold seqs at e
  split at e
  · cases e; exact .inl ⟨_, rfl⟩
  · cases e; exact .inr ⟨_, rfl⟩
  · cases e
theorem Fz.nfz (z : Fz F H) : ∀ (a : Addr) (o : Obj) (u : HO), F a ≠ some (.frz o u) := fun a o u e => by
  rcases z.sq a _ e with ⟨xs, q⟩ | ⟨xs, q⟩ <;> cases q
theorem rp_seqs (nz : ∀ (a : Addr) (o : Obj) (u : HO), F a ≠ some (.frz o u)) : ∀ n {v : V} {d : D}, good n d → Rp W F v d → Rp W (seqs F) v d
  | 0, _, _, g, _ => g.elim
  | n + 1, v, d, g, r => by
    have all : ∀ {vs : List V} {ds : List D}, (∀ x ∈ ds, good n x) → RpAll W F vs ds → RpAll W (seqs F) vs ds := fun {vs ds} h r => by
      induction ds generalizing vs with
      | nil => cases r; exact .nil
      | cons d ds ih =>
        cases r with
        | cons a b => exact .cons (rp_seqs nz n (h d List.mem_cons_self) a) (ih (fun x m => h x (List.mem_cons_of_mem _ m)) b)
    cases r with
    | non => exact .non
    | bl b => exact .bl b
    | int i => exact .int i
    | str x => exact .str x
    | lst h ra => exact .lst (seqs_lst h) (all g.2 ra)
    | tup h ra =>
      refine .tup ?_ (all g.2 ra)
      rcases h with (h | ⟨o, h⟩) | h
      · exact .inl (.inl (seqs_tup h))
      · exact absurd h (nz _ _ _)
      · exact .inr h
    | dic h _ => exact g.elim
theorem rpAll_seqs (nz : ∀ (a : Addr) (o : Obj) (u : HO), F a ≠ some (.frz o u)) {n : Nat} : ∀ {vs : List V} {ds : List D}, (∀ x ∈ ds, good n x) → RpAll W F vs ds → RpAll W (seqs F) vs ds
  | _, _, _, .nil => .nil
  | _, _, h, .cons a b =>   .cons (rp_seqs nz n (h _ List.mem_cons_self) a) (rpAll_seqs nz (fun x m => h x (List.mem_cons_of_mem _ m)) b)
/-- from one state to a later one: what stood stands (but at a), what was not frozen stays so -/
structure Step (x : Option Addr) (F H F' H' : Hp) : Prop where
  le : Le F F'
  keep : ∀ b u, some b ≠ x → H b = some u → H' b = some u
  thaw : ∀ b u, H b = some u → F b = none → F' b = none
  fz : Fz F' H'
theorem Step.refl {x : Option Addr} (z : Fz F H) : Step x F H F H := ⟨Le.refl F, fun _ _ _ q => q, fun _ _ _ q => q, z⟩
theorem Step.trans {x : Option Addr} {F2 H2 : Hp} (hx : ∀ a, x = some a → ∃ u, H' a = some u) (a : Step x F H F' H') (b : Step x F' H' F2 H2) : Step x F H F2 H2 :=
  ⟨a.le.trans b.le, fun c u n q => b.keep c u n (a.keep c u n q), fun c u q n => by
    by_cases e : some c = x
    · obtain ⟨u', q'⟩ := hx c e.symm
      exact b.thaw c u' q' (a.thaw c u q n)
    · exact b.thaw c u (a.keep c u e q) (a.thaw c u q n), b.fz⟩
/-- what a call gives -/
def Res (W : Wd) (F' H H' : Hp) (v : V) : RV → Prop
  | .pure d => ∀ n, good n d → Rp W F' v d
  | .tmp (.lst ds) => ∃ p xs, v = .ref p ∧ H p = none ∧ H' p = some (.lst xs) ∧ F' p = none ∧ ∀ n, (∀ x ∈ ds, good n x) → RpAll W F' xs ds
  | _ => True
theorem keepE {u : HO} {a : Addr} (z : Fz F H) (bN : ∀ b u, H b = some u → F b = none → F' b = none) (l : Le F F') (ha : H a = some u) (k : Kept W F' H' a u) : H' a = some u := by
  rcases k with k | ⟨q, ⟨xs, e⟩, _⟩
  · exact k
  · cases hf : F a with
    | none => rw [bN a u ha hf] at q; cases q
    | some u' =>
      have := l a u' hf
      rw [q] at this
      cases this
      rcases z.sq a _ hf with ⟨ys, e'⟩ | ⟨ys, e'⟩ <;> rw [e] at e' <;> cases e'
theorem callP {pre : List DV → Prop} {post : List DV → RV → Prop} {vs : List V} {ds : List D} {Q : VK} {E : XK} (z : Fz F H) (hv : RpAll W F vs ds) (hp : pre (ds.map DV.pure))
    (k : ∀ r v F' H', post (ds.map DV.pure) r → Step none F H F' H' → Res W F' H H' v r → Q v H') : spP W (spS pre post) vs H Q E := by
  have hl := hv.length
  have at_ : ∀ (i : Nat) (dv : DV), HasD ((ds.map DV.pure).map some) i dv → ∃ d v, dv = .pure d ∧ HasV (vs.map some) i v ∧ Rp W F v d := fun i dv e => by
    unfold HasD at e
    rw [List.map_map, List.getElem?_map] at e
    cases q : ds[i]? with
    | none => rw [q] at e; cases e
    | some d =>
      rw [q] at e
      cases e
      obtain ⟨v, e1, r⟩ := hv.get q
      exact ⟨d, v, rfl, by unfold HasV; rw [List.getElem?_map, e1]; rfl, r⟩
  refine ⟨F, ds.map DV.pure, fun d m => ?_, ⟨by simp [hl], z.rd, z.nfz, fun i dv e => ?_, fun i j a ob ob' _ e => ?_, fun i a ob e => ?_, Le.refl F, fun a u e _ => .inl e, fun a u _ _ f => f, fun a e => e.elim, fun p q => nomatch q⟩, hp, fun r hr v F' H' l J ok => ?_⟩
  · obtain ⟨x, _, rfl⟩ := List.mem_map.mp m
    trivial
  · obtain ⟨d, v, rfl, hv, r⟩ := at_ i dv e
    exact ⟨v, hv, r⟩
  · obtain ⟨_, _, q, _⟩ := at_ i _ e
    cases q
  · obtain ⟨_, _, q, _⟩ := at_ i _ e
    cases q
  · have bN : ∀ b u, H b = some u → F b = none → F' b = none := fun b u q f => J.bN b u q (fun z => z) f
    have st : Step none F H (seqs F') H' := ⟨fun b u e => by
        rcases z.sq b u e with ⟨xs, rfl⟩ | ⟨xs, rfl⟩
        · exact seqs_lst (l _ _ e)
        · exact seqs_tup (l _ _ e), fun b u _ q => keepE z bN l q (J.bH b u q fun z => z), fun b u q f => by unfold seqs; rw [bN b u q f], ⟨fun b u e => J.fle b u (seqs_le b u e), seqs_sq⟩⟩
    refine k r v (seqs F') H' hr st ?_
    cases r with
    | pure d => exact fun n g => rp_seqs J.nfz n g ok
    | slot i => trivial
    | raw v => trivial
    | tmp o =>
      cases o with
      | dic _ => trivial
      | lst es =>
        obtain ⟨p, u, rfl, f, h, ⟨xs, rfl, ra⟩, hn, _⟩ := ok
        exact ⟨p, xs, rfl, hn, h, by unfold seqs; rw [f], fun n g => rpAll_seqs J.nfz g ra⟩
theorem callI {pre : OB → List DV → Prop} {post : OB → List DV → RV → OB → Prop} {a : Addr} {xs ws : List V} {ds es : List D} {Q : VK} {E : XK} (z : Fz F H) (fa : F a = none) (ha : H a = some (.lst xs)) (hx : RpAll W F xs ds) (hv : RpAll W F ws es) (hp : pre (.lst ds) (es.map DV.pure))
    (k : ∀ r o' v F' H', post (.lst ds) (es.map DV.pure) r o' → (∀ ds', o' = .lst ds' → ∃ xs', H' a = some (.lst xs') ∧ ∀ n, (∀ x ∈ ds', good n x) → RpAll W F' xs' ds') → F' a = none → Step (some a) F H F' H' → Res W F' H H' v r → Q v H') : spI W (spT pre post) (.ref a :: ws) H Q E := by
  have hl := hv.length
  have at_ : ∀ (i : Nat) (dv : DV), HasD (some (.own (.lst ds)) :: (es.map DV.pure).map some) i dv → (i = 0 ∧ dv = .own (.lst ds)) ∨ ∃ d v, dv = .pure d ∧ HasV (some (.ref a) :: ws.map some) i v ∧ Rp W F v d := fun i dv e => by
    unfold HasD at e
    cases i with
    | zero => left; exact ⟨rfl, by simpa using e.symm⟩
    | succ i =>
      right
      rw [List.getElem?_cons_succ, List.map_map, List.getElem?_map] at e
      cases q : es[i]? with
      | none => rw [q] at e; cases e
      | some d =>
        rw [q] at e
        cases e
        obtain ⟨v, e1, r⟩ := hv.get q
        exact ⟨d, v, rfl, by unfold HasV; rw [List.getElem?_cons_succ, List.getElem?_map, e1]; rfl, r⟩
  refine ⟨F, a, .lst ds, es.map DV.pure, fun d m => ?_, ⟨by simp [hl], z.rd, z.nfz, fun i dv e => ?_, fun i j b ob ob' n e e' => ?_, fun i b ob e h => ?_, Le.refl F, fun a u e _ => .inl e, fun a u _ _ f => f, fun b e => ⟨_, by subst e; exact ha⟩, fun p q => ?_⟩, hp, fun r o' hr v F' H' l J ok => ?_⟩
  · obtain ⟨x, _, rfl⟩ := List.mem_map.mp m
    trivial
  · rcases at_ i dv e with ⟨rfl, rfl⟩ | ⟨d, v, rfl, hv, r⟩
    · exact ⟨.ref a, rfl, a, _, rfl, fa, ha, xs, rfl, hx⟩
    · exact ⟨v, hv, r⟩
  · rcases at_ i _ e with ⟨rfl, _⟩ | ⟨_, _, q, _⟩
    · rcases at_ j _ e' with ⟨rfl, _⟩ | ⟨_, _, q, _⟩
      · exact absurd rfl n
      · cases q
    · cases q
  · rcases at_ i _ e with ⟨rfl, _⟩ | ⟨_, _, q, _⟩
    · unfold HasV at h
      simp at h
      exact .inl h.symm
    · cases q
  · rcases List.mem_cons.mp q with e | e
    · subst e; rfl
    · cases e
  · obtain ⟨v0, hv0, b, u, e0, f0, h0, or⟩ := J.sl 0 (.own o') rfl
    unfold HasV at hv0
    simp at hv0
    subst hv0
    cases e0
    have bN : ∀ b u, b ≠ a → H b = some u → F b = none → F' b = none := fun b u n q f => J.bN b u q n f
    have kp : ∀ b u, some b ≠ some a → H b = some u → H' b = some u := fun b u n q => by
      have n : b ≠ a := fun e => n (by rw [e])
      rcases J.bH b u q n with k | ⟨q2, ⟨ys, e⟩, _⟩
      · exact k
      · cases hf : F b with
        | none => rw [bN b u n q hf] at q2; cases q2
        | some u' =>
          have := l b u' hf
          rw [q2] at this
          cases this
          rcases z.sq b _ hf with ⟨zs, e'⟩ | ⟨zs, e'⟩
          · rw [e] at e'; cases e'
          · rw [e] at e'; cases e'
    have th : ∀ b u, H b = some u → F b = none → seqs F' b = none := fun b u q f => by
      unfold seqs
      by_cases c : b = a
      · rw [c, f0]
      · rw [bN b u c q f]
    have le : Le F (seqs F') := fun b u e => by
      rcases z.sq b u e with ⟨xs, rfl⟩ | ⟨xs, rfl⟩
      · exact seqs_lst (l _ _ e)
      · exact seqs_tup (l _ _ e)
    have st : Step (some a) F H (seqs F') H' := ⟨le, kp, th, ⟨fun b u e => J.fle b u (seqs_le b u e), seqs_sq⟩⟩
    refine k r o' v (seqs F') H' hr (fun ds' e => ?_) (by unfold seqs; rw [f0]) st ?_
    · subst e
      obtain ⟨xs', rfl, ra⟩ := or
      exact ⟨xs', h0, fun n g => rpAll_seqs J.nfz g ra⟩
    cases r with
    | pure d => exact fun n g => rp_seqs J.nfz n g ok
    | slot i => trivial
    | raw v => trivial
    | tmp o =>
      cases o with
      | dic _ => trivial
      | lst es =>
        obtain ⟨p, u, rfl, f, h, ⟨xs, rfl, ra⟩, hn, _⟩ := ok
        exact ⟨p, xs, rfl, hn, h, by unfold seqs; rw [f], fun n g => rpAll_seqs J.nfz g ra⟩
/-- a value: plain, or a list that may be written -/
def Val (W : Wd) (F H : Hp) (v : V) (d : D) : Prop := (Rp W F v d ∧ ∀ xs, d ≠ .list xs) ∨ ∃ p xs ds, v = .ref p ∧ d = .list ds ∧ H p = some (.lst xs) ∧ F p = none ∧ RpAll W F xs ds
theorem Val.step {v : V} {d : D} {x : Option Addr} (h : Val W F H v d) (s : Step x F H F' H') (hx : ∀ p, v = .ref p → some p ≠ x) : Val W F' H' v d := by
  rcases h with ⟨r, n⟩ | ⟨p, xs, ds, rfl, rfl, hp, fp, r⟩
  · exact .inl ⟨r.mono s.le, n⟩
  · exact .inr ⟨p, xs, ds, rfl, rfl, s.keep p _ (hx p rfl) hp, s.thaw p _ hp fp, r.mono s.le⟩
theorem Val.rp {v : V} {d : D} (z : Fz F H) (h : Val W F H v d) : ∃ F1, Fz F1 H ∧ Le F F1 ∧ Rp W F1 v d := by
  rcases h with ⟨r, n⟩ | ⟨p, xs, ds, rfl, rfl, hp, fp, r⟩
  · exact ⟨F, z, Le.refl F, r⟩
  · refine ⟨upd F p (.lst xs), ⟨fun b u e => ?_, fun b u e => ?_⟩, Le.upd fp, .lst upd_same (r.mono (Le.upd fp))⟩
    · by_cases c : b = p
      · subst c; rw [upd_same] at e; cases e; exact .inl hp
      · rw [upd_ne c] at e; exact z.rd b u e
    · by_cases c : b = p
      · subst c; rw [upd_same] at e; cases e; exact .inl ⟨_, rfl⟩
      · rw [upd_ne c] at e; exact z.sq b u e
theorem Val.kty {X : Cx} {v : V} {d : D} (z : Fz F H) (h : Val (wdOf X) F H v d) (g : good 6 d) : KTy X H v (.type (tyD d)) := by
  rcases h with ⟨r, n⟩ | ⟨p, xs, ds, rfl, rfl, hp, fp, r⟩
  · cases r with
    | non => exact .of (.base .non)
    | bl b => exact .of (.base (.bl b))
    | int i => exact .of (.base (.int i))
    | str x => exact .of (.base (.str x))
    | lst _ _ => exact absurd rfl (n _)
    | tup hs _ =>
      rcases hs with (q | ⟨o, q⟩) | ⟨o, its, m, q, c, _⟩
      · rcases z.rd _ _ q with q | ⟨o, q⟩
        · exact .of (.base (.tup q))
        · exact .of (.fTuple q)
      · exact absurd q (z.nfz _ _ _)
      · exact .of (.kTuple q c)
    | dic _ _ => exact g.elim
  · exact .of (.base (.lst hp))
theorem sameRp {v1 v2 : V} {d : D} {Q : VK} {E : XK} (z : Fz F H) (r1 : Rp W F v1 d) (r2 : Rp W F v2 d) (g : good 6 d) (q : ∀ H', (∀ b u, H b = some u → H' b = some u) → Q (.bl true) H') : spP W S__law_same [v1, v2] H Q E :=
  callP z (.cons r1 (.cons r2 .nil)) ⟨d, rfl, g⟩ fun r v F' H' hr st res => by
    have e : r = _ := hr
    subst e
    cases res 1 trivial
    exact q H' fun b u e => st.keep b u (by simp) e
theorem good_mono : ∀ {n m : Nat} {d : D}, n ≤ m → good n d → good m d
  | 0, _, _, _, g => g.elim
  | n + 1, 0, _, h, _ => by omega
  | n + 1, m + 1, d, h, g => by
    cases d with
    | list ds => exact ⟨g.1, fun x hx => good_mono (by omega) (g.2 x hx)⟩
    | tuple ds => exact ⟨g.1, fun x hx => good_mono (by omega) (g.2 x hx)⟩
    | none => trivial
    | bool _ => trivial
    | int _ => trivial
    | str _ => exact g
    | dict _ => exact g.elim
theorem rp_isList {v : V} {ds : List D} (h : Rp W F v (.list ds)) : ∃ a xs, v = .ref a ∧ F a = some (.lst xs) ∧ RpAll W F xs ds := by
  cases h with
  | lst a b => exact ⟨_, _, rfl, a, b⟩
end
def spBlamed (W : Wd) : Sp := fun vs H Q _ => ∃ (F : Hp) (v : V) (d : D), vs = [v, v] ∧ Fz F H ∧ Val W F H v d ∧ good 5 d ∧ (∀ xs, d = .list xs → xs.length ≤ 100) ∧ ((∀ xs, d ≠ .list xs) → ∀ H', (∀ b u, H b = some u → H' b = some u) → Q (.bl true) H') ∧
  ∀ p xs ds, v = .ref p → d = .list ds → H p = some (.lst xs) → F p = none → RpAll W F xs ds → ∀ H', (∀ b u, b ≠ p → H b = some u → H' b = some u) → H' p = some (.lst (xs ++ [.int 7])) → Q (.bl true) H'
theorem sc__law_blamed : FnScope ["given", "value"] ["given", "value"] (defScope (top 55)) := ⟨rfl, rfl, rfl, by decide +kernel, rfl, by decide +kernel, by decide +kernel⟩
theorem bd__law_blamed : BindsOk "_law_blamed" (top 55) ["given", "value"] := fun _ _ _ _ _ _ us hl => match us, hl with | [_, _], _ => rfl
theorem ok__law_blamed {P : Program} {w : World} {K : PySem.W.Frag} {mg : PySem.Str → Option Value} {base : Heap} (fx : FX P w K mg base) : Kn P w K mg base 9 "_law_blamed" (top 55) ["given", "value"] (spBlamed ⟨P, w, K⟩) := by
  refine kn_raw fx.fa.d__law_blamed sc__law_blamed bd__law_blamed (fun vs H Q E ⟨_, _, _, e, _⟩ => by rw [e]; rfl) fun f cdv A outer s H vs Q E hr ⟨F, v, d, e, z, hv, g, sm, q1, q2⟩ => ⟨_, PSs.nox
    (pss_cons (ps_if (pt_not (pt_val (pe_kn (ok__law_same fx.fa) hr rfl (pa_cons (pv 0) (pa_cons (pv 1) pa_nil))))) (pss_one (ps_ret pe_bl)) pss_nil)
    (pss_cons (ps_if (pt_val (pe_callB call_isiD rfl fx.fa.b_isinstance (by kernel_rfl) (pa_cons (pv 1) (pa_cons (pe_ty (T := "list") rfl fx.fa.b_list (by kernel_rfl)) pa_nil)))) (pss_one (ps_expr (pe_bm PySem.F.plainAttrs_list PySem.F.slot_list_append PySem.F.type_list_append mt_append (pv 1) (pa_cons pe_int pa_nil)))) pss_nil)
    (pss_one (ps_ret (pe_kn (ok__law_same fx.fa) hr rfl (pa_cons (pv 0) (pa_cons (pv 1) pa_nil))))))), ?_⟩
  subst e
  obtain ⟨F1, z1, l1, r1⟩ := hv.rp z
  have fzk : ∀ {G H1 : Hp}, Fz G H → (∀ b u, H b = some u → H1 b = some u) → Fz G H1 := fun z k1 => ⟨fun b u e => (z.rd b u e).imp (k1 _ _) fun ⟨o, h⟩ => ⟨o, k1 _ _ h⟩, z.sq⟩
  refine ⟨_, rfl, _, rfl, sameRp (E := E0) z1 r1 r1 (good_mono (by decide) g) fun H1 k1 => ⟨true, rfl, ?_⟩⟩
  have z2 := fzk z k1
  have hv1 : Val ⟨P, w, K⟩ F H1 v d := hv.step (x := none) ⟨Le.refl F, fun b u _ e => k1 b u e, fun _ _ _ f => f, z2⟩ (by simp)
  have ty := Val.kty (X := (cxOf CX0 P w K mg base ["given", "value"] "_law_blamed" (defScope (top 55)) f cdv A outer s H E).nox) z2 hv1 (good_mono (by decide) g)
  refine L2.iteF ?_
  refine ⟨v, rfl, v, .ty "list", .type (tyD d), .type "list", isT d "list", rfl, .ty _, ty, isT_kit (by simp), isT d "list", rfl, ?_⟩
  rcases hv1 with ⟨r, n⟩ | ⟨p, xs, ds, rfl, rfl, hp, fp, r⟩
  · rw [show isT d "list" = false from by cases d <;> first | rfl | exact absurd rfl (n _)]
    obtain ⟨F2, z3, l3, r3⟩ := Val.rp (W := ⟨P, w, K⟩) z2 (.inl ⟨r, n⟩)
    exact ⟨v, rfl, v, rfl, sameRp (E := E0) z3 r3 r3 (good_mono (by decide) g) fun H2 k2 => q1 n H2 fun b u e => k2 b u (k1 b u e)⟩
  · rw [show isT (.list ds) "list" = true from rfl]
    have hl := r.length
    have hs := sm ds rfl
    refine ⟨.ref p, rfl, .inl ⟨rfl, _, .inl (.inl hp)⟩, p, xs, .int 7, rfl, rfl, hp, by rw [sizeLine_eq]; omega, ?_⟩
    have hp2 : upd H1 p (.lst (xs ++ [.int 7])) p = some (.lst (xs ++ [.int 7])) := upd_same
    have z4 : Fz (upd F p (.lst (xs ++ [.int 7]))) (upd H1 p (.lst (xs ++ [.int 7]))) := ⟨fun b u e => by
      by_cases c : b = p
      · subst c; rw [upd_same] at e; cases e; exact .inl hp2
      · rw [upd_ne c] at e
        refine (z2.rd b u e).imp (fun h => by rw [upd_ne c]; exact h) fun ⟨o, h⟩ => ⟨o, by rw [upd_ne c]; exact h⟩, fun b u e => by
      by_cases c : b = p
      · subst c; rw [upd_same] at e; cases e; exact .inl ⟨_, rfl⟩
      · rw [upd_ne c] at e; exact z2.sq b u e⟩
    have r4 : Rp ⟨P, w, K⟩ (upd F p (.lst (xs ++ [.int 7]))) (.ref p) (.list (ds ++ [.int 7])) := .lst upd_same ((r.mono (Le.upd fp)).append (.cons (.int 7) .nil))
    have g4 : good 6 (.list (ds ++ [.int 7])) := by
      refine ⟨by simp; omega, fun x hx => ?_⟩
      rcases List.mem_append.mp hx with m | m
      · exact good_mono (by decide) (g.2 x m)
      · simp at m; subst m; trivial
    have kk : ∀ b u, b ≠ p → H b = some u → upd H1 p (.lst (xs ++ [.int 7])) b = some u := fun b u n e => by rw [upd_ne n]; exact k1 b u e
    refine ⟨.ref p, rfl, .ref p, rfl, sameRp (E := E0) z4 r4 r4 g4 fun H2 k2 => ?_⟩
    rcases hv with ⟨r', n⟩ | ⟨p', xs', ds', e1, e2, hp', fp', r'⟩
    · exact absurd rfl (n _)
    · cases e1
      cases e2
      have : xs' = xs := by
        have := (k1 _ _ hp').symm.trans hp
        cases this
        rfl
      subst this
      exact q2 p xs' ds rfl rfl hp' fp' r' H2 (fun b u n e => k2 b u (kk b u n e)) (k2 p _ hp2)
end TT
set_option Elab.async false
set_option linter.all false
set_option maxRecDepth 100000
set_option maxHeartbeats 4000000
namespace TT
open PySem PySem.Spec PyProof.Rows L2 DL
section
variable {W : Wd} {F F' H H' : Hp} {v : V} {d : D} {a : Addr} {xs : List V} {ds : List D} {m : Int} {Q : VK}
theorem vals_good : ∀ d ∈ vals, good 5 d ∧ ∀ xs, d = .list xs → xs.length ≤ 99 := by
  unfold vals
  simp only [List.forall_mem_cons]
  refine ⟨?_, ?_, ?_, ?_, ?_, ?_, ?_, ?_, ?_, ?_, ?_, ?_, ?_, ?_, by simp⟩ <;> refine ⟨?_, fun xs e => by cases e <;> first | decide | (simp)⟩ <;> simp [good] <;> decide +kernel
theorem box_lst {o : OB} (h : BoxOk m o) : ∃ ds, o = .lst ds ∧ ∀ x ∈ ds, good 1 x := by
  obtain ⟨g, f, s, c, rfl, _⟩ := h
  refine ⟨_, rfl, fun x hx => ?_⟩
  simp only [List.mem_cons, List.not_mem_nil, or_false] at hx
  rcases hx with rfl | rfl | rfl | rfl <;> trivial
theorem box_any (h : BoxOk m (.lst ds)) (r : RpAll W F xs ds) : RpAll W F' xs ds := by
  obtain ⟨g, f, s, c, e, _⟩ := h
  cases e
  cases r with
  | cons r1 r => cases r with
    | cons r2 r => cases r with
      | cons r3 r => cases r with
        | cons r4 r =>
          cases r; cases r1; cases r2; cases r3; cases r4
          exact .cons (.int _) (.cons (.bl _) (.cons (.int _) (.cons (.int _) .nil)))
theorem boxVal (z : Fz F H) (fa : F a = none) (ha : H a = some (.lst xs)) (hx : RpAll W F xs ds) (hb : BoxOk m (.lst ds)) (hm : m ≤ 1000000)
    (q : ∀ d v F' H' xs' ds', d ∈ vals → Rp W F' v d → F' a = none → H' a = some (.lst xs') → RpAll W F' xs' ds' → (∀ m, BoxOk m (.lst ds) → BoxOk (m + 1) (.lst ds')) → Step (some a) F H F' H' → Q v H') : spI W S__law_value [.ref a] H Q E0 := by
  refine callI z fa ha hx .nil ⟨?_, rfl⟩ fun r o' v F' H' hr hbx fa' st res => ?_
  · obtain ⟨g, f, s, c, e, h1, h2, h3, h4, h5⟩ := hb
    exact ⟨g, f, s, c, e, h1, h2, h3, h4, by omega⟩
  · obtain ⟨⟨d, hd, rfl⟩, hm'⟩ := hr
    have hb' := hm' m hb
    obtain ⟨ds', rfl, g'⟩ := box_lst hb'
    obtain ⟨xs', e', r'⟩ := hbx ds' rfl
    exact q d v F' H' xs' ds' hd (res 5 (vals_good d hd).1) fa' e' (r' 1 g') hm' st
theorem boxTake {n : Int} (z : Fz F H) (fa : F a = none) (ha : H a = some (.lst xs)) (hx : RpAll W F xs ds) (hb : BoxOk m (.lst ds)) (hm : m ≤ 1000000) (hn : 0 < n ∧ n ≤ 1000000)
    (q : ∀ i F' H' xs' ds', 0 ≤ i → i < n → F' a = none → H' a = some (.lst xs') → RpAll W F' xs' ds' → (∀ m, BoxOk m (.lst ds) → BoxOk (m + 1) (.lst ds')) → Step (some a) F H F' H' → Q (.int i) H') : spI W S__law_take [.ref a, .int n] H Q E0 := by
  refine callI z fa ha hx (ws := [.int n]) (es := [.int n]) (.cons (.int n) .nil) ⟨n, ?_, rfl, hn⟩ fun r o' v F' H' hr hbx fa' st res => ?_
  · obtain ⟨g, f, s, c, e, h1, h2, h3, h4, h5⟩ := hb
    exact ⟨g, f, s, c, e, h1, h2, h3, h4, by omega⟩
  · obtain ⟨i, rfl, i0, i1, hm'⟩ := hr
    have hb' := hm' m hb
    obtain ⟨ds', rfl, g'⟩ := box_lst hb'
    obtain ⟨xs', e', r'⟩ := hbx ds' rfl
    cases res 1 trivial
    exact q i F' H' xs' ds' i0 (i1 n rfl) fa' e' (r' 1 g') hm' st
theorem deepCall (z : Fz F H) (r : Rp W F v d) (g : good 5 d) (hl : ∀ xs, d = .list xs → xs.length ≤ 99) (q : ∀ v' F' H', Val W F' H' v' d → Step none F H F' H' → (∀ xs, d = .list xs → ∀ p, v' = .ref p → H p = none) → Q v' H') : spP W S__law_deep [v] H Q E0 := by
  refine callP z (.cons r .nil) ⟨d, rfl, fun xs e => by have := hl xs e; omega⟩ fun r v' F' H' hr st res => ?_
  rcases hr d rfl with ⟨xs, rfl, rfl⟩ | ⟨n, rfl⟩
  · obtain ⟨p, ys, rfl, h0, h1, f1, ra⟩ := res
    exact q _ F' H' (.inr ⟨p, ys, xs, rfl, rfl, h1, f1, ra 4 g.2⟩) st fun _ _ p' e => by cases e; exact h0
  · exact q _ F' H' (.inl ⟨res 5 g, n⟩) st fun xs e => absurd e (n xs)
/-- the end of a def that writes its first argument -/
theorem finI {F0 : Hp} {σ : L2.St} {ρ : DEnv} (I : RE W (bI F0 H a) F0 H σ ρ) (fa : F0 a = none) (keep : ∀ b u, b ≠ a → H b = some u → H' b = some u) (ha : H' a = some (.lst xs)) (r : RpAll W F0 xs ds) : RE W (bI F0 H a) F0 H' [some (.ref a)] [some (.own (.lst ds))] := by
  have one : ∀ (i : Nat) (dv : DV), HasD [some (DV.own (OB.lst ds))] i dv → i = 0 ∧ dv = .own (.lst ds) := fun i dv e => by
    unfold HasD at e
    cases i with
    | zero => exact ⟨rfl, by simpa using e.symm⟩
    | succ i => simp at e
  have ne : ∀ {b u}, F0 b = some u → b ≠ a := fun {b u} e c => by rw [c, fa] at e; cases e
  refine ⟨rfl, fun b u e => (I.fle b u e).imp (keep b _ (ne e)) fun ⟨o, h⟩ => ⟨o, keep b _ (ne e) h⟩, I.nfz, fun i dv e => ?_, fun i j b o o' n e e' => ?_, fun i b o e h => ?_, Le.refl F0, fun b u e n => .inl (keep b u n e), fun b u _ _ f => f, fun b e => ?_, fun p q => ?_⟩
  · obtain ⟨rfl, rfl⟩ := one i dv e
    exact ⟨.ref a, rfl, a, _, rfl, fa, ha, xs, rfl, r⟩
  · obtain ⟨rfl, _⟩ := one i _ e
    obtain ⟨rfl, _⟩ := one j _ e'
    exact absurd rfl n
  · obtain ⟨rfl, _⟩ := one i _ e
    unfold HasV at h
    simp at h
    exact .inl h.symm
  · have e : b = a := e
    subst e
    exact ⟨_, ha⟩
  · rcases List.mem_cons.mp q with e | e
    · subst e; rfl
    · cases e
/-- all lists and tuples of the heap -/
def FH (H : Hp) : Hp := fun b => match H b with
  | some (.lst xs) => some (.lst xs)
  | some (.tup xs) => some (.tup xs)
  | some (.frz _ (.lst xs)) => some (.lst xs)
  | some (.frz _ (.tup xs)) => some (.tup xs)
  | _ => none
theorem fh_rd : ∀ b u, FH H b = some u → Rd H b u := fun b u e => by
  unfold FH at e
  split at e
  · rename_i q; cases e; exact .inl q
  · rename_i q; cases e; exact .inl q
  · rename_i q; cases e; exact .inr ⟨_, q⟩
  · rename_i q; cases e; exact .inr ⟨_, q⟩
  · cases e
theorem fh_sq : ∀ b u, FH H b = some u → (∃ xs, u = .lst xs) ∨ ∃ xs, u = .tup xs := fun b u e => by
  unfold FH at e
  split at e
  · cases e; exact .inl ⟨_, rfl⟩
  · cases e; exact .inr ⟨_, rfl⟩
  · cases e; exact .inl ⟨_, rfl⟩
  · cases e; exact .inr ⟨_, rfl⟩
  · cases e
theorem fh_fz : Fz (FH H) H := ⟨fh_rd, fh_sq⟩
theorem fh_lst {p : Addr} (h : H p = some (.lst xs)) : FH H p = some (.lst xs) := by unfold FH; rw [h]
theorem fh_le (z : Fz F H) : Le F (FH H) := fun b u e => by
  unfold FH
  rcases z.sq b u e with ⟨ys, rfl⟩ | ⟨ys, rfl⟩ <;> rcases z.rd b _ e with q | ⟨o, q⟩ <;> rw [q]
theorem Val.fh (z : Fz F H) (h : Val W F H v d) : Rp W (FH H) v d := by
  rcases h with ⟨r, n⟩ | ⟨p, xs, ds, rfl, rfl, hp, fp, r⟩
  · exact r.mono (fh_le z)
  · exact .lst (fh_lst hp) (r.mono (fh_le z))
/-- one, if there is a field -/
def sel {α : Type} (f : Option PySem.Str) (x : α) : List α := match f with
  | none => []
  | some _ => [x]
theorem cut_sel (f : Option PySem.Str) (x y v : V) : cutV [x, y] none (some ((sel f v).length : Int)) = sel f x := by
  cases f with
  | none => rfl
  | some _ => rfl
/-- two lists of the same one value -/
theorem sameSel {p p' : Addr} {f : Option PySem.Str} (h : H p = some (.lst (sel f v))) (h' : H p' = some (.lst (sel f v))) (r : Rp W (FH H) v d) (g : good 5 d ∨ good 6 d ∧ good 5 d) (q : ∀ H', (∀ b u, H b = some u → H' b = some u) → Q (.bl true) H') : spP W S__law_same [.ref p, .ref p'] H Q E0 := by
  have g : good 5 d := g.elim id fun z => z.2
  have ra : RpAll W (FH H) (sel f v) (sel f d) := by
    cases f with
    | none => exact .nil
    | some _ => exact .cons r .nil
  refine sameRp fh_fz (.lst (fh_lst h) ra) (.lst (fh_lst h') ra) ?_ q
  cases f with
  | none => exact ⟨by show 0 ≤ 10000; omega, fun x hx => nomatch hx⟩
  | some _ => exact ⟨by show 1 ≤ 10000; omega, fun x hx => by rw [List.mem_singleton.mp hx]; exact g⟩
end
/-- a loop over zip of two and of none or one -/
theorem for_sel {K : PySem.W.Frag} {a b : Addr} {x y u : V} {f : Option PySem.Str} {g : TG} {tb : TS} {D : Ends} {σ : L2.St} {H : Hp} (Ex : L2.St → Hp → Prop) (ha : SqL K H a [x, y]) (hb : SqL K H b (sel f u)) (e0 : f = none → Ex σ H)
    (turn : ∀ fl, f = some fl → ∀ T, H T = none → g (.ref T) σ (upd H T (.tup [x, u])) fun σ2 H2 => tb { D with nx := fun σ' H' => Ex σ' H' ∧ SqL K H' a [x, y] ∧ SqL K H' b (sel f u), ct := fun σ' H' => Ex σ' H' ∧ SqL K H' a [x, y] ∧ SqL K H' b (sel f u), bk := D.nx } σ2 H2)
    (done : ∀ σ' H', Ex σ' H' → D.nx σ' H') : ∃ W : Nat → Nat → L2.St → Hp → Prop, (∃ m, W 0 m σ H) ∧ ∀ i m σ H, W i m σ H →
      ((Itz K a b).stop i H ∧ D.nx σ H) ∨ ((Itz K a b).go i H ∧ ∃ N : L2.St → Hp → Prop, (∀ σ' H', N σ' H' → ∃ m', m' < m ∧ W (i + 1) m' σ' H') ∧ ∀ x H', (Itz K a b).yld i H x H' → g x σ H' fun σ2 H2 => tb { D with nx := N, ct := N, bk := D.nx } σ2 H2) := by
  refine ⟨fun i m σ' H' => (i = 0 ∧ m = 1 ∧ σ' = σ ∧ H' = H) ∨ (i = 1 ∧ m = 0 ∧ Ex σ' H' ∧ SqL K H' a [x, y] ∧ SqL K H' b (sel f u)), ⟨1, .inl ⟨rfl, rfl, rfl, rfl⟩⟩, fun i m σ' H' hw => ?_⟩
  rcases hw with ⟨rfl, rfl, rfl, rfl⟩ | ⟨rfl, rfl, ex, qa, qb⟩
  · cases f with
    | none => exact .inl ⟨⟨_, _, ha, hb, .inr (Nat.le_refl 0)⟩, done _ _ (e0 rfl)⟩
    | some fl =>
      refine .inr ⟨⟨_, _, x, u, ha, hb, rfl, rfl⟩, fun σ' H' => Ex σ' H' ∧ SqL K H' a [x, y] ∧ SqL K H' b (sel (some fl) u), fun σ' H' h => ⟨0, by decide, .inr ⟨rfl, rfl, h⟩⟩, fun v H' hy => ?_⟩
      obtain ⟨T, x', y', rfl, nT, rfl, fx, fy⟩ := hy
      cases fx _ ha
      cases fy _ hb
      exact turn fl rfl T nT
  · refine .inl ⟨⟨_, _, qa, qb, .inr ?_⟩, done _ _ ex⟩
    cases f with
    | none => exact Nat.zero_le _
    | some _ => exact Nat.le_refl 1
theorem exo_lst {e C : Addr} {d : Option Addr} {xs : List V} : exo e C d ≠ .lst xs := fun z => by
  have z' : HO.ext _ = HO.lst xs := z
  cases z'
theorem exd_lst {e : Addr} {fs : List (PySem.Str × V)} {xs : List V} : exd e fs ≠ .lst xs := fun z => by
  have z' : HO.ext _ = HO.lst xs := z
  cases z'
theorem made_but {H H' : Hp} {a C p : Addr} {f : Option PySem.Str} {v : V} {xs : List V} (M : MadeX H a C f v) (hp : H p = some (.lst xs)) (k : ∀ b u, b ≠ p → H b = some u → H' b = some u) : MadeX H' a C f v := by
  cases M with
  | bare h => exact .bare (k _ _ (ne_of h hp exo_lst) h)
  | field h hd hn => exact .field (k _ _ (ne_of h hp exo_lst) h) (k _ _ (ne_of hd hp exd_lst) hd) hn
theorem rp_up {W : Wd} {H H' : Hp} {v : V} {d : D} (r : Rp W (FH H) v d) (k : ∀ b u, H b = some u → H' b = some u) : Rp W (FH H') v d :=
  r.mono (fh_le ⟨fun b u e => (fh_rd b u e).imp (k _ _) fun ⟨o, h⟩ => ⟨o, k _ _ h⟩, fh_sq⟩)
end TT
set_option Elab.async false
set_option linter.all false
set_option maxRecDepth 100000
set_option maxHeartbeats 4000000
namespace TT
open PySem PySem.Spec PyProof.Rows L2 DL
def pre__law_class_right (o : OB) (ds : List DV) : Prop := BoxOk 100000 o ∧ ∃ k : Nat, ds = [.pure (.int k)] ∧ k < 47
def post__law_class_right (o : OB) (_ : List DV) (r : RV) (o' : OB) : Prop := r = .pure (.bool true) ∧ ∀ m, m ≤ 100000 → BoxOk m o → BoxOk (m + 3) o'
def S__law_class_right : SpI := spT pre__law_class_right post__law_class_right
theorem sc__law_class_right : FnScope ["box", "k", "one", "other", "way", "error", "fields", "value", "field", "again", "at"] ["box", "k"] (defScope (top 67)) := ⟨rfl, rfl, rfl, by decide +kernel, rfl, by decide +kernel, by decide +kernel⟩
theorem bd__law_class_right : BindsOk "_law_class_right" (top 67) ["box", "k"] := fun _ _ _ _ _ _ us hl => match us, hl with | [_, _], _ => rfl
theorem iteFB {b : Bool} {A B : Prop} (e : b = false) (h : B) : if b = true then A else B := by rw [e, if_neg Bool.false_ne_true]; exact h
theorem iteTB {b : Bool} {A B : Prop} (e : b = true) (h : A) : if b = true then A else B := by rw [e, if_pos rfl]; exact h
theorem eb_of (k i : Nat) : (!decide (V.bl (decide (k = i)) = V.bl (decide (V.int (0 + (i : Int)) = V.int (k : Int))))) = false := by
  by_cases c : k = i
  · subst c
    rw [Int.zero_add]
    simp
  · have : ¬ (V.int (0 + (i : Int)) = V.int (k : Int)) := fun e => by have := V.int.inj e; omega
    rw [decide_eq_false c, decide_eq_false this]
    simp
theorem ok__law_class_right {P : Program} {w : World} {K : PySem.W.Frag} {mg : PySem.Str → Option Value} {base : Heap} (fx : FX P w K mg base) : Kn P w K mg base 10 "_law_class_right" (top 67) ["box", "k"] (spI ⟨P, w, K⟩ S__law_class_right) := by
  refine kn_raw fx.fa.d__law_class_right sc__law_class_right bd__law_class_right (fun vs H Q E h => ?_) fun f cdv A outer s H vs Q E hr h => ⟨_, PSs.nox
    (pss_cons (ps_par3 (i := 2) (j := 3) (l := 4) rfl sc__law_class_right.nd rfl rfl rfl (by decide) (by decide) (by decide) rfl rfl rfl (pa_cons (pe_kn (Kn.mono (ok__law_value fx.fa) (by decide)) hr rfl (pa_cons (pv 0) pa_nil)) (pa_cons (pe_kn (Kn.mono (ok__law_value fx.fa) (by decide)) hr rfl (pa_cons (pv 0) pa_nil)) (pa_cons (pe_kn (Kn.mono (ok__law_take fx.fa) (by decide)) hr rfl (pa_cons (pv 0) (pa_cons pe_int pa_nil))) pa_nil))) (by first | rfl | kernel_rfl))
    (pss_cons (ps_asg (pe_lst (pa_cons (pe_kn (Kn.mono (ok__law_deep fx.fa) (by decide)) hr rfl (pa_cons (pv 2) pa_nil)) (pa_cons (pe_kn (Kn.mono (ok__law_deep fx.fa) (by decide)) hr rfl (pa_cons (pv 3) pa_nil)) pa_nil))) (pg_lst rfl (pgs_cons (pg_name (i := 2) sc__law_class_right.nd rfl (.inl rfl)) (pgs_cons (pg_name (i := 3) sc__law_class_right.nd rfl (.inl rfl)) pgs_nil))))
    (pss_cons (ps_set (i := 5) sc__law_class_right.nd rfl (.inr rfl) (pe_ix ix_list (pe_lst (pa_cons (pe_kn (Kn.mono (ok__law_made_0 fx) (by decide)) hr rfl (pa_cons (pv 1) (pa_cons (pv 2) (pa_cons (pv 3) (pa_cons (pe_cmpR op_eq (pv 4) pe_int (nomark _)) pa_nil)))))
      (pa_cons (pe_kn (Kn.mono (ok__law_made_0 fx) (by decide)) hr rfl (pa_cons (pv 1) (pa_cons pe_int (pa_cons pe_str (pa_cons (pe_cmpR op_eq (pv 4) pe_int (nomark _)) pa_nil))))) pa_nil))) pe_int (fun _ _ => rfl)))
    (pss_cons (ps_if (PW.pt (pw_or (pt_not (pt_val (pe_callB call_isX rfl fx.fa.b_isinstance (by kernel_rfl) (pa_cons (pv 5) (pa_cons (pe_glob (v := V.ref T99.lkE) rfl fx.gL rfl) pa_nil))))) (pw_or1 (pt_not (pt_val (pe_callB call_isX rfl fx.fa.b_isinstance (by kernel_rfl) (pa_cons (pv 5) (pa_cons (pe_ty (T := "ValueError") rfl fx.fa.b_ValueError (by kernel_rfl)) pa_nil)))))))) (pss_one (ps_ret pe_bl)) pss_nil)
    (pss_cons (ps_if (pt_cmpR (op_neD hr.units) (pe_lc (own := [("at", 10)]) (g := gName 10) rfl sc__law_class_right.nd (pi_range1 rfl fx.fa.b_range (pa_cons pe_int pa_nil)) (blkOk_by (own := [("at", 10)]) (N := ["box", "k", "one", "other", "way", "error", "fields", "value", "field", "again", "at"]) (sc := defScope (top 67)) (by decide +kernel))
        (fun _ _ _ _ _ => pg_name (i := 10) sc__law_class_right.nd rfl (.inl rfl)) (fun _ _ _ _ _ => pts_one (pt_cmpR op_ne (pe_kn (Kn.mono (ok__law_is_0 fx) (by decide)) hr rfl (pa_cons (pv 10) (pa_cons (pv 5) pa_nil))) (pe_cmpR op_eq (pv 10) (pv 1) (nomark _)) (nomark _))) (fun _ _ _ _ _ => pv 10)) (pe_lst pa_nil) (nomark _)) (pss_one (ps_ret pe_bl)) pss_nil)
    (pss_cons (ps_set (i := 6) sc__law_class_right.nd rfl (.inl rfl) (pe_kn (Kn.mono (ok__law_fields fx) (by decide)) hr rfl (pa_cons (pv 1) (pa_cons (pv 5) pa_nil))))
    (pss_cons (ps_if (pt_not (pt_val (pe_kn (Kn.mono (ok__law_same fx.fa) (by decide)) hr rfl (pa_cons (pv 6) (pa_cons (pe_slice sl_list (pe_lst (pa_cons (pv 2) (pa_cons (pv 3) pa_nil))) po_none (po_some (pe_callB call_len_seq rfl fx.fa.b_len PySem.boot_len (pa_cons (pv 6) pa_nil)))) pa_nil))))) (pss_one (ps_ret pe_bl)) pss_nil)
    (pss_cons (ps_for PassesOwn.never rfl (pi_zip rfl fx.fa.b_zip (pa_cons (pe_lst (pa_cons (pv 2) (pa_cons (pv 3) pa_nil))) (pa_cons (pv 6) pa_nil))) (pg_tup rfl (pgs_cons (pg_name (i := 7) sc__law_class_right.nd rfl (.inl rfl)) (pgs_cons (pg_name (i := 8) sc__law_class_right.nd rfl (.inl rfl)) pgs_nil)))
        (pss_one (ps_if (pt_not (pt_val (pe_kn (Kn.mono (ok__law_blamed fx) (by decide)) hr rfl (pa_cons (pv 8) (pa_cons (pv 7) pa_nil))))) (pss_one (ps_ret pe_bl)) pss_nil)))
    (pss_cons (ps_set (i := 9) sc__law_class_right.nd rfl (.inl rfl) (pe_kn (Kn.mono (ok__law_made_0 fx) (by decide)) hr rfl (pa_cons (pv 1) (pa_cons pe_int (pa_cons pe_str (pa_cons (pe_cmpR op_eq (pv 4) pe_int (nomark _)) pa_nil))))))
    (pss_one (ps_ret (pe_and (pe_kn (Kn.mono (ok__law_same fx.fa) (by decide)) hr rfl (pa_cons (pe_kn (Kn.mono (ok__law_fields fx) (by decide)) hr rfl (pa_cons (pv 1) (pa_cons (pv 9) pa_nil))) (pa_cons (pe_slice sl_list (pe_lst (pa_cons pe_int (pa_cons pe_str pa_nil))) po_none (po_some (pe_callB call_len_seq rfl fx.fa.b_len PySem.boot_len (pa_cons (pv 6) pa_nil)))) pa_nil)))
        (pe_one (pe_kn (Kn.mono (ok__law_same fx.fa) (by decide)) hr rfl (pa_cons (pe_kn (Kn.mono (ok__law_fields fx) (by decide)) hr rfl (pa_cons (pv 1) (pa_cons (pv 5) pa_nil))) (pa_cons (pe_slice sl_list (pe_lst (pa_cons (pv 2) (pa_cons (pv 3) pa_nil))) po_none (po_some (pe_callB call_len_seq rfl fx.fa.b_len PySem.boot_len (pa_cons (pv 6) pa_nil)))) pa_nil)))))))))))))))), ?_⟩
  · obtain ⟨F, a, ob, dvs, no, I, ⟨_, k, rfl, _⟩, _⟩ := h
    have := I.len
    simp at this
    simpa using this
  · obtain ⟨F0, a, ob, dvs, no, I0, ⟨hb, k, rfl, hk⟩, hq⟩ := h
    obtain ⟨ds0, rfl, gds⟩ := box_lst hb
    have vl : vs = [.ref a, .int k] := by
      obtain ⟨v0, h0, a', u, e0, _⟩ := I0.sl 0 _ rfl
      obtain ⟨v1, h1, e1⟩ := I0.sl 1 _ rfl
      have := I0.len
      match vs, this with
      | [x, y], _ =>
        unfold HasV at h0 h1
        simp at h0 h1
        have hp := I0.pin (0, some (V.ref a)) List.mem_cons_self
        simp at hp
        cases e1
        rw [h1, hp]
    subst vl
    obtain ⟨fa, xs0, ha, hx⟩ : F0 a = none ∧ ∃ xs0, H a = some (.lst xs0) ∧ RpAll ⟨P, w, K⟩ F0 xs0 ds0 := by
      obtain ⟨v0, h0, a', u, e0, f0, hu, xs, rfl, r⟩ := I0.sl 0 _ rfl
      unfold HasV at h0
      simp at h0
      subst h0
      cases e0
      exact ⟨f0, xs, hu, r⟩
    -- one, other, way
    have z0 : Fz (fun _ => none) H := ⟨fun _ _ e => (nomatch e), fun _ _ e => (nomatch e)⟩
    refine ⟨_, rfl, boxVal z0 rfl ha (box_any hb hx) hb (by decide) fun d1 v1 F1 H1 xs1 ds1 hd1 r1 f1 h1 x1 bb1 s1 => ?_⟩
    have b1 := bb1 _ hb
    refine ⟨_, rfl, boxVal s1.fz f1 h1 x1 b1 (by decide) fun d2 v2 F2 H2 xs2 ds2 hd2 r2 f2 h2 x2 bb2 s2 => ?_⟩
    have b2 := bb2 _ b1
    refine ⟨_, rfl, boxTake s2.fz f2 h2 x2 b2 (by decide) ⟨by decide, by decide⟩ fun way F3 H3 xs3 ds3 w0 w1 f3 h3 x3 bb3 s3 => ?_⟩
    have b3 := bb3 _ b2
    refine ⟨_, _, _, rfl, ?_⟩
    have s13 := (s1.trans (fun a' e => by cases e; exact ⟨_, h1⟩) s2).trans (fun a' e => by cases e; exact ⟨_, h2⟩) s3
    have r1' := r1.mono (s2.le.trans s3.le)
    have r2' := r2.mono s3.le
    obtain ⟨g1, l1⟩ := vals_good d1 hd1
    obtain ⟨g2, l2⟩ := vals_good d2 hd2
    -- one, other = [..]
    refine ⟨_, rfl, deepCall s3.fz r1' g1 l1 fun u1 F4 H4 V1 s4 fresh => ?_⟩
    refine ⟨_, rfl, deepCall s4.fz (r2'.mono s4.le) g2 l2 fun u2 F5 H5 V2 s5 _ => ?_⟩
    have V1' := V1.step s5 (by simp)
    refine ⟨z100 (by decide : 2 ≤ 100), fun p1 np1 => ?_⟩
    have kp1 := fr_upd (o := .lst [u1, u2]) np1
    refine ⟨p1, [u1, u2], rfl, .inl (.inl upd_same), rfl, u1, [u2], rfl, u2, [], rfl, rfl, ?_⟩
    -- error = ..
    have fk : ∀ {G H1 H2 : Hp}, Fz G H1 → (∀ b u, H1 b = some u → H2 b = some u) → Step none G H1 G H2 := fun z k => ⟨Le.refl _, fun b u _ e => k b u e, fun _ _ _ f => f, ⟨fun b u e => (z.rd b u e).imp (k _ _) fun ⟨o, h⟩ => ⟨o, k _ _ h⟩, z.sq⟩⟩
    have mk : ∀ {vs : List V} {o1 o2 : V} {b : Bool} {H1 : Hp} {Q : VK}, vs = [.int k, o1, o2, .bl b] → (∀ a H', H1 a = none → (∀ c u, H1 c = some u → H' c = some u) → MadeX H' a (cC k) (cF k) o1 → Q (.ref a) H') → spMade 0 vs H1 Q E0 := fun e q => ⟨k, _, _, _, e, Nat.zero_le _, hk, q⟩
    refine ⟨_, rfl, _, rfl, _, rfl, _, rfl, rfl, ?_⟩
    dsimp only [tNil, tCons]
    refine mk rfl fun a1 H7 n7 k7 M7 => ?_
    refine ⟨_, rfl, _, rfl, rfl, ?_⟩
    dsimp only [tNil, tCons]
    refine mk rfl fun a2 H8 n8 k8 M8 => ?_
    refine ⟨z100 (by decide : 2 ≤ 100), fun p2 np2 => ⟨p2, [.ref a1, .ref a2], 0, .ref a1, rfl, rfl, .inl (.inl upd_same), rfl, ?_⟩⟩
    have k57 : ∀ b u, H5 b = some u → H7 b = some u := fun b u e => k7 b u (kp1 b u e)
    have k58 : ∀ b u, H5 b = some u → upd H8 p2 (.lst [.ref a1, .ref a2]) b = some u := fun b u e => fr_upd np2 b u (k8 b u (k57 b u e))
    have M9 := M7.mono (fun b u e => fr_upd (o := .lst [.ref a1, .ref a2]) np2 b u (k8 b u e))
    generalize upd H8 p2 (.lst [.ref a1, .ref a2]) = H9 at k58 M9 ⊢
    -- isinstance
    refine ⟨_, rfl, a1, cC k, _, _, _, rfl, M9.held, fx.isx k hk, .own _, fx.kitL k hk, true, rfl, L2.iteF ?_⟩
    refine ⟨_, rfl, a1, cC k, _, _, _, rfl, M9.held, fx.isx k hk, .ty _, fx.kitV k hk, true, rfl, L2.iteF ?_⟩
    -- which classes
    refine ⟨47, rfl, by decide, by decide, fun D nD => lc_range (lo := 0) (n := 47) (fun _ H => (∀ b u, H9 b = some u → H b = some u) ∧ H D = some (.lst [])) ⟨fr_upd nD, upd_same⟩ (fun i Hi hi ⟨ki, hD⟩ => ?_) fun HA ⟨kA, hD⟩ => ?_⟩
    · refine ⟨rfl, _, rfl, _, rfl, i, a1, k, by simp, Nat.zero_le _, hi, hk, M9.held.mono ki, _, rfl, _, rfl, rfl, rfl, _, rfl, ?_⟩
      refine iteFB (eb_of k i) ⟨ki, hD⟩
    refine ⟨z100 (by decide : 0 ≤ 100), fun p3 np3 => ⟨.list [], .list [], .lst (.inl (.inl (fr_upd np3 _ _ hD))) .nil, .lst (.inl (.inl upd_same)) .nil, by decide +kernel, by decide +kernel, _, rfl, ?_⟩⟩
    refine iteFB (by decide +kernel) ?_
    have k5A : ∀ b u, H5 b = some u → upd HA p3 (.lst []) b = some u := fun b u e => fr_upd np3 b u (kA b u (k58 b u e))
    have MA := M9.mono (fun b u e => fr_upd (o := .lst []) np3 b u (kA b u e))
    generalize upd HA p3 (.lst []) = HB at k5A MA ⊢
    -- fields
    refine ⟨_, rfl, _, rfl, k, a1, u1, rfl, hk, MA, fun p4 HC np4 kC e4 => ?_⟩
    have k5C : ∀ b u, H5 b = some u → HC b = some u := fun b u e => kC b u (k5A b u e)
    have MC := MA.mono kC
    -- the same as what was given
    refine ⟨_, rfl, _, rfl, _, rfl, z100 (by decide : 2 ≤ 100), fun p5 np5 => ?_⟩
    have e4 : HC p4 = some (.lst (sel (cF k) u1)) := e4
    have k5D := fun b u e => fr_upd (o := .lst [u1, u2]) np5 b u (k5C b u e)
    have eD : upd HC p5 (.lst [u1, u2]) p5 = some (.lst [u1, u2]) := upd_same
    have e4D := fr_upd (o := .lst [u1, u2]) np5 _ _ e4
    have MD := MC.mono (fun b u e => fr_upd (o := .lst [u1, u2]) np5 b u e)
    generalize upd HC p5 (.lst [u1, u2]) = HD at k5D eD e4D MD ⊢
    refine ⟨_, rfl, p4, sel (cF k) u1, rfl, .inl (.inl (.inl e4D)), _, rfl, p5, [u1, u2], rfl, .inl (.inl eD), fun p6 np6 => ?_⟩
    rw [cut_sel]
    have k5E := fun b u e => fr_upd (o := .lst (sel (cF k) u1)) np6 b u (k5D b u e)
    have eE : upd HD p6 (.lst (sel (cF k) u1)) p6 = some (.lst (sel (cF k) u1)) := upd_same
    have e4E := fr_upd (o := .lst (sel (cF k) u1)) np6 _ _ e4D
    have ME := MD.mono (fun b u e => fr_upd (o := .lst (sel (cF k) u1)) np6 b u e)
    generalize upd HD p6 (.lst (sel (cF k) u1)) = HE at k5E eE e4E ME ⊢
    have fz5 : ∀ {Hn : Hp}, (∀ b u, H5 b = some u → Hn b = some u) → Fz F5 Hn := fun k => (fk s5.fz k).fz
    have val5 : ∀ {Hn : Hp}, (∀ b u, H5 b = some u → Hn b = some u) → Val ⟨P, w, K⟩ F5 Hn u1 d1 := fun k => V1'.step (fk s5.fz k) (by simp)
    refine sameSel e4E eE (Val.fh (fz5 k5E) (val5 k5E)) (.inl g1) fun HG kG => ⟨true, rfl, iteFB rfl ?_⟩
    have k5G := fun b u e => kG b u (k5E b u e)
    have e4G := kG _ _ e4E
    have MG := ME.mono kG
    -- the loop
    refine ⟨_, rfl, _, rfl, z100 (by decide : 2 ≤ 100), fun p7 np7 => ?_⟩
    have k5I := fun b u e => fr_upd (o := .lst [u1, u2]) np7 b u (k5G b u e)
    have eI : upd HG p7 (.lst [u1, u2]) p7 = some (.lst [u1, u2]) := upd_same
    have e4I := fr_upd (o := .lst [u1, u2]) np7 _ _ e4G
    have MI := MG.mono (fun b u e => fr_upd (o := .lst [u1, u2]) np7 b u e)
    generalize upd HG p7 (.lst [u1, u2]) = HI at k5I eI e4I MI ⊢
    have k35 : ∀ b u, H3 b = some u → H5 b = some u := fun b u e => s5.keep b u (by simp) (s4.keep b u (by simp) e)
    have a3 : H5 a = some (.lst xs3) := k35 _ _ h3
    refine ⟨_, rfl, p7, p4, [u1, u2], sel (cF k) u1, rfl, .inl (.inl eI), .inl (.inl e4I), for_sel (fun σ' Hn => (∃ y7 y8, σ' = [some (V.ref a), some (V.int k), some u1, some u2, some (V.int way), some (V.ref a1), some (V.ref p4), y7, y8, none, none]) ∧
      (∀ b u, b ≠ a → H b = some u → Hn b = some u) ∧ Hn a = some (.lst xs3) ∧ MadeX Hn a1 (cC k) (cF k) u1 ∧ Hn p4 = some (.lst (sel (cF k) u1)) ∧ ∃ d', good 5 d' ∧ Rp ⟨P, w, K⟩ (FH Hn) u1 d') (.inl (.inl eI)) (.inl (.inl e4I)) (fun e => ⟨⟨none, none, rfl⟩, ?_⟩) (fun fl ef T nT => ?_) fun σ' Hn ⟨⟨y7, y8, es⟩, E1, E2, E3, E4, d', g', E5⟩ => ?_⟩
    · exact ⟨fun b u n e => k5I b u (k35 b u (s13.keep b u (fun z => n (Option.some.inj z)) e)), k5I _ _ a3, MI, e4I, d1, g1, Val.fh (fz5 k5I) (val5 k5I)⟩
    · refine ⟨T, [u1, u1], rfl, .inl (.inl upd_same), rfl, u1, [u1], rfl, u1, [], rfl, rfl, ?_⟩
      have k5J := fun b u e => fr_upd (o := .tup [u1, u1]) nT b u (k5I b u e)
      have eJ := fr_upd (o := .tup [u1, u1]) nT _ _ eI
      have e4J := fr_upd (o := .tup [u1, u1]) nT _ _ e4I
      have MJ := MI.mono (fun b u e => fr_upd (o := .tup [u1, u1]) nT b u e)
      generalize upd HI T (.tup [u1, u1]) = HJ at k5J eJ e4J MJ ⊢
      refine ⟨_, rfl, _, rfl, F5, u1, d1, rfl, fz5 k5J, val5 k5J, g1, fun xs e => by have := l1 xs e; omega, fun n H' k' => ⟨true, rfl, iteFB rfl ⟨⟨⟨_, _, rfl⟩, ?_⟩, .inl (.inl (k' _ _ eJ)), .inl (.inl (k' _ _ e4J))⟩⟩, fun p xs ds ev ed hp fp r H' kp hp' => ⟨true, rfl, iteFB rfl ?_⟩⟩
      · have k5K := fun b u e => k' b u (k5J b u e)
        exact ⟨fun b u n e => k5K b u (k35 b u (s13.keep b u (fun z => n (Option.some.inj z)) e)), k5K _ _ a3, MJ.mono k', k' _ _ e4J, d1, g1, Val.fh (fz5 k5K) (val5 k5K)⟩
      · obtain ⟨xs5, hp5⟩ : ∃ xs5, H5 p = some (.lst xs5) := by
          rcases V1' with ⟨_, n⟩ | ⟨p', xs', ds', e1, e2, h5, _⟩
          · exact absurd ed (n ds)
          · rw [ev] at e1
            cases e1
            exact ⟨_, h5⟩
        have np3 : H3 p = none := fresh ds ed p ev
        have ap : a ≠ p := ne_of_none h3 np3
        have p4p : p4 ≠ p := fun e => by rw [e] at np4; exact absurd (k5A _ _ hp5) (by rw [np4]; intro z; cases z)
        have p7p : p7 ≠ p := fun e => by rw [e] at np7; exact absurd (k5G _ _ hp5) (by rw [np7]; intro z; cases z)
        have e4K := kp _ _ p4p e4J
        have eK := kp _ _ p7p eJ
        refine ⟨⟨⟨_, _, rfl⟩, fun b u n e => ?_, kp _ _ ap (k5J _ _ a3), made_but MJ hp kp, e4K, .list (ds ++ [.int 7]), ?_, ?_⟩, .inl (.inl eK), .inl (.inl e4K)⟩
        · have h3b := s13.keep b u (fun z => n (Option.some.inj z)) e
          exact kp b u (ne_of_none h3b np3) (k5J b u (k35 b u h3b))
        · have gl := l1 ds ed
          rw [ed] at g1
          refine ⟨by simp; omega, fun x hx => ?_⟩
          rcases List.mem_append.mp hx with m | m
          · exact g1.2 x m
          · simp at m; subst m; trivial
        · rw [ev]
          have z5 : Fz F5 H' := ⟨fun b u e => by
            have n : b ≠ p := fun c => by rw [c, fp] at e; cases e
            exact ((fz5 k5J).rd b u e).imp (kp _ _ n) fun ⟨o, h⟩ => ⟨o, kp _ _ n h⟩, s5.fz.sq⟩
          exact .lst (fh_lst hp') ((r.mono (fh_le z5)).append (.cons (.int 7) .nil))
    · subst es
      -- again
      refine ⟨_, rfl, _, rfl, rfl, ?_⟩
      dsimp only [tNil, tCons]
      refine mk rfl fun a3 HK nK kK MK => ?_
      refine ⟨_, rfl, _, rfl, k, a3, .int 5, rfl, hk, MK, fun p8 HL nL kL e8 => ?_⟩
      have e8 : HL p8 = some (.lst (sel (cF k) (.int 5))) := e8
      have E1L : ∀ b u, Hn b = some u → HL b = some u := fun b u e => kL b u (kK b u e)
      -- [5, "x"][:len(fields)]
      refine ⟨z100 (by decide : 2 ≤ 100), fun p9 np9 => ?_⟩
      have kM := fr_upd (o := .lst [.int 5, .str "x"]) np9
      have eM : upd HL p9 (.lst [.int 5, .str "x"]) p9 = some (.lst [.int 5, .str "x"]) := upd_same
      generalize upd HL p9 (.lst [.int 5, .str "x"]) = HM at kM eM ⊢
      have E1M : ∀ b u, Hn b = some u → HM b = some u := fun b u e => kM b u (E1L b u e)
      refine ⟨_, rfl, p4, sel (cF k) u1, rfl, .inl (.inl (.inl (E1M _ _ E4))), _, rfl, p9, [.int 5, .str "x"], rfl, .inl (.inl eM), fun p10 np10 => ?_⟩
      rw [show ((sel (cF k) u1).length : Int) = ((sel (cF k) (V.int 5)).length : Int) from by cases cF k <;> rfl, cut_sel]
      have kN := fr_upd (o := .lst (sel (cF k) (V.int 5))) np10
      have eN : upd HM p10 (.lst (sel (cF k) (V.int 5))) p10 = some (.lst (sel (cF k) (V.int 5))) := upd_same
      generalize upd HM p10 (.lst (sel (cF k) (V.int 5))) = HN at kN eN ⊢
      refine sameSel (d := .int 5) (kN _ _ (kM _ _ e8)) eN (.int 5) (.inl trivial) fun HO kO => ⟨true, rfl, ?_⟩
      have E1O : ∀ b u, Hn b = some u → HO b = some u := fun b u e => kO b u (kN b u (E1M b u e))
      refine iteTB rfl ?_
      -- the fields again
      refine ⟨_, rfl, _, rfl, k, a1, u1, rfl, hk, E3.mono E1O, fun p11 HP nP kP e11 => ?_⟩
      have e11 : HP p11 = some (.lst (sel (cF k) u1)) := e11
      refine ⟨_, rfl, _, rfl, z100 (by decide : 2 ≤ 100), fun p12 np12 => ?_⟩
      have kQ := fr_upd (o := .lst [u1, u2]) np12
      have eQ : upd HP p12 (.lst [u1, u2]) p12 = some (.lst [u1, u2]) := upd_same
      generalize upd HP p12 (.lst [u1, u2]) = HQ at kQ eQ ⊢
      have E1Q : ∀ b u, Hn b = some u → HQ b = some u := fun b u e => kQ b u (kP b u (E1O b u e))
      refine ⟨_, rfl, p4, sel (cF k) u1, rfl, .inl (.inl (.inl (E1Q _ _ E4))), _, rfl, p12, [u1, u2], rfl, .inl (.inl eQ), fun p13 np13 => ?_⟩
      rw [cut_sel]
      have kR := fr_upd (o := .lst (sel (cF k) u1)) np13
      have eR : upd HQ p13 (.lst (sel (cF k) u1)) p13 = some (.lst (sel (cF k) u1)) := upd_same
      generalize upd HQ p13 (.lst (sel (cF k) u1)) = HR at kR eR ⊢
      have E1R : ∀ b u, Hn b = some u → HR b = some u := fun b u e => kR b u (E1Q b u e)
      refine sameSel (d := d') (kR _ _ (kQ _ _ e11)) eR (rp_up E5 E1R) (.inl g') fun HS kS => ?_
      have E1S : ∀ b u, Hn b = some u → HS b = some u := fun b u e => kS b u (E1R b u e)
      refine hq (.pure (.bool true)) (.lst ds3) ⟨rfl, fun m _ hm => ?_⟩ (.bl true) F0 HS (Le.refl _) (finI I0 fa (fun b u n e => E1S b u (E1 b u n e)) (E1S _ _ E2) (box_any b3 x3)) (.bl true)
      have := bb3 _ (bb2 _ (bb1 _ hm))
      rw [show m + 3 = m + 1 + 1 + 1 by omega]
      exact this
end TT
set_option Elab.async false
set_option linter.all false
set_option maxRecDepth 100000
set_option maxHeartbeats 4000000
namespace TT
open PySem PySem.Spec PyProof.Rows L2 DL
def pre__law_caught_right (o : OB) (ds : List DV) : Prop := BoxOk 100000 o ∧ ds = []
def post__law_caught_right (o : OB) (_ : List DV) (r : RV) (o' : OB) : Prop := r = .pure (.bool true) ∧ ∀ m, BoxOk m o → BoxOk (m + 2) o'
def S__law_caught_right : SpI := spT pre__law_caught_right post__law_caught_right
theorem sc__law_caught_right : FnScope ["box", "k", "one", "turn", "told", "e", "found", "at"] ["box"] (defScope (top 65)) := ⟨rfl, rfl, rfl, by decide +kernel, rfl, by decide +kernel, by decide +kernel⟩
theorem bd__law_caught_right : BindsOk "_law_caught_right" (top 65) ["box"] := fun _ _ _ _ _ _ us hl => match us, hl with | [_], _ => rfl
theorem shaped_one (i : Int) : SeqAt.shaped (.list [.int i]) = true := by simp [SeqAt.shaped, PyData.canLay0, PyData.canLayAll0, PyData.depth, PyData.depthAll]
theorem ne_one (i : Int) : (!PyData.eqv (.list [.int i]) (.list [.int i])) = false := by
  have := SeqAt.eqv_refl (d := .list [.int i]) (by simp [PyData.canLay0, PyData.canLayAll0])
  rw [this]
  rfl
theorem ok__law_caught_right {P : Program} {w : World} {K : PySem.W.Frag} {mg : PySem.Str → Option Value} {base : Heap} (fx : FX P w K mg base) : Kn P w K mg base 10 "_law_caught_right" (top 65) ["box"] (spI ⟨P, w, K⟩ S__law_caught_right) := by
  obtain ⟨fR, fdR, hmR, FR, okR, bR⟩ := (ok__law_raised fx).ex
  refine kn_raw fx.fa.d__law_caught_right sc__law_caught_right bd__law_caught_right (fun vs H Q E h => ?_) fun f cdv A outer s H vs Q E hr h => ⟨_, PSs.nox
    (pss_cons (ps_par (i := 1) (j := 2) rfl sc__law_caught_right.nd rfl rfl (by decide) rfl rfl (pa_cons (pe_kn (Kn.mono (ok__law_take fx.fa) (by decide)) hr rfl (pa_cons (pv 0) (pa_cons pe_int pa_nil))) (pa_cons (pe_kn (Kn.mono (ok__law_value fx.fa) (by decide)) hr rfl (pa_cons (pv 0) pa_nil)) pa_nil)) (by first | rfl | kernel_rfl))
    (pss_cons (ps_for PassesOwn.never rfl (pi_range1 rfl fx.fa.b_range (pa_cons pe_int pa_nil)) (pg_name (i := 3) sc__law_caught_right.nd rfl (.inl rfl))
      (pss_cons (ps_set (i := 4) sc__law_caught_right.nd rfl (.inr rfl) pe_non)
      (pss_cons (ps_try_held (i := 5) rfl rfl sc__law_caught_right.nd rfl rfl ⟨rfl, by decide, .inl fx.gL⟩ rfl (fun W pn xe tk _ => pss_one (ps_expr (pe_callS okR (hr.mono (by decide)) rfl hmR FR.kp bR (fun σ => passAt tk σ) (pa_cons (pv 1) (pa_cons (pv 2) pa_nil))))) (fun a pn => pss_one (ps_set (i := 4) sc__law_caught_right.nd rfl (.inr rfl) (pv 5))))
      (pss_cons (ps_if (PW.pt (pw_or (pt_cmpR op_isN (pv 4) pe_non (nomark _)) (pw_or1 (pt_not (pt_val (pe_callB call_isX rfl fx.fa.b_isinstance (by kernel_rfl) (pa_cons (pv 4) (pa_cons (pe_ty (T := "ValueError") rfl fx.fa.b_ValueError (by kernel_rfl)) pa_nil)))))))) (pss_one (ps_ret pe_bl)) pss_nil)
      (pss_cons (ps_setLc (i := 6) (own := [("at", 7)]) (g := gName 7) rfl sc__law_caught_right.nd rfl rfl (sw_true rfl rfl rfl (by decide +kernel)) (pi_range1 rfl fx.fa.b_range (pa_cons pe_int pa_nil)) (blkOk_by (own := [("at", 7)]) (N := ["box", "k", "one", "turn", "told", "e", "found", "at"]) (sc := defScope (top 65)) (by decide +kernel))
        (fun _ _ _ _ _ => pg_name (i := 7) sc__law_caught_right.nd rfl (.inl rfl)) (fun _ _ _ _ _ => pts_one (pt_val (pe_kn (Kn.mono (ok__law_is_0 fx) (by decide)) hr rfl (pa_cons (pv 7) (pa_cons (pv 4) pa_nil))))) (fun _ _ _ _ _ => pv 7))
      (pss_one (ps_if (PW.pt (pw_or (pt_cmpR op_ne (pe_callB call_len_seq rfl fx.fa.b_len PySem.boot_len (pa_cons (pv 6) pa_nil)) pe_int (nomark _)) (pw_or1 (PW.pt (pw_and (pt_cmpR (op_neD hr.units) (pv 6) (pe_lst (pa_cons (pv 1) pa_nil)) (nomark _)) (pw_and1 (pt_cmpR (op_neD hr.units) (pv 6) (pe_lst (pa_cons pe_int pa_nil)) (nomark _)))))))) (pss_one (ps_ret pe_bl)) pss_nil)))))))
    (pss_one (ps_ret pe_bl)))), ?_⟩
  · obtain ⟨F, a, ob, dvs, no, I, ⟨_, rfl⟩, _⟩ := h
    have := I.len
    simp at this
    simpa using this
  · obtain ⟨F0, a, ob, dvs, no, I0, ⟨hb, rfl⟩, hq⟩ := h
    obtain ⟨ds0, rfl, gds⟩ := box_lst hb
    have vl : vs = [.ref a] := by
      have := I0.len
      match vs, this with
      | [x], _ =>
        have hp := I0.pin (0, some (V.ref a)) List.mem_cons_self
        simp at hp
        rw [hp]
    subst vl
    obtain ⟨fa, xs0, ha, hx⟩ : F0 a = none ∧ ∃ xs0, H a = some (.lst xs0) ∧ RpAll ⟨P, w, K⟩ F0 xs0 ds0 := by
      obtain ⟨v0, h0, a', u, e0, f0, hu, xs, rfl, r⟩ := I0.sl 0 _ rfl
      unfold HasV at h0
      simp at h0
      subst h0
      cases e0
      exact ⟨f0, xs, hu, r⟩
    have z0 : Fz (fun _ => none) H := ⟨fun _ _ e => (nomatch e), fun _ _ e => (nomatch e)⟩
    refine ⟨_, rfl, boxTake z0 rfl ha (box_any hb hx) hb (by decide) ⟨by decide, by decide⟩ fun k' F1 H1 xs1 ds1 k0 k1 f1 h1 x1 bb1 s1 => ?_⟩
    have b1 := bb1 _ hb
    refine ⟨_, rfl, boxVal s1.fz f1 h1 x1 b1 (by decide) fun d2 v2 F2 H2 xs2 ds2 hd2 r2 f2 h2 x2 bb2 s2 => ?_⟩
    have s12 := s1.trans (fun a' e => by cases e; exact ⟨_, h1⟩) s2
    obtain ⟨k, rfl⟩ := Int.eq_ofNat_of_zero_le k0
    have hk : k < 47 := by omega
    refine ⟨_, _, rfl, ?_⟩
    have keep2 : ∀ b u, b ≠ a → H b = some u → H2 b = some u := fun b u n e => s12.keep b u (fun z => n (Option.some.inj z)) e
    refine ⟨2, rfl, by decide, by decide, for_range (lo := 0) (n := 2) (fun i σ Hn => (∃ y3 y4 y6, σ = [some (V.ref a), some (V.int k), some v2, y3, y4, none, y6, none]) ∧ ∀ b u, H2 b = some u → Hn b = some u) ⟨⟨none, none, none, rfl⟩, fun _ _ e => e⟩ (fun i σ Hn hi ⟨⟨y3, y4, y6, es⟩, kn⟩ => ?_) fun σ Hn ⟨⟨y3, y4, y6, es⟩, kn⟩ => ?_⟩
    · subst es
      -- the error raised, caught and kept
      refine ⟨_, rfl, _, rfl, k, v2, rfl, hk, fun j od H3 hj hjk L => ⟨fx.exm j hj, cC j, rfl, fun a' na' => ⟨_, rfl, ?_⟩⟩⟩
      have k4 : ∀ b u, Hn b = some u → upd H3 a' (exv a' (cC j) od) b = some u := fun b u e => fr_upd na' b u (L.1 b u e)
      have hx4 : HeldX (upd H3 a' (exv a' (cC j) od)) a' (cC j) := by
        rcases L.2 with rfl | ⟨d, fs, rfl, hd⟩
        · exact .kept upd_same
        · exact .keptD (d := d) (fs := fs) upd_same (fr_upd na' _ _ hd)
      refine ⟨_, rfl, rfl, _, rfl, ?_⟩
      refine iteFB (by simp) ?_
      refine ⟨_, rfl, a', cC j, _, _, _, rfl, hx4, fx.isx j hj, .ty _, fx.kitV j hj, true, rfl, iteFB rfl ?_⟩
      -- found
      refine ⟨47, rfl, by decide, by decide, fun D nD => lc_range (lo := 0) (n := 47) (fun m H => (∀ b u, (upd H3 a' (exv a' (cC j) od)) b = some u → H b = some u) ∧ H D = some (.lst (if j < m then [.int j] else []))) ⟨fr_upd nD, upd_same⟩ (fun m Hm hm ⟨km, hD⟩ => ?_) fun HA ⟨kA, hD⟩ => ?_⟩
      · refine ⟨rfl, _, rfl, _, rfl, m, a', j, by simp, Nat.zero_le _, hm, hj, hx4.mono km, decide (j = m), rfl, ?_⟩
        by_cases c : j = m
        · subst c
          refine iteTB (by simp) ⟨_, rfl, _, hD, by rw [if_neg (by omega)]; rw [sizeLine_eq]; decide, fun b u e => ?_, ?_⟩
          · rw [upd_ne (ne_of_none (H := (upd H3 a' (exv a' (cC j) od))) e nD)]
            exact km b u e
          · rw [upd_same, if_neg (by omega), if_pos (by omega), Int.zero_add]
            rfl
        · refine iteFB (by simp [c]) ⟨km, ?_⟩
          rw [hD]
          by_cases c2 : j < m
          · rw [if_pos c2, if_pos (by omega)]
          · rw [if_neg c2, if_neg (by omega)]
      · rw [if_pos hj] at hD
        have kB : ∀ b u, H2 b = some u → HA b = some u := fun b u e => kA b u (k4 b u (kn b u e))
        refine ⟨_, rfl, D, [.int j], rfl, .inl (.inl (.inl hD)), rfl, _, rfl, iteFB (by simp) ?_⟩
        refine ⟨_, rfl, _, rfl, z100 (by decide : 1 ≤ 100), fun p np => ?_⟩
        have hD2 := fr_upd (o := .lst [.int (k : Int)]) np _ _ hD
        have hp2 : upd HA p (.lst [.int (k : Int)]) p = some (.lst [.int (k : Int)]) := upd_same
        have kC := fun b u e => fr_upd (o := .lst [.int (k : Int)]) np b u (kB b u e)
        generalize upd HA p (.lst [.int (k : Int)]) = HB at hD2 hp2 kC ⊢
        refine ⟨.list [.int j], .list [.int k], .lst (.inl (.inl hD2)) (.cons (.int _) .nil), .lst (.inl (.inl hp2)) (.cons (.int _) .nil), shaped_one _, shaped_one _, _, rfl, ?_⟩
        have nxt : ∀ HZ : Hp, (∀ b u, H2 b = some u → HZ b = some u) → (∃ y3 y4 y6, [some (V.ref a), some (V.int k), some v2, some (V.int (0 + (i : Int))), some (V.ref a'), none, some (V.ref D), none] = [some (V.ref a), some (V.int k), some v2, y3, y4, none, y6, none]) ∧ ∀ b u, H2 b = some u → HZ b = some u := fun HZ kz => ⟨⟨_, _, _, rfl⟩, kz⟩
        rcases hjk with rfl | rfl
        · exact iteFB (ne_one _) (nxt _ kC)
        · refine ite2 (fun _ => ?_) fun _ => nxt _ kC
          refine ⟨_, rfl, z100 (by decide : 1 ≤ 100), fun p' np' => ?_⟩
          refine ⟨.list [.int 0], .list [.int 0], .lst (.inl (.inl (fr_upd np' _ _ hD2))) (.cons (.int _) .nil), .lst (.inl (.inl upd_same)) (.cons (.int _) .nil), shaped_one _, shaped_one _, _, rfl, ?_⟩
          exact iteFB (ne_one _) (nxt _ fun b u e => fr_upd np' b u (kC b u e))
    · subst es
      refine hq (.pure (.bool true)) (.lst ds2) ⟨rfl, fun m hm => ?_⟩ (.bl true) F0 Hn (Le.refl _) (finI I0 fa (fun b u n e => kn b u (keep2 b u n e)) (kn _ _ h2) (box_any (bb2 _ b1) x2)) (.bl true)
      have := bb2 _ (bb1 _ hm)
      rw [show m + 2 = m + 1 + 1 by omega]
      exact this
end TT
set_option Elab.async false
set_option linter.all false
set_option maxRecDepth 100000
set_option maxHeartbeats 4000000
namespace TT
open PySem PySem.Spec PyProof.Rows L2 DL
def g_law : TDS := (dSeq (dFor (dRange1 (dCons (dCallG gMax2 (dCons (dC (.int 3)) (dCons (dCallG gMin2 (dCons (dCallG gLen (dCons (dVar 0) dNil)) (dCons (dC (.int 6)) dNil))) dNil))) dNil)) (dgName [] 1)
  (dSeq (dAsg (dCallP S__law_box (dCons (dCallP S__law_cell (dCons (dVar 0) (dCons (dVar 1) dNil))) dNil)) (dgName [] 2))
  (dSeq (dAsg (dCallI S__law_take 2 (dCons (dC (.int 47)) dNil)) (dgName [] 3))
  (dSeq (dFor (dRange1 (dCons (dC (.int 47)) dNil)) (dgName [] 4)
  (dIfS (dNot (dTest (dCallI S__law_class_right 2 (dCons (dOp gMod (dCallG gInt (dCons (dOp gAdd (dVar 3) (dVar 4)) dNil)) (dC (.int 47))) dNil))))
  (dRet (dC (.bool false)))
  dNext))
  (dIfS (dOr (dNot (dTest (dCallI S__law_caught_right 2 dNil))) (dNot (dTest (dCallI S__law_caught_right 2 dNil))))
  (dRet (dC (.bool false)))
  dNext)))))
  (dRet (dC (.bool true))))
theorem sc_law : FnScope ["script", "k", "box", "first", "step"] ["script"] (defScope (top 68)) := ⟨rfl, rfl, rfl, by decide +kernel, rfl, by decide +kernel, by decide +kernel⟩
theorem bd_law : BindsOk "law" (top 68) ["script"] := fun _ _ _ _ _ _ us hl => match us, hl with | [_], _ => rfl
theorem dv_law {P : Program} {w : World} {K : PySem.W.Frag} {mg : Str → Option Value} {base : Heap} (fx : FX P w K mg base) (f : Addr) (cdv : Value) (A : Around) (outer : List Env) (s : Shared) (H : Hp) (E : XK) (hr : Room 10 (A.deeper (envOfC "law" (defScope (top 68)) s.heap.objs.size f cdv))) :
    DSs (cxOf CX0 P w K mg base ["script", "k", "box", "first", "step"] "law" (defScope (top 68)) f cdv A outer s H E).nox W0 [] (defBody (top 68)) g_law :=
  (dss_cons (ds_for PassesOwn.never rfl (di_range1 rfl fx.fa.b_range (da_cons (de_callB_ (g_max2 rfl) rfl fx.fa.b_max (by kernel_rfl) (da_cons de_int (da_cons (de_callB_ (g_min2 rfl) rfl fx.fa.b_min (by kernel_rfl) (da_cons (de_callB_ g_len rfl fx.fa.b_len (by kernel_rfl) (da_cons (de_of (pe_var (i := 0) rfl (.inl rfl))) da_nil)) (da_cons de_int da_nil))) da_nil))) da_nil)) (dg_of (pg_name (i := 1) sc_law.nd rfl (Or.inl rfl)))
  (dss_cons (ds_setN (i := 2) sc_law.nd rfl (Or.inl rfl) (de_kn (Kn.mono (ok__law_box fx.fa) (by decide)) spS.mono hr rfl (da_cons (de_kn (Kn.mono (ok__law_cell fx.fa) (by decide)) spS.mono hr rfl (da_cons (de_of (pe_var (i := 0) rfl (.inl rfl))) (da_cons (de_of (pe_var (i := 1) rfl (.inl rfl))) da_nil))) da_nil)))
  (dss_cons (ds_setN (i := 3) sc_law.nd rfl (Or.inl rfl) (de_knI (Kn.mono (ok__law_take fx.fa) (by decide)) spT.mono hr rfl (pe_var (i := 2) rfl (.inl rfl)) (da_cons de_int da_nil)))
  (dss_cons (ds_for PassesOwn.never rfl (di_range1 rfl fx.fa.b_range (da_cons de_int da_nil)) (dg_of (pg_name (i := 4) sc_law.nd rfl (Or.inl rfl)))
  (dss_one (ds_if (dt_not (dt_val (de_knI (Kn.mono (ok__law_class_right fx) (by decide)) spT.mono hr rfl (pe_var (i := 2) rfl (.inl rfl)) (da_cons (de_bin g_mod (de_callT_ g_int rfl fx.fa.b_int (by kernel_rfl) (da_cons (de_bin g_add (de_of (pe_var (i := 3) rfl (.inl rfl))) (de_of (pe_var (i := 4) rfl (.inl rfl)))) da_nil)) de_int) da_nil))))
  (dss_one (ds_ret de_bl))
  dss_nil)))
  (dss_one (ds_if (DW.dt (dw_or (dt_not (dt_val (de_knI (Kn.mono (ok__law_caught_right fx) (by decide)) spT.mono hr rfl (pe_var (i := 2) rfl (.inl rfl)) da_nil))) (dw_or1 (dt_not (dt_val (de_knI (Kn.mono (ok__law_caught_right fx) (by decide)) spT.mono hr rfl (pe_var (i := 2) rfl (.inl rfl)) da_nil))))))
  (dss_one (ds_ret de_bl))
  dss_nil))))))
  (dss_one (ds_ret de_bl)))
def pre_law (ds : List DV) : Prop := ∃ ns : List Int, ds = [.pure (.list (ns.map PyData.int))] ∧ ns.length ≤ 63
def post_law (_ : List DV) (r : RV) : Prop := r = .pure (.bool true)
def S_law : SpP := spS pre_law post_law
theorem len_law (ds : List DV) (h : pre_law ds) : ds.length = ["script"].length := by
  obtain ⟨_, rfl, _⟩ := h
  rfl
theorem box_mono {m n : Int} {o : OB} (h : BoxOk m o) (l : m ≤ n) : BoxOk n o := by
  obtain ⟨g, f, s, c, e, h1, h2, h3, h4, h5⟩ := h
  exact ⟨g, f, s, c, e, h1, h2, h3, h4, by omega⟩
theorem mem_range0 {n : Int} {d : D} (h : d ∈ rangeD 0 n) : ∃ i : Int, d = .int i ∧ 0 ≤ i ∧ i < n := by
  unfold rangeD at h
  obtain ⟨k, hk, rfl⟩ := List.mem_map.mp h
  have := List.mem_range.mp hk
  exact ⟨_, rfl, by omega, by omega⟩
theorem len_range0 {n : Int} (h : 0 ≤ n) : ((rangeD 0 n).length : Int) = n := by
  unfold rangeD
  rw [List.length_map, List.length_range]
  omega
theorem law_law (ds : List DV) (Q : RV → Prop) (h : pre_law ds) (k : ∀ r, post_law ds r → Q r) : bodyP 5 g_law ds Q := by
  obtain ⟨ns, rfl, hl⟩ := h
  unfold bodyP g_law S__law_box S__law_cell S__law_take S__law_class_right S__law_caught_right
  try simp only [↓e_var, ↓e_dvp, ↓e_dvo, ↓e_dvr, ↓e_c, ↓e_op, ↓e_op2, ↓e_op2C, ↓e_rvp, ↓e_rvt, ↓e_rvs, ↓e_rvSp, ↓e_rvSo, ↓e_fp, ↓e_fs, ↓e_ft, ↓e_fr, ↓e_dl, ↓e_dd, ↓e_ixl, ↓e_ixt, ↓e_atK, ↓e_at0, ↓e_at1, ↓e_at2, ↓e_at3, ↓e_add, ↓e_sub, ↓e_mul, ↓e_ii, ↓e_ci, ↓e_cmpT, ↓e_cmp, ↓e_gB, ↓e_test, ↓e_tst, ↓e_and, ↓e_or, ↓e_not, ↓e_ifs, ↓e_if, ↓e_seq, ↓e_sn, ↓e_sr, ↓e_sb, ↓e_sc, ↓e_next, ↓e_asg, ↓e_gn, ↓e_pp, ↓e_pt, ↓e_pr, ↓e_ps, ↓e_kp, ↓e_kt, ↓e_ks, ↓e_kSp, ↓e_kSo, ↓e_ret, ↓e_drop, ↓e_cg, ↓e_cgK, ↓e_rds0, ↓e_rds, ↓e_oc, ↓e_nil, ↓e_cons, ↓e_int, ↓e_abs, ↓e_len, ↓e_lent, ↓e_callP, ↓e_as0, ↓e_as, ↓e_ap, ↓e_ar, ↓e_asl, ↓e_sps, ↓e_spt, ↓e_item, ↓e_itK, ↓e_itK2, ↓e_ixK, ↓e_n0, ↓e_n1, ↓e_n3, ↓e_np, ↓e_part, ↓e_pk, ↓e_sl, ↓e_sll, ↓e_slt, ↓e_sum, ↓e_sumK, ↓e_all, ↓e_allK, ↓e_tupl, ↓e_tupt, ↓e_lstl, ↓e_lstt, ↓e_max2, ↓e_min2, ↓e_srt, ↓e_tupD, ↓e_lstD, ↓e_ka0, ↓e_ka, ↓e_addt, ↓e_addl, ↓e_neg, ↓e_negK, ↓e_isi, ↓e_isiK, ↓e_isiT, ↓e_isiKT, ↓e_tvK, ↓e_andV, ↓e_orV, ↓e_notV, ↓e_isN, ↓e_isB, ↓e_isnN, ↓e_seqIl, ↓e_seqIt, ↓e_for, ↓e_callI, ↓e_rtp, ↓e_rtt, ↓e_rts, ↓e_rtKo, ↓e_rtKp, ↓e_par, ↓e_chain, ↓e_eqi, ↓e_nei, ↓e_seqI, ↓e_yes, ↓e_comp, ↓e_dcomp, ↓e_wp0, ↓e_wp, ↓List.map_cons, ↓List.map_nil, ↓List.length_cons, ↓List.length_nil, ↓List.cons_append, ↓List.nil_append, ↓List.getElem?_cons_zero, ↓List.getElem?_cons_succ, ↓List.set_cons_zero, ↓List.set_cons_succ, ↓List.replicate, ↓e_rg1, ↓e_rg1K, ↓e_rg2, ↓e_rg2K]
  generalize hN : (if (if 6 < ((ns.map PyData.int).length : Int) then (6 : Int) else ((ns.map PyData.int).length : Int)) > 3 then (if 6 < ((ns.map PyData.int).length : Int) then (6 : Int) else ((ns.map PyData.int).length : Int)) else (3 : Int)) = N
  have hN1 : 0 ≤ N ∧ N ≤ 6 := by
    rw [← hN]
    split <;> split <;> omega
  refine ⟨bnd_of (by omega), ?_⟩
  refine for_k (fun _ r ρ => (∀ d ∈ r, ∃ i : Int, d = .int i ∧ 0 ≤ i ∧ i < 6) ∧ ∃ y1 y2 y3 y4, ρ = [some (.pure (.list (ns.map PyData.int))), y1, y2, y3, y4]) (fun _ _ => False) (fun a d r ρ ⟨hr, y1, y2, y3, y4, e⟩ K kn kc kr => ?_) (fun _ _ h => h.elim) (fun a ρ ⟨_, y1, y2, y3, y4, e⟩ => ?_) (a := []) ⟨fun d hd => ?_, none, none, none, none, rfl⟩
  · obtain ⟨i, e, h0, h1⟩ := mem_range0 hd
    exact ⟨i, e, h0, by omega⟩
  · subst e
    obtain ⟨i, rfl, i0, i1⟩ := hr d List.mem_cons_self
    try simp only [↓e_var, ↓e_dvp, ↓e_dvo, ↓e_dvr, ↓e_c, ↓e_op, ↓e_op2, ↓e_op2C, ↓e_rvp, ↓e_rvt, ↓e_rvs, ↓e_rvSp, ↓e_rvSo, ↓e_fp, ↓e_fs, ↓e_ft, ↓e_fr, ↓e_dl, ↓e_dd, ↓e_ixl, ↓e_ixt, ↓e_atK, ↓e_at0, ↓e_at1, ↓e_at2, ↓e_at3, ↓e_add, ↓e_sub, ↓e_mul, ↓e_ii, ↓e_ci, ↓e_cmpT, ↓e_cmp, ↓e_gB, ↓e_test, ↓e_tst, ↓e_and, ↓e_or, ↓e_not, ↓e_ifs, ↓e_if, ↓e_seq, ↓e_sn, ↓e_sr, ↓e_sb, ↓e_sc, ↓e_next, ↓e_asg, ↓e_gn, ↓e_pp, ↓e_pt, ↓e_pr, ↓e_ps, ↓e_kp, ↓e_kt, ↓e_ks, ↓e_kSp, ↓e_kSo, ↓e_ret, ↓e_drop, ↓e_cg, ↓e_cgK, ↓e_rds0, ↓e_rds, ↓e_oc, ↓e_nil, ↓e_cons, ↓e_int, ↓e_abs, ↓e_len, ↓e_lent, ↓e_callP, ↓e_as0, ↓e_as, ↓e_ap, ↓e_ar, ↓e_asl, ↓e_sps, ↓e_spt, ↓e_item, ↓e_itK, ↓e_itK2, ↓e_ixK, ↓e_n0, ↓e_n1, ↓e_n3, ↓e_np, ↓e_part, ↓e_pk, ↓e_sl, ↓e_sll, ↓e_slt, ↓e_sum, ↓e_sumK, ↓e_all, ↓e_allK, ↓e_tupl, ↓e_tupt, ↓e_lstl, ↓e_lstt, ↓e_max2, ↓e_min2, ↓e_srt, ↓e_tupD, ↓e_lstD, ↓e_ka0, ↓e_ka, ↓e_addt, ↓e_addl, ↓e_neg, ↓e_negK, ↓e_isi, ↓e_isiK, ↓e_isiT, ↓e_isiKT, ↓e_tvK, ↓e_andV, ↓e_orV, ↓e_notV, ↓e_isN, ↓e_isB, ↓e_isnN, ↓e_seqIl, ↓e_seqIt, ↓e_for, ↓e_callI, ↓e_rtp, ↓e_rtt, ↓e_rts, ↓e_rtKo, ↓e_rtKp, ↓e_par, ↓e_chain, ↓e_eqi, ↓e_nei, ↓e_seqI, ↓e_yes, ↓e_comp, ↓e_dcomp, ↓e_wp0, ↓e_wp, ↓List.map_cons, ↓List.map_nil, ↓List.length_cons, ↓List.length_nil, ↓List.cons_append, ↓List.nil_append, ↓List.getElem?_cons_zero, ↓List.getElem?_cons_succ, ↓List.set_cons_zero, ↓List.set_cons_succ, ↓List.replicate, ↓e_rg1, ↓e_rg1K, ↓e_rg2, ↓e_rg2K]
    refine ⟨by simp, ⟨ns, i, rfl, i0, by omega, hl⟩, fun r1 ⟨j, e⟩ => ?_⟩
    subst e
    refine ⟨trivial, ?_⟩
    try simp only [↓e_var, ↓e_dvp, ↓e_dvo, ↓e_dvr, ↓e_c, ↓e_op, ↓e_op2, ↓e_op2C, ↓e_rvp, ↓e_rvt, ↓e_rvs, ↓e_rvSp, ↓e_rvSo, ↓e_fp, ↓e_fs, ↓e_ft, ↓e_fr, ↓e_dl, ↓e_dd, ↓e_ixl, ↓e_ixt, ↓e_atK, ↓e_at0, ↓e_at1, ↓e_at2, ↓e_at3, ↓e_add, ↓e_sub, ↓e_mul, ↓e_ii, ↓e_ci, ↓e_cmpT, ↓e_cmp, ↓e_gB, ↓e_test, ↓e_tst, ↓e_and, ↓e_or, ↓e_not, ↓e_ifs, ↓e_if, ↓e_seq, ↓e_sn, ↓e_sr, ↓e_sb, ↓e_sc, ↓e_next, ↓e_asg, ↓e_gn, ↓e_pp, ↓e_pt, ↓e_pr, ↓e_ps, ↓e_kp, ↓e_kt, ↓e_ks, ↓e_kSp, ↓e_kSo, ↓e_ret, ↓e_drop, ↓e_cg, ↓e_cgK, ↓e_rds0, ↓e_rds, ↓e_oc, ↓e_nil, ↓e_cons, ↓e_int, ↓e_abs, ↓e_len, ↓e_lent, ↓e_callP, ↓e_as0, ↓e_as, ↓e_ap, ↓e_ar, ↓e_asl, ↓e_sps, ↓e_spt, ↓e_item, ↓e_itK, ↓e_itK2, ↓e_ixK, ↓e_n0, ↓e_n1, ↓e_n3, ↓e_np, ↓e_part, ↓e_pk, ↓e_sl, ↓e_sll, ↓e_slt, ↓e_sum, ↓e_sumK, ↓e_all, ↓e_allK, ↓e_tupl, ↓e_tupt, ↓e_lstl, ↓e_lstt, ↓e_max2, ↓e_min2, ↓e_srt, ↓e_tupD, ↓e_lstD, ↓e_ka0, ↓e_ka, ↓e_addt, ↓e_addl, ↓e_neg, ↓e_negK, ↓e_isi, ↓e_isiK, ↓e_isiT, ↓e_isiKT, ↓e_tvK, ↓e_andV, ↓e_orV, ↓e_notV, ↓e_isN, ↓e_isB, ↓e_isnN, ↓e_seqIl, ↓e_seqIt, ↓e_for, ↓e_callI, ↓e_rtp, ↓e_rtt, ↓e_rts, ↓e_rtKo, ↓e_rtKp, ↓e_par, ↓e_chain, ↓e_eqi, ↓e_nei, ↓e_seqI, ↓e_yes, ↓e_comp, ↓e_dcomp, ↓e_wp0, ↓e_wp, ↓List.map_cons, ↓List.map_nil, ↓List.length_cons, ↓List.length_nil, ↓List.cons_append, ↓List.nil_append, ↓List.getElem?_cons_zero, ↓List.getElem?_cons_succ, ↓List.set_cons_zero, ↓List.set_cons_succ, ↓List.replicate, ↓e_rg1, ↓e_rg1K, ↓e_rg2, ↓e_rg2K]
    refine ⟨⟨j, rfl⟩, fun r2 ⟨o, e, hb⟩ => ?_⟩
    subst e
    refine ⟨trivial, ?_⟩
    try simp only [↓e_var, ↓e_dvp, ↓e_dvo, ↓e_dvr, ↓e_c, ↓e_op, ↓e_op2, ↓e_op2C, ↓e_rvp, ↓e_rvt, ↓e_rvs, ↓e_rvSp, ↓e_rvSo, ↓e_fp, ↓e_fs, ↓e_ft, ↓e_fr, ↓e_dl, ↓e_dd, ↓e_ixl, ↓e_ixt, ↓e_atK, ↓e_at0, ↓e_at1, ↓e_at2, ↓e_at3, ↓e_add, ↓e_sub, ↓e_mul, ↓e_ii, ↓e_ci, ↓e_cmpT, ↓e_cmp, ↓e_gB, ↓e_test, ↓e_tst, ↓e_and, ↓e_or, ↓e_not, ↓e_ifs, ↓e_if, ↓e_seq, ↓e_sn, ↓e_sr, ↓e_sb, ↓e_sc, ↓e_next, ↓e_asg, ↓e_gn, ↓e_pp, ↓e_pt, ↓e_pr, ↓e_ps, ↓e_kp, ↓e_kt, ↓e_ks, ↓e_kSp, ↓e_kSo, ↓e_ret, ↓e_drop, ↓e_cg, ↓e_cgK, ↓e_rds0, ↓e_rds, ↓e_oc, ↓e_nil, ↓e_cons, ↓e_int, ↓e_abs, ↓e_len, ↓e_lent, ↓e_callP, ↓e_as0, ↓e_as, ↓e_ap, ↓e_ar, ↓e_asl, ↓e_sps, ↓e_spt, ↓e_item, ↓e_itK, ↓e_itK2, ↓e_ixK, ↓e_n0, ↓e_n1, ↓e_n3, ↓e_np, ↓e_part, ↓e_pk, ↓e_sl, ↓e_sll, ↓e_slt, ↓e_sum, ↓e_sumK, ↓e_all, ↓e_allK, ↓e_tupl, ↓e_tupt, ↓e_lstl, ↓e_lstt, ↓e_max2, ↓e_min2, ↓e_srt, ↓e_tupD, ↓e_lstD, ↓e_ka0, ↓e_ka, ↓e_addt, ↓e_addl, ↓e_neg, ↓e_negK, ↓e_isi, ↓e_isiK, ↓e_isiT, ↓e_isiKT, ↓e_tvK, ↓e_andV, ↓e_orV, ↓e_notV, ↓e_isN, ↓e_isB, ↓e_isnN, ↓e_seqIl, ↓e_seqIt, ↓e_for, ↓e_callI, ↓e_rtp, ↓e_rtt, ↓e_rts, ↓e_rtKo, ↓e_rtKp, ↓e_par, ↓e_chain, ↓e_eqi, ↓e_nei, ↓e_seqI, ↓e_yes, ↓e_comp, ↓e_dcomp, ↓e_wp0, ↓e_wp, ↓List.map_cons, ↓List.map_nil, ↓List.length_cons, ↓List.length_nil, ↓List.cons_append, ↓List.nil_append, ↓List.getElem?_cons_zero, ↓List.getElem?_cons_succ, ↓List.set_cons_zero, ↓List.set_cons_succ, ↓List.replicate, ↓e_rg1, ↓e_rg1K, ↓e_rg2, ↓e_rg2K]
    refine ⟨by simp, ⟨o, rfl⟩, o, rfl, ⟨47, box_mono hb (by decide), rfl, by decide, by decide⟩, fun r3 o1 ⟨first, e, f0, f1, hb1⟩ => ?_⟩
    subst e
    refine ⟨trivial, ?_⟩
    have hb1 := hb1 0 hb
    try simp only [↓e_var, ↓e_dvp, ↓e_dvo, ↓e_dvr, ↓e_c, ↓e_op, ↓e_op2, ↓e_op2C, ↓e_rvp, ↓e_rvt, ↓e_rvs, ↓e_rvSp, ↓e_rvSo, ↓e_fp, ↓e_fs, ↓e_ft, ↓e_fr, ↓e_dl, ↓e_dd, ↓e_ixl, ↓e_ixt, ↓e_atK, ↓e_at0, ↓e_at1, ↓e_at2, ↓e_at3, ↓e_add, ↓e_sub, ↓e_mul, ↓e_ii, ↓e_ci, ↓e_cmpT, ↓e_cmp, ↓e_gB, ↓e_test, ↓e_tst, ↓e_and, ↓e_or, ↓e_not, ↓e_ifs, ↓e_if, ↓e_seq, ↓e_sn, ↓e_sr, ↓e_sb, ↓e_sc, ↓e_next, ↓e_asg, ↓e_gn, ↓e_pp, ↓e_pt, ↓e_pr, ↓e_ps, ↓e_kp, ↓e_kt, ↓e_ks, ↓e_kSp, ↓e_kSo, ↓e_ret, ↓e_drop, ↓e_cg, ↓e_cgK, ↓e_rds0, ↓e_rds, ↓e_oc, ↓e_nil, ↓e_cons, ↓e_int, ↓e_abs, ↓e_len, ↓e_lent, ↓e_callP, ↓e_as0, ↓e_as, ↓e_ap, ↓e_ar, ↓e_asl, ↓e_sps, ↓e_spt, ↓e_item, ↓e_itK, ↓e_itK2, ↓e_ixK, ↓e_n0, ↓e_n1, ↓e_n3, ↓e_np, ↓e_part, ↓e_pk, ↓e_sl, ↓e_sll, ↓e_slt, ↓e_sum, ↓e_sumK, ↓e_all, ↓e_allK, ↓e_tupl, ↓e_tupt, ↓e_lstl, ↓e_lstt, ↓e_max2, ↓e_min2, ↓e_srt, ↓e_tupD, ↓e_lstD, ↓e_ka0, ↓e_ka, ↓e_addt, ↓e_addl, ↓e_neg, ↓e_negK, ↓e_isi, ↓e_isiK, ↓e_isiT, ↓e_isiKT, ↓e_tvK, ↓e_andV, ↓e_orV, ↓e_notV, ↓e_isN, ↓e_isB, ↓e_isnN, ↓e_seqIl, ↓e_seqIt, ↓e_for, ↓e_callI, ↓e_rtp, ↓e_rtt, ↓e_rts, ↓e_rtKo, ↓e_rtKp, ↓e_par, ↓e_chain, ↓e_eqi, ↓e_nei, ↓e_seqI, ↓e_yes, ↓e_comp, ↓e_dcomp, ↓e_wp0, ↓e_wp, ↓List.map_cons, ↓List.map_nil, ↓List.length_cons, ↓List.length_nil, ↓List.cons_append, ↓List.nil_append, ↓List.getElem?_cons_zero, ↓List.getElem?_cons_succ, ↓List.set_cons_zero, ↓List.set_cons_succ, ↓List.replicate, ↓e_rg1, ↓e_rg1K, ↓e_rg2, ↓e_rg2K]
    have f1 := f1 47 rfl
    refine ⟨by simp, bnd_of (by decide), ?_⟩
    have l47 : (rangeD 0 47).length = 47 := by have := len_range0 (n := 47) (by decide); omega
    refine for_k (fun b r' ρ => (∀ d ∈ r', ∃ i : Int, d = .int i ∧ 0 ≤ i ∧ i < 47) ∧ b.length + r'.length = 47 ∧ ∃ o' y4, BoxOk (1 + 3 * (b.length : Int)) o' ∧ ρ = [some (.pure (.list (ns.map PyData.int))), some (.pure (.int i)), some (.own o'), some (.pure (.int first)), y4]) (fun _ _ => False)
      (fun b d r' ρ ⟨hr', hlen, o', y4, hb', e⟩ K2 kn2 kc2 kr2 => ?_) (fun _ _ h => h.elim) (fun b ρ ⟨_, hlen, o', y4, hb', e⟩ => ?_) (a := []) ⟨fun d hd => ?_, by rw [l47]; rfl, o1, y4, box_mono hb1 (by decide), rfl⟩
    · exact mem_range0 hd
    · subst e
      obtain ⟨st, rfl, s0, s1⟩ := hr' d List.mem_cons_self
      try simp only [↓e_var, ↓e_dvp, ↓e_dvo, ↓e_dvr, ↓e_c, ↓e_op, ↓e_op2, ↓e_op2C, ↓e_rvp, ↓e_rvt, ↓e_rvs, ↓e_rvSp, ↓e_rvSo, ↓e_fp, ↓e_fs, ↓e_ft, ↓e_fr, ↓e_dl, ↓e_dd, ↓e_ixl, ↓e_ixt, ↓e_atK, ↓e_at0, ↓e_at1, ↓e_at2, ↓e_at3, ↓e_add, ↓e_sub, ↓e_mul, ↓e_ii, ↓e_ci, ↓e_cmpT, ↓e_cmp, ↓e_gB, ↓e_test, ↓e_tst, ↓e_and, ↓e_or, ↓e_not, ↓e_ifs, ↓e_if, ↓e_seq, ↓e_sn, ↓e_sr, ↓e_sb, ↓e_sc, ↓e_next, ↓e_asg, ↓e_gn, ↓e_pp, ↓e_pt, ↓e_pr, ↓e_ps, ↓e_kp, ↓e_kt, ↓e_ks, ↓e_kSp, ↓e_kSo, ↓e_ret, ↓e_drop, ↓e_cg, ↓e_cgK, ↓e_rds0, ↓e_rds, ↓e_oc, ↓e_nil, ↓e_cons, ↓e_int, ↓e_abs, ↓e_len, ↓e_lent, ↓e_callP, ↓e_as0, ↓e_as, ↓e_ap, ↓e_ar, ↓e_asl, ↓e_sps, ↓e_spt, ↓e_item, ↓e_itK, ↓e_itK2, ↓e_ixK, ↓e_n0, ↓e_n1, ↓e_n3, ↓e_np, ↓e_part, ↓e_pk, ↓e_sl, ↓e_sll, ↓e_slt, ↓e_sum, ↓e_sumK, ↓e_all, ↓e_allK, ↓e_tupl, ↓e_tupt, ↓e_lstl, ↓e_lstt, ↓e_max2, ↓e_min2, ↓e_srt, ↓e_tupD, ↓e_lstD, ↓e_ka0, ↓e_ka, ↓e_addt, ↓e_addl, ↓e_neg, ↓e_negK, ↓e_isi, ↓e_isiK, ↓e_isiT, ↓e_isiKT, ↓e_tvK, ↓e_andV, ↓e_orV, ↓e_notV, ↓e_isN, ↓e_isB, ↓e_isnN, ↓e_seqIl, ↓e_seqIt, ↓e_for, ↓e_callI, ↓e_rtp, ↓e_rtt, ↓e_rts, ↓e_rtKo, ↓e_rtKp, ↓e_par, ↓e_chain, ↓e_eqi, ↓e_nei, ↓e_seqI, ↓e_yes, ↓e_comp, ↓e_dcomp, ↓e_wp0, ↓e_wp, ↓List.map_cons, ↓List.map_nil, ↓List.length_cons, ↓List.length_nil, ↓List.cons_append, ↓List.nil_append, ↓List.getElem?_cons_zero, ↓List.getElem?_cons_succ, ↓List.set_cons_zero, ↓List.set_cons_succ, ↓List.replicate, ↓e_rg1, ↓e_rg1K, ↓e_rg2, ↓e_rg2K]
      rw [List.length_cons] at hlen
      have hm : 0 ≤ (first + st) % 47 := Int.emod_nonneg _ (by decide)
      have hm2 : (first + st) % 47 < 47 := Int.emod_lt_of_pos _ (by decide)
      refine ⟨by simp, ⟨o', rfl⟩, by decide, o', rfl, ⟨box_mono hb' (by omega), ((first + st) % 47).toNat, by rw [Int.toNat_of_nonneg hm], by omega⟩, fun r4 o2 ⟨e, hb2⟩ => ?_⟩
      subst e
      refine ⟨trivial, ?_⟩
      try simp only [↓e_var, ↓e_dvp, ↓e_dvo, ↓e_dvr, ↓e_c, ↓e_op, ↓e_op2, ↓e_op2C, ↓e_rvp, ↓e_rvt, ↓e_rvs, ↓e_rvSp, ↓e_rvSo, ↓e_fp, ↓e_fs, ↓e_ft, ↓e_fr, ↓e_dl, ↓e_dd, ↓e_ixl, ↓e_ixt, ↓e_atK, ↓e_at0, ↓e_at1, ↓e_at2, ↓e_at3, ↓e_add, ↓e_sub, ↓e_mul, ↓e_ii, ↓e_ci, ↓e_cmpT, ↓e_cmp, ↓e_gB, ↓e_test, ↓e_tst, ↓e_and, ↓e_or, ↓e_not, ↓e_ifs, ↓e_if, ↓e_seq, ↓e_sn, ↓e_sr, ↓e_sb, ↓e_sc, ↓e_next, ↓e_asg, ↓e_gn, ↓e_pp, ↓e_pt, ↓e_pr, ↓e_ps, ↓e_kp, ↓e_kt, ↓e_ks, ↓e_kSp, ↓e_kSo, ↓e_ret, ↓e_drop, ↓e_cg, ↓e_cgK, ↓e_rds0, ↓e_rds, ↓e_oc, ↓e_nil, ↓e_cons, ↓e_int, ↓e_abs, ↓e_len, ↓e_lent, ↓e_callP, ↓e_as0, ↓e_as, ↓e_ap, ↓e_ar, ↓e_asl, ↓e_sps, ↓e_spt, ↓e_item, ↓e_itK, ↓e_itK2, ↓e_ixK, ↓e_n0, ↓e_n1, ↓e_n3, ↓e_np, ↓e_part, ↓e_pk, ↓e_sl, ↓e_sll, ↓e_slt, ↓e_sum, ↓e_sumK, ↓e_all, ↓e_allK, ↓e_tupl, ↓e_tupt, ↓e_lstl, ↓e_lstt, ↓e_max2, ↓e_min2, ↓e_srt, ↓e_tupD, ↓e_lstD, ↓e_ka0, ↓e_ka, ↓e_addt, ↓e_addl, ↓e_neg, ↓e_negK, ↓e_isi, ↓e_isiK, ↓e_isiT, ↓e_isiKT, ↓e_tvK, ↓e_andV, ↓e_orV, ↓e_notV, ↓e_isN, ↓e_isB, ↓e_isnN, ↓e_seqIl, ↓e_seqIt, ↓e_for, ↓e_callI, ↓e_rtp, ↓e_rtt, ↓e_rts, ↓e_rtKo, ↓e_rtKp, ↓e_par, ↓e_chain, ↓e_eqi, ↓e_nei, ↓e_seqI, ↓e_yes, ↓e_comp, ↓e_dcomp, ↓e_wp0, ↓e_wp, ↓List.map_cons, ↓List.map_nil, ↓List.length_cons, ↓List.length_nil, ↓List.cons_append, ↓List.nil_append, ↓List.getElem?_cons_zero, ↓List.getElem?_cons_succ, ↓List.set_cons_zero, ↓List.set_cons_succ, ↓List.replicate, ↓e_rg1, ↓e_rg1K, ↓e_rg2, ↓e_rg2K]
      refine kn2 _ ⟨fun d hd => hr' d (List.mem_cons_of_mem _ hd), by rw [List.length_append, List.length_singleton]; omega, o2, _, ?_, rfl⟩
      have := hb2 _ (by omega) hb'
      rw [List.length_append, List.length_singleton]
      exact box_mono this (by omega)
    · subst e
      try simp only [↓e_var, ↓e_dvp, ↓e_dvo, ↓e_dvr, ↓e_c, ↓e_op, ↓e_op2, ↓e_op2C, ↓e_rvp, ↓e_rvt, ↓e_rvs, ↓e_rvSp, ↓e_rvSo, ↓e_fp, ↓e_fs, ↓e_ft, ↓e_fr, ↓e_dl, ↓e_dd, ↓e_ixl, ↓e_ixt, ↓e_atK, ↓e_at0, ↓e_at1, ↓e_at2, ↓e_at3, ↓e_add, ↓e_sub, ↓e_mul, ↓e_ii, ↓e_ci, ↓e_cmpT, ↓e_cmp, ↓e_gB, ↓e_test, ↓e_tst, ↓e_and, ↓e_or, ↓e_not, ↓e_ifs, ↓e_if, ↓e_seq, ↓e_sn, ↓e_sr, ↓e_sb, ↓e_sc, ↓e_next, ↓e_asg, ↓e_gn, ↓e_pp, ↓e_pt, ↓e_pr, ↓e_ps, ↓e_kp, ↓e_kt, ↓e_ks, ↓e_kSp, ↓e_kSo, ↓e_ret, ↓e_drop, ↓e_cg, ↓e_cgK, ↓e_rds0, ↓e_rds, ↓e_oc, ↓e_nil, ↓e_cons, ↓e_int, ↓e_abs, ↓e_len, ↓e_lent, ↓e_callP, ↓e_as0, ↓e_as, ↓e_ap, ↓e_ar, ↓e_asl, ↓e_sps, ↓e_spt, ↓e_item, ↓e_itK, ↓e_itK2, ↓e_ixK, ↓e_n0, ↓e_n1, ↓e_n3, ↓e_np, ↓e_part, ↓e_pk, ↓e_sl, ↓e_sll, ↓e_slt, ↓e_sum, ↓e_sumK, ↓e_all, ↓e_allK, ↓e_tupl, ↓e_tupt, ↓e_lstl, ↓e_lstt, ↓e_max2, ↓e_min2, ↓e_srt, ↓e_tupD, ↓e_lstD, ↓e_ka0, ↓e_ka, ↓e_addt, ↓e_addl, ↓e_neg, ↓e_negK, ↓e_isi, ↓e_isiK, ↓e_isiT, ↓e_isiKT, ↓e_tvK, ↓e_andV, ↓e_orV, ↓e_notV, ↓e_isN, ↓e_isB, ↓e_isnN, ↓e_seqIl, ↓e_seqIt, ↓e_for, ↓e_callI, ↓e_rtp, ↓e_rtt, ↓e_rts, ↓e_rtKo, ↓e_rtKp, ↓e_par, ↓e_chain, ↓e_eqi, ↓e_nei, ↓e_seqI, ↓e_yes, ↓e_comp, ↓e_dcomp, ↓e_wp0, ↓e_wp, ↓List.map_cons, ↓List.map_nil, ↓List.length_cons, ↓List.length_nil, ↓List.cons_append, ↓List.nil_append, ↓List.getElem?_cons_zero, ↓List.getElem?_cons_succ, ↓List.set_cons_zero, ↓List.set_cons_succ, ↓List.replicate, ↓e_rg1, ↓e_rg1K, ↓e_rg2, ↓e_rg2K]
      rw [List.length_nil] at hlen
      refine ⟨⟨o', rfl⟩, o', rfl, ⟨box_mono hb' (by omega), rfl⟩, fun r4 o2 ⟨e, hb2⟩ => ?_⟩
      subst e
      refine ⟨trivial, true, rfl, iteFB rfl ?_⟩
      refine ⟨⟨o2, rfl⟩, o2, rfl, ⟨box_mono (hb2 _ hb') (by omega), rfl⟩, fun r5 o3 ⟨e, hb3⟩ => ?_⟩
      subst e
      refine ⟨trivial, true, rfl, iteFB rfl ?_⟩
      exact kn _ ⟨fun d hd => hr d (List.mem_cons_of_mem _ hd), _, _, _, _, rfl⟩
  · subst e
    try simp only [↓e_var, ↓e_dvp, ↓e_dvo, ↓e_dvr, ↓e_c, ↓e_op, ↓e_op2, ↓e_op2C, ↓e_rvp, ↓e_rvt, ↓e_rvs, ↓e_rvSp, ↓e_rvSo, ↓e_fp, ↓e_fs, ↓e_ft, ↓e_fr, ↓e_dl, ↓e_dd, ↓e_ixl, ↓e_ixt, ↓e_atK, ↓e_at0, ↓e_at1, ↓e_at2, ↓e_at3, ↓e_add, ↓e_sub, ↓e_mul, ↓e_ii, ↓e_ci, ↓e_cmpT, ↓e_cmp, ↓e_gB, ↓e_test, ↓e_tst, ↓e_and, ↓e_or, ↓e_not, ↓e_ifs, ↓e_if, ↓e_seq, ↓e_sn, ↓e_sr, ↓e_sb, ↓e_sc, ↓e_next, ↓e_asg, ↓e_gn, ↓e_pp, ↓e_pt, ↓e_pr, ↓e_ps, ↓e_kp, ↓e_kt, ↓e_ks, ↓e_kSp, ↓e_kSo, ↓e_ret, ↓e_drop, ↓e_cg, ↓e_cgK, ↓e_rds0, ↓e_rds, ↓e_oc, ↓e_nil, ↓e_cons, ↓e_int, ↓e_abs, ↓e_len, ↓e_lent, ↓e_callP, ↓e_as0, ↓e_as, ↓e_ap, ↓e_ar, ↓e_asl, ↓e_sps, ↓e_spt, ↓e_item, ↓e_itK, ↓e_itK2, ↓e_ixK, ↓e_n0, ↓e_n1, ↓e_n3, ↓e_np, ↓e_part, ↓e_pk, ↓e_sl, ↓e_sll, ↓e_slt, ↓e_sum, ↓e_sumK, ↓e_all, ↓e_allK, ↓e_tupl, ↓e_tupt, ↓e_lstl, ↓e_lstt, ↓e_max2, ↓e_min2, ↓e_srt, ↓e_tupD, ↓e_lstD, ↓e_ka0, ↓e_ka, ↓e_addt, ↓e_addl, ↓e_neg, ↓e_negK, ↓e_isi, ↓e_isiK, ↓e_isiT, ↓e_isiKT, ↓e_tvK, ↓e_andV, ↓e_orV, ↓e_notV, ↓e_isN, ↓e_isB, ↓e_isnN, ↓e_seqIl, ↓e_seqIt, ↓e_for, ↓e_callI, ↓e_rtp, ↓e_rtt, ↓e_rts, ↓e_rtKo, ↓e_rtKp, ↓e_par, ↓e_chain, ↓e_eqi, ↓e_nei, ↓e_seqI, ↓e_yes, ↓e_comp, ↓e_dcomp, ↓e_wp0, ↓e_wp, ↓List.map_cons, ↓List.map_nil, ↓List.length_cons, ↓List.length_nil, ↓List.cons_append, ↓List.nil_append, ↓List.getElem?_cons_zero, ↓List.getElem?_cons_succ, ↓List.set_cons_zero, ↓List.set_cons_succ, ↓List.replicate, ↓e_rg1, ↓e_rg1K, ↓e_rg2, ↓e_rg2K]
    exact k _ rfl
theorem ok_law {P : Program} {w : World} {K : PySem.W.Frag} {mg : PySem.Str → Option Value} {base : Heap} (fx : FX P w K mg base) : Kn P w K mg base 11 "law" (top 68) ["script"] (spP ⟨P, w, K⟩ S_law) :=
  kn_p fx.fa.d_law sc_law bd_law len_law g_law (dv_law fx) law_law
end TT
set_option Elab.async false
set_option linter.all false
set_option maxRecDepth 100000
set_option maxHeartbeats 0
namespace TT
open PySem PySem.Spec PyProof.Rows L2 DL
section
variable {P : Program} {w : World} {K : PySem.W.Frag} {mg : PySem.Str → Option Value} {base : Heap} {C CL fI : Addr} {f qual msg : PySem.Str} {st : Stmt} {fd : FuncData}
/-- an __init__ with one field -/
theorem initOk_f (x : HB.ExK K C fI (some f)) (F : FunD K "__init__" qual (defArgs st) (defBody st) (defScope st) [] [] fI fd) (sc : FnScope ["self", f] ["self", f] (defScope st)) (hb : L2.Binds K fd ["self", f] []) (hk : KwB K fd ["self", f] 1 [f] [0])
    (hd : ∀ (cdv : Value) (A : Around) (outer : List Env) (s : Shared) (H : Hp) (E : XK), PSs (cxOf CX0 P w K mg base ["self", f] qual (defScope st) fI cdv A outer s H E).nox (defBody st) (tSeq (tDrop (tVeI K (tCons (tVar 0) (tCons (tC (.str msg)) tNil)))) (tOst K f (tVar 0) (tVar 1)))) : InitOk P w K mg base C fI (some f) := by
  refine ⟨fd, F.ok sc (fun vs H Q E h => ?_) fun cdv A outer s H vs Q E hr h => ⟨_, PSs.nox (hd cdv A outer s H E), ?_⟩, hb, hk⟩
  · obtain ⟨_, _, rfl, _⟩ := h
    rfl
  · obtain ⟨a, v, rfl, e, q⟩ := h
    exact ⟨_, rfl, a, C, [_], rfl, by show 1 ≤ 1000; omega, x.oex, e, _, rfl, _, rfl, a, C, rfl, x.oex, x.fld f rfl, .inl ⟨e, fun d nd hd => q d nd hd⟩⟩
theorem initOk_0 (x : HB.ExK K C fI none) (F : FunD K "__init__" qual (defArgs st) (defBody st) (defScope st) [] [] fI fd) (sc : FnScope ["self"] ["self"] (defScope st)) (hb : L2.Binds K fd ["self"] [])
    (hd : ∀ (cdv : Value) (A : Around) (outer : List Env) (s : Shared) (H : Hp) (E : XK), PSs (cxOf CX0 P w K mg base ["self"] qual (defScope st) fI cdv A outer s H E).nox (defBody st) (tDrop (tVeI K (tCons (tVar 0) (tCons (tC (.str msg)) tNil))))) : InitOk P w K mg base C fI none := by
  refine ⟨fd, F.ok sc (fun vs H Q E h => ?_) fun cdv A outer s H vs Q E hr h => ⟨_, PSs.nox (hd cdv A outer s H E), ?_⟩, hb⟩
  · obtain ⟨_, rfl, _⟩ := h
    rfl
  · obtain ⟨a, rfl, e, q⟩ := h
    exact ⟨_, rfl, a, C, [_], rfl, by show 1 ≤ 1000; omega, x.oex, e, q⟩
end
theorem all47 {p : Nat → Prop} (h0 : p 0) (h1 : p 1) (h2 : p 2) (h3 : p 3) (h4 : p 4) (h5 : p 5) (h6 : p 6) (h7 : p 7) (h8 : p 8) (h9 : p 9) (h10 : p 10) (h11 : p 11) (h12 : p 12) (h13 : p 13) (h14 : p 14) (h15 : p 15) (h16 : p 16) (h17 : p 17) (h18 : p 18) (h19 : p 19) (h20 : p 20) (h21 : p 21) (h22 : p 22) (h23 : p 23) (h24 : p 24) (h25 : p 25) (h26 : p 26) (h27 : p 27) (h28 : p 28) (h29 : p 29) (h30 : p 30) (h31 : p 31) (h32 : p 32) (h33 : p 33) (h34 : p 34) (h35 : p 35) (h36 : p 36) (h37 : p 37) (h38 : p 38) (h39 : p 39) (h40 : p 40) (h41 : p 41) (h42 : p 42) (h43 : p 43) (h44 : p 44) (h45 : p 45) (h46 : p 46) : ∀ i, i < 47 → p i := fun i hi => match i, hi with
  | 0, _ => h0
  | 1, _ => h1
  | 2, _ => h2
  | 3, _ => h3
  | 4, _ => h4
  | 5, _ => h5
  | 6, _ => h6
  | 7, _ => h7
  | 8, _ => h8
  | 9, _ => h9
  | 10, _ => h10
  | 11, _ => h11
  | 12, _ => h12
  | 13, _ => h13
  | 14, _ => h14
  | 15, _ => h15
  | 16, _ => h16
  | 17, _ => h17
  | 18, _ => h18
  | 19, _ => h19
  | 20, _ => h20
  | 21, _ => h21
  | 22, _ => h22
  | 23, _ => h23
  | 24, _ => h24
  | 25, _ => h25
  | 26, _ => h26
  | 27, _ => h27
  | 28, _ => h28
  | 29, _ => h29
  | 30, _ => h30
  | 31, _ => h31
  | 32, _ => h32
  | 33, _ => h33
  | 34, _ => h34
  | 35, _ => h35
  | 36, _ => h36
  | 37, _ => h37
  | 38, _ => h38
  | 39, _ => h39
  | 40, _ => h40
  | 41, _ => h41
  | 42, _ => h42
  | 43, _ => h43
  | 44, _ => h44
  | 45, _ => h45
  | 46, _ => h46
  | n + 47, h => absurd h (by omega)
theorem ini_0 {P : Program} {w : World} {K : PySem.W.Frag} {mg : PySem.Str → Option Value} {base : Heap} (gL : mg "LookError" = some (.ref T99.lkE)) (bk : HB.BaseK K T99.lkE) (x : HB.ExK K (cC 0) (cI 0) (cF 0)) {fd : FuncData} (F : FunD K "__init__" "InvalidBase.__init__" (defArgs (T99.mth 2 0)) (defBody (T99.mth 2 0)) (defScope (T99.mth 2 0)) [] [] (cI 0) fd) : InitOk P w K mg base (cC 0) (cI 0) (cF 0) := by
  have sc : FnScope ["self", "given"] ["self", "given"] (defScope (T99.mth 2 0)) := ⟨rfl, rfl, rfl, by decide +kernel, rfl, by decide +kernel, by decide +kernel⟩
  exact initOk_f (f := "given") x F sc (F.bindsN fun _ _ _ _ _ _ us hl => match us, hl with | [_, _], _ => rfl) (kwb_of F fun _ _ _ _ _ _ us ws h1 h2 => match us, ws, h1, h2 with | [_], [_], _, _ => rfl)
    fun cdv A outer s H E => pss_cons (ps_expr (pe_basinit rfl gL bk.rd bk.fc (pa_cons (pv 0) (pa_cons pe_str pa_nil)))) (pss_one (ps_ost (pv 0) (pv 1)))
theorem ini_1 {P : Program} {w : World} {K : PySem.W.Frag} {mg : PySem.Str → Option Value} {base : Heap} (gL : mg "LookError" = some (.ref T99.lkE)) (bk : HB.BaseK K T99.lkE) (x : HB.ExK K (cC 1) (cI 1) (cF 1)) {fd : FuncData} (F : FunD K "__init__" "InvalidChances.__init__" (defArgs (T99.mth 3 0)) (defBody (T99.mth 3 0)) (defScope (T99.mth 3 0)) [] [] (cI 1) fd) : InitOk P w K mg base (cC 1) (cI 1) (cF 1) := by
  have sc : FnScope ["self", "given"] ["self", "given"] (defScope (T99.mth 3 0)) := ⟨rfl, rfl, rfl, by decide +kernel, rfl, by decide +kernel, by decide +kernel⟩
  exact initOk_f (f := "given") x F sc (F.bindsN fun _ _ _ _ _ _ us hl => match us, hl with | [_, _], _ => rfl) (kwb_of F fun _ _ _ _ _ _ us ws h1 h2 => match us, ws, h1, h2 with | [_], [_], _, _ => rfl)
    fun cdv A outer s H E => pss_cons (ps_expr (pe_basinit rfl gL bk.rd bk.fc (pa_cons (pv 0) (pa_cons pe_str pa_nil)))) (pss_one (ps_ost (pv 0) (pv 1)))
theorem ini_2 {P : Program} {w : World} {K : PySem.W.Frag} {mg : PySem.Str → Option Value} {base : Heap} (gL : mg "LookError" = some (.ref T99.lkE)) (bk : HB.BaseK K T99.lkE) (x : HB.ExK K (cC 2) (cI 2) (cF 2)) {fd : FuncData} (F : FunD K "__init__" "InvalidChannels.__init__" (defArgs (T99.mth 4 0)) (defBody (T99.mth 4 0)) (defScope (T99.mth 4 0)) [] [] (cI 2) fd) : InitOk P w K mg base (cC 2) (cI 2) (cF 2) := by
  have sc : FnScope ["self", "given"] ["self", "given"] (defScope (T99.mth 4 0)) := ⟨rfl, rfl, rfl, by decide +kernel, rfl, by decide +kernel, by decide +kernel⟩
  exact initOk_f (f := "given") x F sc (F.bindsN fun _ _ _ _ _ _ us hl => match us, hl with | [_, _], _ => rfl) (kwb_of F fun _ _ _ _ _ _ us ws h1 h2 => match us, ws, h1, h2 with | [_], [_], _, _ => rfl)
    fun cdv A outer s H E => pss_cons (ps_expr (pe_basinit rfl gL bk.rd bk.fc (pa_cons (pv 0) (pa_cons pe_str pa_nil)))) (pss_one (ps_ost (pv 0) (pv 1)))
theorem ini_3 {P : Program} {w : World} {K : PySem.W.Frag} {mg : PySem.Str → Option Value} {base : Heap} (gL : mg "LookError" = some (.ref T99.lkE)) (bk : HB.BaseK K T99.lkE) (x : HB.ExK K (cC 3) (cI 3) (cF 3)) {fd : FuncData} (F : FunD K "__init__" "InvalidCoordinates.__init__" (defArgs (T99.mth 5 0)) (defBody (T99.mth 5 0)) (defScope (T99.mth 5 0)) [] [] (cI 3) fd) : InitOk P w K mg base (cC 3) (cI 3) (cF 3) := by
  have sc : FnScope ["self", "given"] ["self", "given"] (defScope (T99.mth 5 0)) := ⟨rfl, rfl, rfl, by decide +kernel, rfl, by decide +kernel, by decide +kernel⟩
  exact initOk_f (f := "given") x F sc (F.bindsN fun _ _ _ _ _ _ us hl => match us, hl with | [_, _], _ => rfl) (kwb_of F fun _ _ _ _ _ _ us ws h1 h2 => match us, ws, h1, h2 with | [_], [_], _, _ => rfl)
    fun cdv A outer s H E => pss_cons (ps_expr (pe_basinit rfl gL bk.rd bk.fc (pa_cons (pv 0) (pa_cons pe_str pa_nil)))) (pss_one (ps_ost (pv 0) (pv 1)))
theorem ini_4 {P : Program} {w : World} {K : PySem.W.Frag} {mg : PySem.Str → Option Value} {base : Heap} (gL : mg "LookError" = some (.ref T99.lkE)) (bk : HB.BaseK K T99.lkE) (x : HB.ExK K (cC 4) (cI 4) (cF 4)) {fd : FuncData} (F : FunD K "__init__" "InvalidCount.__init__" (defArgs (T99.mth 6 0)) (defBody (T99.mth 6 0)) (defScope (T99.mth 6 0)) [] [] (cI 4) fd) : InitOk P w K mg base (cC 4) (cI 4) (cF 4) := by
  have sc : FnScope ["self", "given"] ["self", "given"] (defScope (T99.mth 6 0)) := ⟨rfl, rfl, rfl, by decide +kernel, rfl, by decide +kernel, by decide +kernel⟩
  exact initOk_f (f := "given") x F sc (F.bindsN fun _ _ _ _ _ _ us hl => match us, hl with | [_, _], _ => rfl) (kwb_of F fun _ _ _ _ _ _ us ws h1 h2 => match us, ws, h1, h2 with | [_], [_], _, _ => rfl)
    fun cdv A outer s H E => pss_cons (ps_expr (pe_basinit rfl gL bk.rd bk.fc (pa_cons (pv 0) (pa_cons pe_str pa_nil)))) (pss_one (ps_ost (pv 0) (pv 1)))
theorem ini_5 {P : Program} {w : World} {K : PySem.W.Frag} {mg : PySem.Str → Option Value} {base : Heap} (gL : mg "LookError" = some (.ref T99.lkE)) (bk : HB.BaseK K T99.lkE) (x : HB.ExK K (cC 5) (cI 5) (cF 5)) {fd : FuncData} (F : FunD K "__init__" "InvalidForm.__init__" (defArgs (T99.mth 7 0)) (defBody (T99.mth 7 0)) (defScope (T99.mth 7 0)) [] [] (cI 5) fd) : InitOk P w K mg base (cC 5) (cI 5) (cF 5) := by
  have sc : FnScope ["self", "given"] ["self", "given"] (defScope (T99.mth 7 0)) := ⟨rfl, rfl, rfl, by decide +kernel, rfl, by decide +kernel, by decide +kernel⟩
  exact initOk_f (f := "given") x F sc (F.bindsN fun _ _ _ _ _ _ us hl => match us, hl with | [_, _], _ => rfl) (kwb_of F fun _ _ _ _ _ _ us ws h1 h2 => match us, ws, h1, h2 with | [_], [_], _, _ => rfl)
    fun cdv A outer s H E => pss_cons (ps_expr (pe_basinit rfl gL bk.rd bk.fc (pa_cons (pv 0) (pa_cons pe_str pa_nil)))) (pss_one (ps_ost (pv 0) (pv 1)))
theorem ini_6 {P : Program} {w : World} {K : PySem.W.Frag} {mg : PySem.Str → Option Value} {base : Heap} (gL : mg "LookError" = some (.ref T99.lkE)) (bk : HB.BaseK K T99.lkE) (x : HB.ExK K (cC 6) (cI 6) (cF 6)) {fd : FuncData} (F : FunD K "__init__" "InvalidForms.__init__" (defArgs (T99.mth 8 0)) (defBody (T99.mth 8 0)) (defScope (T99.mth 8 0)) [] [] (cI 6) fd) : InitOk P w K mg base (cC 6) (cI 6) (cF 6) := by
  have sc : FnScope ["self", "given"] ["self", "given"] (defScope (T99.mth 8 0)) := ⟨rfl, rfl, rfl, by decide +kernel, rfl, by decide +kernel, by decide +kernel⟩
  exact initOk_f (f := "given") x F sc (F.bindsN fun _ _ _ _ _ _ us hl => match us, hl with | [_, _], _ => rfl) (kwb_of F fun _ _ _ _ _ _ us ws h1 h2 => match us, ws, h1, h2 with | [_], [_], _, _ => rfl)
    fun cdv A outer s H E => pss_cons (ps_expr (pe_basinit rfl gL bk.rd bk.fc (pa_cons (pv 0) (pa_cons pe_str pa_nil)))) (pss_one (ps_ost (pv 0) (pv 1)))
theorem ini_7 {P : Program} {w : World} {K : PySem.W.Frag} {mg : PySem.Str → Option Value} {base : Heap} (gL : mg "LookError" = some (.ref T99.lkE)) (bk : HB.BaseK K T99.lkE) (x : HB.ExK K (cC 7) (cI 7) (cF 7)) {fd : FuncData} (F : FunD K "__init__" "InvalidIndex.__init__" (defArgs (T99.mth 9 0)) (defBody (T99.mth 9 0)) (defScope (T99.mth 9 0)) [] [] (cI 7) fd) : InitOk P w K mg base (cC 7) (cI 7) (cF 7) := by
  have sc : FnScope ["self", "given"] ["self", "given"] (defScope (T99.mth 9 0)) := ⟨rfl, rfl, rfl, by decide +kernel, rfl, by decide +kernel, by decide +kernel⟩
  exact initOk_f (f := "given") x F sc (F.bindsN fun _ _ _ _ _ _ us hl => match us, hl with | [_, _], _ => rfl) (kwb_of F fun _ _ _ _ _ _ us ws h1 h2 => match us, ws, h1, h2 with | [_], [_], _, _ => rfl)
    fun cdv A outer s H E => pss_cons (ps_expr (pe_basinit rfl gL bk.rd bk.fc (pa_cons (pv 0) (pa_cons pe_str pa_nil)))) (pss_one (ps_ost (pv 0) (pv 1)))
theorem ini_8 {P : Program} {w : World} {K : PySem.W.Frag} {mg : PySem.Str → Option Value} {base : Heap} (gL : mg "LookError" = some (.ref T99.lkE)) (bk : HB.BaseK K T99.lkE) (x : HB.ExK K (cC 8) (cI 8) (cF 8)) {fd : FuncData} (F : FunD K "__init__" "InvalidLength.__init__" (defArgs (T99.mth 10 0)) (defBody (T99.mth 10 0)) (defScope (T99.mth 10 0)) [] [] (cI 8) fd) : InitOk P w K mg base (cC 8) (cI 8) (cF 8) := by
  have sc : FnScope ["self", "given"] ["self", "given"] (defScope (T99.mth 10 0)) := ⟨rfl, rfl, rfl, by decide +kernel, rfl, by decide +kernel, by decide +kernel⟩
  exact initOk_f (f := "given") x F sc (F.bindsN fun _ _ _ _ _ _ us hl => match us, hl with | [_, _], _ => rfl) (kwb_of F fun _ _ _ _ _ _ us ws h1 h2 => match us, ws, h1, h2 with | [_], [_], _, _ => rfl)
    fun cdv A outer s H E => pss_cons (ps_expr (pe_basinit rfl gL bk.rd bk.fc (pa_cons (pv 0) (pa_cons pe_str pa_nil)))) (pss_one (ps_ost (pv 0) (pv 1)))
theorem ini_9 {P : Program} {w : World} {K : PySem.W.Frag} {mg : PySem.Str → Option Value} {base : Heap} (gL : mg "LookError" = some (.ref T99.lkE)) (bk : HB.BaseK K T99.lkE) (x : HB.ExK K (cC 9) (cI 9) (cF 9)) {fd : FuncData} (F : FunD K "__init__" "InvalidLetter.__init__" (defArgs (T99.mth 11 0)) (defBody (T99.mth 11 0)) (defScope (T99.mth 11 0)) [] [] (cI 9) fd) : InitOk P w K mg base (cC 9) (cI 9) (cF 9) := by
  have sc : FnScope ["self", "given"] ["self", "given"] (defScope (T99.mth 11 0)) := ⟨rfl, rfl, rfl, by decide +kernel, rfl, by decide +kernel, by decide +kernel⟩
  exact initOk_f (f := "given") x F sc (F.bindsN fun _ _ _ _ _ _ us hl => match us, hl with | [_, _], _ => rfl) (kwb_of F fun _ _ _ _ _ _ us ws h1 h2 => match us, ws, h1, h2 with | [_], [_], _, _ => rfl)
    fun cdv A outer s H E => pss_cons (ps_expr (pe_basinit rfl gL bk.rd bk.fc (pa_cons (pv 0) (pa_cons pe_str pa_nil)))) (pss_one (ps_ost (pv 0) (pv 1)))
theorem ini_10 {P : Program} {w : World} {K : PySem.W.Frag} {mg : PySem.Str → Option Value} {base : Heap} (gL : mg "LookError" = some (.ref T99.lkE)) (bk : HB.BaseK K T99.lkE) (x : HB.ExK K (cC 10) (cI 10) (cF 10)) {fd : FuncData} (F : FunD K "__init__" "InvalidLines.__init__" (defArgs (T99.mth 12 0)) (defBody (T99.mth 12 0)) (defScope (T99.mth 12 0)) [] [] (cI 10) fd) : InitOk P w K mg base (cC 10) (cI 10) (cF 10) := by
  have sc : FnScope ["self", "given"] ["self", "given"] (defScope (T99.mth 12 0)) := ⟨rfl, rfl, rfl, by decide +kernel, rfl, by decide +kernel, by decide +kernel⟩
  exact initOk_f (f := "given") x F sc (F.bindsN fun _ _ _ _ _ _ us hl => match us, hl with | [_, _], _ => rfl) (kwb_of F fun _ _ _ _ _ _ us ws h1 h2 => match us, ws, h1, h2 with | [_], [_], _, _ => rfl)
    fun cdv A outer s H E => pss_cons (ps_expr (pe_basinit rfl gL bk.rd bk.fc (pa_cons (pv 0) (pa_cons pe_str pa_nil)))) (pss_one (ps_ost (pv 0) (pv 1)))
theorem ini_11 {P : Program} {w : World} {K : PySem.W.Frag} {mg : PySem.Str → Option Value} {base : Heap} (gL : mg "LookError" = some (.ref T99.lkE)) (bk : HB.BaseK K T99.lkE) (x : HB.ExK K (cC 11) (cI 11) (cF 11)) {fd : FuncData} (F : FunD K "__init__" "InvalidLook.__init__" (defArgs (T99.mth 13 0)) (defBody (T99.mth 13 0)) (defScope (T99.mth 13 0)) [] [] (cI 11) fd) : InitOk P w K mg base (cC 11) (cI 11) (cF 11) := by
  have sc : FnScope ["self", "given"] ["self", "given"] (defScope (T99.mth 13 0)) := ⟨rfl, rfl, rfl, by decide +kernel, rfl, by decide +kernel, by decide +kernel⟩
  exact initOk_f (f := "given") x F sc (F.bindsN fun _ _ _ _ _ _ us hl => match us, hl with | [_, _], _ => rfl) (kwb_of F fun _ _ _ _ _ _ us ws h1 h2 => match us, ws, h1, h2 with | [_], [_], _, _ => rfl)
    fun cdv A outer s H E => pss_cons (ps_expr (pe_basinit rfl gL bk.rd bk.fc (pa_cons (pv 0) (pa_cons pe_str pa_nil)))) (pss_one (ps_ost (pv 0) (pv 1)))
theorem ini_12 {P : Program} {w : World} {K : PySem.W.Frag} {mg : PySem.Str → Option Value} {base : Heap} (gL : mg "LookError" = some (.ref T99.lkE)) (bk : HB.BaseK K T99.lkE) (x : HB.ExK K (cC 12) (cI 12) (cF 12)) {fd : FuncData} (F : FunD K "__init__" "InvalidMatrix.__init__" (defArgs (T99.mth 14 0)) (defBody (T99.mth 14 0)) (defScope (T99.mth 14 0)) [] [] (cI 12) fd) : InitOk P w K mg base (cC 12) (cI 12) (cF 12) := by
  have sc : FnScope ["self", "given"] ["self", "given"] (defScope (T99.mth 14 0)) := ⟨rfl, rfl, rfl, by decide +kernel, rfl, by decide +kernel, by decide +kernel⟩
  exact initOk_f (f := "given") x F sc (F.bindsN fun _ _ _ _ _ _ us hl => match us, hl with | [_, _], _ => rfl) (kwb_of F fun _ _ _ _ _ _ us ws h1 h2 => match us, ws, h1, h2 with | [_], [_], _, _ => rfl)
    fun cdv A outer s H E => pss_cons (ps_expr (pe_basinit rfl gL bk.rd bk.fc (pa_cons (pv 0) (pa_cons pe_str pa_nil)))) (pss_one (ps_ost (pv 0) (pv 1)))
theorem ini_13 {P : Program} {w : World} {K : PySem.W.Frag} {mg : PySem.Str → Option Value} {base : Heap} (gL : mg "LookError" = some (.ref T99.lkE)) (bk : HB.BaseK K T99.lkE) (x : HB.ExK K (cC 13) (cI 13) (cF 13)) {fd : FuncData} (F : FunD K "__init__" "InvalidName.__init__" (defArgs (T99.mth 15 0)) (defBody (T99.mth 15 0)) (defScope (T99.mth 15 0)) [] [] (cI 13) fd) : InitOk P w K mg base (cC 13) (cI 13) (cF 13) := by
  have sc : FnScope ["self", "given"] ["self", "given"] (defScope (T99.mth 15 0)) := ⟨rfl, rfl, rfl, by decide +kernel, rfl, by decide +kernel, by decide +kernel⟩
  exact initOk_f (f := "given") x F sc (F.bindsN fun _ _ _ _ _ _ us hl => match us, hl with | [_, _], _ => rfl) (kwb_of F fun _ _ _ _ _ _ us ws h1 h2 => match us, ws, h1, h2 with | [_], [_], _, _ => rfl)
    fun cdv A outer s H E => pss_cons (ps_expr (pe_basinit rfl gL bk.rd bk.fc (pa_cons (pv 0) (pa_cons pe_str pa_nil)))) (pss_one (ps_ost (pv 0) (pv 1)))
theorem ini_14 {P : Program} {w : World} {K : PySem.W.Frag} {mg : PySem.Str → Option Value} {base : Heap} (gL : mg "LookError" = some (.ref T99.lkE)) (bk : HB.BaseK K T99.lkE) (x : HB.ExK K (cC 14) (cI 14) (cF 14)) {fd : FuncData} (F : FunD K "__init__" "InvalidNames.__init__" (defArgs (T99.mth 16 0)) (defBody (T99.mth 16 0)) (defScope (T99.mth 16 0)) [] [] (cI 14) fd) : InitOk P w K mg base (cC 14) (cI 14) (cF 14) := by
  have sc : FnScope ["self", "given"] ["self", "given"] (defScope (T99.mth 16 0)) := ⟨rfl, rfl, rfl, by decide +kernel, rfl, by decide +kernel, by decide +kernel⟩
  exact initOk_f (f := "given") x F sc (F.bindsN fun _ _ _ _ _ _ us hl => match us, hl with | [_, _], _ => rfl) (kwb_of F fun _ _ _ _ _ _ us ws h1 h2 => match us, ws, h1, h2 with | [_], [_], _, _ => rfl)
    fun cdv A outer s H E => pss_cons (ps_expr (pe_basinit rfl gL bk.rd bk.fc (pa_cons (pv 0) (pa_cons pe_str pa_nil)))) (pss_one (ps_ost (pv 0) (pv 1)))
theorem ini_15 {P : Program} {w : World} {K : PySem.W.Frag} {mg : PySem.Str → Option Value} {base : Heap} (gL : mg "LookError" = some (.ref T99.lkE)) (bk : HB.BaseK K T99.lkE) (x : HB.ExK K (cC 15) (cI 15) (cF 15)) {fd : FuncData} (F : FunD K "__init__" "InvalidNumber.__init__" (defArgs (T99.mth 17 0)) (defBody (T99.mth 17 0)) (defScope (T99.mth 17 0)) [] [] (cI 15) fd) : InitOk P w K mg base (cC 15) (cI 15) (cF 15) := by
  have sc : FnScope ["self", "given"] ["self", "given"] (defScope (T99.mth 17 0)) := ⟨rfl, rfl, rfl, by decide +kernel, rfl, by decide +kernel, by decide +kernel⟩
  exact initOk_f (f := "given") x F sc (F.bindsN fun _ _ _ _ _ _ us hl => match us, hl with | [_, _], _ => rfl) (kwb_of F fun _ _ _ _ _ _ us ws h1 h2 => match us, ws, h1, h2 with | [_], [_], _, _ => rfl)
    fun cdv A outer s H E => pss_cons (ps_expr (pe_basinit rfl gL bk.rd bk.fc (pa_cons (pv 0) (pa_cons pe_str pa_nil)))) (pss_one (ps_ost (pv 0) (pv 1)))
theorem ini_16 {P : Program} {w : World} {K : PySem.W.Frag} {mg : PySem.Str → Option Value} {base : Heap} (gL : mg "LookError" = some (.ref T99.lkE)) (bk : HB.BaseK K T99.lkE) (x : HB.ExK K (cC 16) (cI 16) (cF 16)) {fd : FuncData} (F : FunD K "__init__" "InvalidNumbers.__init__" (defArgs (T99.mth 18 0)) (defBody (T99.mth 18 0)) (defScope (T99.mth 18 0)) [] [] (cI 16) fd) : InitOk P w K mg base (cC 16) (cI 16) (cF 16) := by
  have sc : FnScope ["self", "given"] ["self", "given"] (defScope (T99.mth 18 0)) := ⟨rfl, rfl, rfl, by decide +kernel, rfl, by decide +kernel, by decide +kernel⟩
  exact initOk_f (f := "given") x F sc (F.bindsN fun _ _ _ _ _ _ us hl => match us, hl with | [_, _], _ => rfl) (kwb_of F fun _ _ _ _ _ _ us ws h1 h2 => match us, ws, h1, h2 with | [_], [_], _, _ => rfl)
    fun cdv A outer s H E => pss_cons (ps_expr (pe_basinit rfl gL bk.rd bk.fc (pa_cons (pv 0) (pa_cons pe_str pa_nil)))) (pss_one (ps_ost (pv 0) (pv 1)))
theorem ini_17 {P : Program} {w : World} {K : PySem.W.Frag} {mg : PySem.Str → Option Value} {base : Heap} (gL : mg "LookError" = some (.ref T99.lkE)) (bk : HB.BaseK K T99.lkE) (x : HB.ExK K (cC 17) (cI 17) (cF 17)) {fd : FuncData} (F : FunD K "__init__" "InvalidOrder.__init__" (defArgs (T99.mth 19 0)) (defBody (T99.mth 19 0)) (defScope (T99.mth 19 0)) [] [] (cI 17) fd) : InitOk P w K mg base (cC 17) (cI 17) (cF 17) := by
  have sc : FnScope ["self", "given"] ["self", "given"] (defScope (T99.mth 19 0)) := ⟨rfl, rfl, rfl, by decide +kernel, rfl, by decide +kernel, by decide +kernel⟩
  exact initOk_f (f := "given") x F sc (F.bindsN fun _ _ _ _ _ _ us hl => match us, hl with | [_, _], _ => rfl) (kwb_of F fun _ _ _ _ _ _ us ws h1 h2 => match us, ws, h1, h2 with | [_], [_], _, _ => rfl)
    fun cdv A outer s H E => pss_cons (ps_expr (pe_basinit rfl gL bk.rd bk.fc (pa_cons (pv 0) (pa_cons pe_str pa_nil)))) (pss_one (ps_ost (pv 0) (pv 1)))
theorem ini_18 {P : Program} {w : World} {K : PySem.W.Frag} {mg : PySem.Str → Option Value} {base : Heap} (gL : mg "LookError" = some (.ref T99.lkE)) (bk : HB.BaseK K T99.lkE) (x : HB.ExK K (cC 18) (cI 18) (cF 18)) {fd : FuncData} (F : FunD K "__init__" "InvalidOther.__init__" (defArgs (T99.mth 20 0)) (defBody (T99.mth 20 0)) (defScope (T99.mth 20 0)) [] [] (cI 18) fd) : InitOk P w K mg base (cC 18) (cI 18) (cF 18) := by
  have sc : FnScope ["self", "given"] ["self", "given"] (defScope (T99.mth 20 0)) := ⟨rfl, rfl, rfl, by decide +kernel, rfl, by decide +kernel, by decide +kernel⟩
  exact initOk_f (f := "given") x F sc (F.bindsN fun _ _ _ _ _ _ us hl => match us, hl with | [_, _], _ => rfl) (kwb_of F fun _ _ _ _ _ _ us ws h1 h2 => match us, ws, h1, h2 with | [_], [_], _, _ => rfl)
    fun cdv A outer s H E => pss_cons (ps_expr (pe_basinit rfl gL bk.rd bk.fc (pa_cons (pv 0) (pa_cons pe_str pa_nil)))) (pss_one (ps_ost (pv 0) (pv 1)))
theorem ini_19 {P : Program} {w : World} {K : PySem.W.Frag} {mg : PySem.Str → Option Value} {base : Heap} (gL : mg "LookError" = some (.ref T99.lkE)) (bk : HB.BaseK K T99.lkE) (x : HB.ExK K (cC 19) (cI 19) (cF 19)) {fd : FuncData} (F : FunD K "__init__" "InvalidPolynomial.__init__" (defArgs (T99.mth 21 0)) (defBody (T99.mth 21 0)) (defScope (T99.mth 21 0)) [] [] (cI 19) fd) : InitOk P w K mg base (cC 19) (cI 19) (cF 19) := by
  have sc : FnScope ["self", "given"] ["self", "given"] (defScope (T99.mth 21 0)) := ⟨rfl, rfl, rfl, by decide +kernel, rfl, by decide +kernel, by decide +kernel⟩
  exact initOk_f (f := "given") x F sc (F.bindsN fun _ _ _ _ _ _ us hl => match us, hl with | [_, _], _ => rfl) (kwb_of F fun _ _ _ _ _ _ us ws h1 h2 => match us, ws, h1, h2 with | [_], [_], _, _ => rfl)
    fun cdv A outer s H E => pss_cons (ps_expr (pe_basinit rfl gL bk.rd bk.fc (pa_cons (pv 0) (pa_cons pe_str pa_nil)))) (pss_one (ps_ost (pv 0) (pv 1)))
theorem ini_20 {P : Program} {w : World} {K : PySem.W.Frag} {mg : PySem.Str → Option Value} {base : Heap} (gL : mg "LookError" = some (.ref T99.lkE)) (bk : HB.BaseK K T99.lkE) (x : HB.ExK K (cC 20) (cI 20) (cF 20)) {fd : FuncData} (F : FunD K "__init__" "InvalidReader.__init__" (defArgs (T99.mth 22 0)) (defBody (T99.mth 22 0)) (defScope (T99.mth 22 0)) [] [] (cI 20) fd) : InitOk P w K mg base (cC 20) (cI 20) (cF 20) := by
  have sc : FnScope ["self", "given"] ["self", "given"] (defScope (T99.mth 22 0)) := ⟨rfl, rfl, rfl, by decide +kernel, rfl, by decide +kernel, by decide +kernel⟩
  exact initOk_f (f := "given") x F sc (F.bindsN fun _ _ _ _ _ _ us hl => match us, hl with | [_, _], _ => rfl) (kwb_of F fun _ _ _ _ _ _ us ws h1 h2 => match us, ws, h1, h2 with | [_], [_], _, _ => rfl)
    fun cdv A outer s H E => pss_cons (ps_expr (pe_basinit rfl gL bk.rd bk.fc (pa_cons (pv 0) (pa_cons pe_str pa_nil)))) (pss_one (ps_ost (pv 0) (pv 1)))
theorem ini_21 {P : Program} {w : World} {K : PySem.W.Frag} {mg : PySem.Str → Option Value} {base : Heap} (gL : mg "LookError" = some (.ref T99.lkE)) (bk : HB.BaseK K T99.lkE) (x : HB.ExK K (cC 21) (cI 21) (cF 21)) {fd : FuncData} (F : FunD K "__init__" "InvalidRow.__init__" (defArgs (T99.mth 23 0)) (defBody (T99.mth 23 0)) (defScope (T99.mth 23 0)) [] [] (cI 21) fd) : InitOk P w K mg base (cC 21) (cI 21) (cF 21) := by
  have sc : FnScope ["self", "given"] ["self", "given"] (defScope (T99.mth 23 0)) := ⟨rfl, rfl, rfl, by decide +kernel, rfl, by decide +kernel, by decide +kernel⟩
  exact initOk_f (f := "given") x F sc (F.bindsN fun _ _ _ _ _ _ us hl => match us, hl with | [_, _], _ => rfl) (kwb_of F fun _ _ _ _ _ _ us ws h1 h2 => match us, ws, h1, h2 with | [_], [_], _, _ => rfl)
    fun cdv A outer s H E => pss_cons (ps_expr (pe_basinit rfl gL bk.rd bk.fc (pa_cons (pv 0) (pa_cons pe_str pa_nil)))) (pss_one (ps_ost (pv 0) (pv 1)))
theorem ini_22 {P : Program} {w : World} {K : PySem.W.Frag} {mg : PySem.Str → Option Value} {base : Heap} (gL : mg "LookError" = some (.ref T99.lkE)) (bk : HB.BaseK K T99.lkE) (x : HB.ExK K (cC 22) (cI 22) (cF 22)) {fd : FuncData} (F : FunD K "__init__" "InvalidSheet.__init__" (defArgs (T99.mth 24 0)) (defBody (T99.mth 24 0)) (defScope (T99.mth 24 0)) [] [] (cI 22) fd) : InitOk P w K mg base (cC 22) (cI 22) (cF 22) := by
  have sc : FnScope ["self", "given"] ["self", "given"] (defScope (T99.mth 24 0)) := ⟨rfl, rfl, rfl, by decide +kernel, rfl, by decide +kernel, by decide +kernel⟩
  exact initOk_f (f := "given") x F sc (F.bindsN fun _ _ _ _ _ _ us hl => match us, hl with | [_, _], _ => rfl) (kwb_of F fun _ _ _ _ _ _ us ws h1 h2 => match us, ws, h1, h2 with | [_], [_], _, _ => rfl)
    fun cdv A outer s H E => pss_cons (ps_expr (pe_basinit rfl gL bk.rd bk.fc (pa_cons (pv 0) (pa_cons pe_str pa_nil)))) (pss_one (ps_ost (pv 0) (pv 1)))
theorem ini_23 {P : Program} {w : World} {K : PySem.W.Frag} {mg : PySem.Str → Option Value} {base : Heap} (gL : mg "LookError" = some (.ref T99.lkE)) (bk : HB.BaseK K T99.lkE) (x : HB.ExK K (cC 23) (cI 23) (cF 23)) {fd : FuncData} (F : FunD K "__init__" "InvalidSize.__init__" (defArgs (T99.mth 25 0)) (defBody (T99.mth 25 0)) (defScope (T99.mth 25 0)) [] [] (cI 23) fd) : InitOk P w K mg base (cC 23) (cI 23) (cF 23) := by
  have sc : FnScope ["self", "given"] ["self", "given"] (defScope (T99.mth 25 0)) := ⟨rfl, rfl, rfl, by decide +kernel, rfl, by decide +kernel, by decide +kernel⟩
  exact initOk_f (f := "given") x F sc (F.bindsN fun _ _ _ _ _ _ us hl => match us, hl with | [_, _], _ => rfl) (kwb_of F fun _ _ _ _ _ _ us ws h1 h2 => match us, ws, h1, h2 with | [_], [_], _, _ => rfl)
    fun cdv A outer s H E => pss_cons (ps_expr (pe_basinit rfl gL bk.rd bk.fc (pa_cons (pv 0) (pa_cons pe_str pa_nil)))) (pss_one (ps_ost (pv 0) (pv 1)))
theorem ini_24 {P : Program} {w : World} {K : PySem.W.Frag} {mg : PySem.Str → Option Value} {base : Heap} (gL : mg "LookError" = some (.ref T99.lkE)) (bk : HB.BaseK K T99.lkE) (x : HB.ExK K (cC 24) (cI 24) (cF 24)) {fd : FuncData} (F : FunD K "__init__" "InvalidStep.__init__" (defArgs (T99.mth 26 0)) (defBody (T99.mth 26 0)) (defScope (T99.mth 26 0)) [] [] (cI 24) fd) : InitOk P w K mg base (cC 24) (cI 24) (cF 24) := by
  have sc : FnScope ["self", "given"] ["self", "given"] (defScope (T99.mth 26 0)) := ⟨rfl, rfl, rfl, by decide +kernel, rfl, by decide +kernel, by decide +kernel⟩
  exact initOk_f (f := "given") x F sc (F.bindsN fun _ _ _ _ _ _ us hl => match us, hl with | [_, _], _ => rfl) (kwb_of F fun _ _ _ _ _ _ us ws h1 h2 => match us, ws, h1, h2 with | [_], [_], _, _ => rfl)
    fun cdv A outer s H E => pss_cons (ps_expr (pe_basinit rfl gL bk.rd bk.fc (pa_cons (pv 0) (pa_cons pe_str pa_nil)))) (pss_one (ps_ost (pv 0) (pv 1)))
theorem ini_25 {P : Program} {w : World} {K : PySem.W.Frag} {mg : PySem.Str → Option Value} {base : Heap} (gL : mg "LookError" = some (.ref T99.lkE)) (bk : HB.BaseK K T99.lkE) (x : HB.ExK K (cC 25) (cI 25) (cF 25)) {fd : FuncData} (F : FunD K "__init__" "InvalidTable.__init__" (defArgs (T99.mth 27 0)) (defBody (T99.mth 27 0)) (defScope (T99.mth 27 0)) [] [] (cI 25) fd) : InitOk P w K mg base (cC 25) (cI 25) (cF 25) := by
  have sc : FnScope ["self", "given"] ["self", "given"] (defScope (T99.mth 27 0)) := ⟨rfl, rfl, rfl, by decide +kernel, rfl, by decide +kernel, by decide +kernel⟩
  exact initOk_f (f := "given") x F sc (F.bindsN fun _ _ _ _ _ _ us hl => match us, hl with | [_, _], _ => rfl) (kwb_of F fun _ _ _ _ _ _ us ws h1 h2 => match us, ws, h1, h2 with | [_], [_], _, _ => rfl)
    fun cdv A outer s H E => pss_cons (ps_expr (pe_basinit rfl gL bk.rd bk.fc (pa_cons (pv 0) (pa_cons pe_str pa_nil)))) (pss_one (ps_ost (pv 0) (pv 1)))
theorem ini_26 {P : Program} {w : World} {K : PySem.W.Frag} {mg : PySem.Str → Option Value} {base : Heap} (gL : mg "LookError" = some (.ref T99.lkE)) (bk : HB.BaseK K T99.lkE) (x : HB.ExK K (cC 26) (cI 26) (cF 26)) {fd : FuncData} (F : FunD K "__init__" "InvalidTally.__init__" (defArgs (T99.mth 28 0)) (defBody (T99.mth 28 0)) (defScope (T99.mth 28 0)) [] [] (cI 26) fd) : InitOk P w K mg base (cC 26) (cI 26) (cF 26) := by
  have sc : FnScope ["self", "given"] ["self", "given"] (defScope (T99.mth 28 0)) := ⟨rfl, rfl, rfl, by decide +kernel, rfl, by decide +kernel, by decide +kernel⟩
  exact initOk_f (f := "given") x F sc (F.bindsN fun _ _ _ _ _ _ us hl => match us, hl with | [_, _], _ => rfl) (kwb_of F fun _ _ _ _ _ _ us ws h1 h2 => match us, ws, h1, h2 with | [_], [_], _, _ => rfl)
    fun cdv A outer s H E => pss_cons (ps_expr (pe_basinit rfl gL bk.rd bk.fc (pa_cons (pv 0) (pa_cons pe_str pa_nil)))) (pss_one (ps_ost (pv 0) (pv 1)))
theorem ini_27 {P : Program} {w : World} {K : PySem.W.Frag} {mg : PySem.Str → Option Value} {base : Heap} (gL : mg "LookError" = some (.ref T99.lkE)) (bk : HB.BaseK K T99.lkE) (x : HB.ExK K (cC 27) (cI 27) (cF 27)) {fd : FuncData} (F : FunD K "__init__" "InvalidText.__init__" (defArgs (T99.mth 29 0)) (defBody (T99.mth 29 0)) (defScope (T99.mth 29 0)) [] [] (cI 27) fd) : InitOk P w K mg base (cC 27) (cI 27) (cF 27) := by
  have sc : FnScope ["self", "given"] ["self", "given"] (defScope (T99.mth 29 0)) := ⟨rfl, rfl, rfl, by decide +kernel, rfl, by decide +kernel, by decide +kernel⟩
  exact initOk_f (f := "given") x F sc (F.bindsN fun _ _ _ _ _ _ us hl => match us, hl with | [_, _], _ => rfl) (kwb_of F fun _ _ _ _ _ _ us ws h1 h2 => match us, ws, h1, h2 with | [_], [_], _, _ => rfl)
    fun cdv A outer s H E => pss_cons (ps_expr (pe_basinit rfl gL bk.rd bk.fc (pa_cons (pv 0) (pa_cons pe_str pa_nil)))) (pss_one (ps_ost (pv 0) (pv 1)))
theorem ini_28 {P : Program} {w : World} {K : PySem.W.Frag} {mg : PySem.Str → Option Value} {base : Heap} (gL : mg "LookError" = some (.ref T99.lkE)) (bk : HB.BaseK K T99.lkE) (x : HB.ExK K (cC 28) (cI 28) (cF 28)) {fd : FuncData} (F : FunD K "__init__" "InvalidTop.__init__" (defArgs (T99.mth 30 0)) (defBody (T99.mth 30 0)) (defScope (T99.mth 30 0)) [] [] (cI 28) fd) : InitOk P w K mg base (cC 28) (cI 28) (cF 28) := by
  have sc : FnScope ["self", "given"] ["self", "given"] (defScope (T99.mth 30 0)) := ⟨rfl, rfl, rfl, by decide +kernel, rfl, by decide +kernel, by decide +kernel⟩
  exact initOk_f (f := "given") x F sc (F.bindsN fun _ _ _ _ _ _ us hl => match us, hl with | [_, _], _ => rfl) (kwb_of F fun _ _ _ _ _ _ us ws h1 h2 => match us, ws, h1, h2 with | [_], [_], _, _ => rfl)
    fun cdv A outer s H E => pss_cons (ps_expr (pe_basinit rfl gL bk.rd bk.fc (pa_cons (pv 0) (pa_cons pe_str pa_nil)))) (pss_one (ps_ost (pv 0) (pv 1)))
theorem ini_29 {P : Program} {w : World} {K : PySem.W.Frag} {mg : PySem.Str → Option Value} {base : Heap} (gL : mg "LookError" = some (.ref T99.lkE)) (bk : HB.BaseK K T99.lkE) (x : HB.ExK K (cC 29) (cI 29) (cF 29)) {fd : FuncData} (F : FunD K "__init__" "InvalidTotals.__init__" (defArgs (T99.mth 31 0)) (defBody (T99.mth 31 0)) (defScope (T99.mth 31 0)) [] [] (cI 29) fd) : InitOk P w K mg base (cC 29) (cI 29) (cF 29) := by
  have sc : FnScope ["self", "given"] ["self", "given"] (defScope (T99.mth 31 0)) := ⟨rfl, rfl, rfl, by decide +kernel, rfl, by decide +kernel, by decide +kernel⟩
  exact initOk_f (f := "given") x F sc (F.bindsN fun _ _ _ _ _ _ us hl => match us, hl with | [_, _], _ => rfl) (kwb_of F fun _ _ _ _ _ _ us ws h1 h2 => match us, ws, h1, h2 with | [_], [_], _, _ => rfl)
    fun cdv A outer s H E => pss_cons (ps_expr (pe_basinit rfl gL bk.rd bk.fc (pa_cons (pv 0) (pa_cons pe_str pa_nil)))) (pss_one (ps_ost (pv 0) (pv 1)))
theorem ini_30 {P : Program} {w : World} {K : PySem.W.Frag} {mg : PySem.Str → Option Value} {base : Heap} (gL : mg "LookError" = some (.ref T99.lkE)) (bk : HB.BaseK K T99.lkE) (x : HB.ExK K (cC 30) (cI 30) (cF 30)) {fd : FuncData} (F : FunD K "__init__" "InvalidWalk.__init__" (defArgs (T99.mth 32 0)) (defBody (T99.mth 32 0)) (defScope (T99.mth 32 0)) [] [] (cI 30) fd) : InitOk P w K mg base (cC 30) (cI 30) (cF 30) := by
  have sc : FnScope ["self", "given"] ["self", "given"] (defScope (T99.mth 32 0)) := ⟨rfl, rfl, rfl, by decide +kernel, rfl, by decide +kernel, by decide +kernel⟩
  exact initOk_f (f := "given") x F sc (F.bindsN fun _ _ _ _ _ _ us hl => match us, hl with | [_, _], _ => rfl) (kwb_of F fun _ _ _ _ _ _ us ws h1 h2 => match us, ws, h1, h2 with | [_], [_], _, _ => rfl)
    fun cdv A outer s H E => pss_cons (ps_expr (pe_basinit rfl gL bk.rd bk.fc (pa_cons (pv 0) (pa_cons pe_str pa_nil)))) (pss_one (ps_ost (pv 0) (pv 1)))
theorem ini_31 {P : Program} {w : World} {K : PySem.W.Frag} {mg : PySem.Str → Option Value} {base : Heap} (gL : mg "LookError" = some (.ref T99.lkE)) (bk : HB.BaseK K T99.lkE) (x : HB.ExK K (cC 31) (cI 31) (cF 31)) {fd : FuncData} (F : FunD K "__init__" "InvalidWalks.__init__" (defArgs (T99.mth 33 0)) (defBody (T99.mth 33 0)) (defScope (T99.mth 33 0)) [] [] (cI 31) fd) : InitOk P w K mg base (cC 31) (cI 31) (cF 31) := by
  have sc : FnScope ["self", "given"] ["self", "given"] (defScope (T99.mth 33 0)) := ⟨rfl, rfl, rfl, by decide +kernel, rfl, by decide +kernel, by decide +kernel⟩
  exact initOk_f (f := "given") x F sc (F.bindsN fun _ _ _ _ _ _ us hl => match us, hl with | [_, _], _ => rfl) (kwb_of F fun _ _ _ _ _ _ us ws h1 h2 => match us, ws, h1, h2 with | [_], [_], _, _ => rfl)
    fun cdv A outer s H E => pss_cons (ps_expr (pe_basinit rfl gL bk.rd bk.fc (pa_cons (pv 0) (pa_cons pe_str pa_nil)))) (pss_one (ps_ost (pv 0) (pv 1)))
theorem ini_32 {P : Program} {w : World} {K : PySem.W.Frag} {mg : PySem.Str → Option Value} {base : Heap} (gL : mg "LookError" = some (.ref T99.lkE)) (bk : HB.BaseK K T99.lkE) (x : HB.ExK K (cC 32) (cI 32) (cF 32)) {fd : FuncData} (F : FunD K "__init__" "InvalidWord.__init__" (defArgs (T99.mth 34 0)) (defBody (T99.mth 34 0)) (defScope (T99.mth 34 0)) [] [] (cI 32) fd) : InitOk P w K mg base (cC 32) (cI 32) (cF 32) := by
  have sc : FnScope ["self", "given"] ["self", "given"] (defScope (T99.mth 34 0)) := ⟨rfl, rfl, rfl, by decide +kernel, rfl, by decide +kernel, by decide +kernel⟩
  exact initOk_f (f := "given") x F sc (F.bindsN fun _ _ _ _ _ _ us hl => match us, hl with | [_, _], _ => rfl) (kwb_of F fun _ _ _ _ _ _ us ws h1 h2 => match us, ws, h1, h2 with | [_], [_], _, _ => rfl)
    fun cdv A outer s H E => pss_cons (ps_expr (pe_basinit rfl gL bk.rd bk.fc (pa_cons (pv 0) (pa_cons pe_str pa_nil)))) (pss_one (ps_ost (pv 0) (pv 1)))
theorem ini_33 {P : Program} {w : World} {K : PySem.W.Frag} {mg : PySem.Str → Option Value} {base : Heap} (gL : mg "LookError" = some (.ref T99.lkE)) (bk : HB.BaseK K T99.lkE) (x : HB.ExK K (cC 33) (cI 33) (cF 33)) {fd : FuncData} (F : FunD K "__init__" "Full.__init__" (defArgs (T99.mth 36 0)) (defBody (T99.mth 36 0)) (defScope (T99.mth 36 0)) [] [] (cI 33) fd) : InitOk P w K mg base (cC 33) (cI 33) (cF 33) := by
  have sc : FnScope ["self"] ["self"] (defScope (T99.mth 36 0)) := ⟨rfl, rfl, rfl, by decide +kernel, rfl, by decide +kernel, by decide +kernel⟩
  exact initOk_0 x F sc (F.bindsN fun _ _ _ _ _ _ us hl => match us, hl with | [_], _ => rfl)
    fun cdv A outer s H E => pss_one (ps_expr (pe_basinit rfl gL bk.rd bk.fc (pa_cons (pv 0) (pa_cons pe_str pa_nil))))
theorem ini_34 {P : Program} {w : World} {K : PySem.W.Frag} {mg : PySem.Str → Option Value} {base : Heap} (gL : mg "LookError" = some (.ref T99.lkE)) (bk : HB.BaseK K T99.lkE) (x : HB.ExK K (cC 34) (cI 34) (cF 34)) {fd : FuncData} (F : FunD K "__init__" "HasName.__init__" (defArgs (T99.mth 37 0)) (defBody (T99.mth 37 0)) (defScope (T99.mth 37 0)) [] [] (cI 34) fd) : InitOk P w K mg base (cC 34) (cI 34) (cF 34) := by
  have sc : FnScope ["self", "name"] ["self", "name"] (defScope (T99.mth 37 0)) := ⟨rfl, rfl, rfl, by decide +kernel, rfl, by decide +kernel, by decide +kernel⟩
  exact initOk_f (f := "name") x F sc (F.bindsN fun _ _ _ _ _ _ us hl => match us, hl with | [_, _], _ => rfl) (kwb_of F fun _ _ _ _ _ _ us ws h1 h2 => match us, ws, h1, h2 with | [_], [_], _, _ => rfl)
    fun cdv A outer s H E => pss_cons (ps_expr (pe_basinit rfl gL bk.rd bk.fc (pa_cons (pv 0) (pa_cons pe_str pa_nil)))) (pss_one (ps_ost (pv 0) (pv 1)))
theorem ini_35 {P : Program} {w : World} {K : PySem.W.Frag} {mg : PySem.Str → Option Value} {base : Heap} (gL : mg "LookError" = some (.ref T99.lkE)) (bk : HB.BaseK K T99.lkE) (x : HB.ExK K (cC 35) (cI 35) (cF 35)) {fd : FuncData} (F : FunD K "__init__" "NoForm.__init__" (defArgs (T99.mth 38 0)) (defBody (T99.mth 38 0)) (defScope (T99.mth 38 0)) [] [] (cI 35) fd) : InitOk P w K mg base (cC 35) (cI 35) (cF 35) := by
  have sc : FnScope ["self"] ["self"] (defScope (T99.mth 38 0)) := ⟨rfl, rfl, rfl, by decide +kernel, rfl, by decide +kernel, by decide +kernel⟩
  exact initOk_0 x F sc (F.bindsN fun _ _ _ _ _ _ us hl => match us, hl with | [_], _ => rfl)
    fun cdv A outer s H E => pss_one (ps_expr (pe_basinit rfl gL bk.rd bk.fc (pa_cons (pv 0) (pa_cons pe_str pa_nil))))
theorem ini_36 {P : Program} {w : World} {K : PySem.W.Frag} {mg : PySem.Str → Option Value} {base : Heap} (gL : mg "LookError" = some (.ref T99.lkE)) (bk : HB.BaseK K T99.lkE) (x : HB.ExK K (cC 36) (cI 36) (cF 36)) {fd : FuncData} (F : FunD K "__init__" "NoInverse.__init__" (defArgs (T99.mth 39 0)) (defBody (T99.mth 39 0)) (defScope (T99.mth 39 0)) [] [] (cI 36) fd) : InitOk P w K mg base (cC 36) (cI 36) (cF 36) := by
  have sc : FnScope ["self"] ["self"] (defScope (T99.mth 39 0)) := ⟨rfl, rfl, rfl, by decide +kernel, rfl, by decide +kernel, by decide +kernel⟩
  exact initOk_0 x F sc (F.bindsN fun _ _ _ _ _ _ us hl => match us, hl with | [_], _ => rfl)
    fun cdv A outer s H E => pss_one (ps_expr (pe_basinit rfl gL bk.rd bk.fc (pa_cons (pv 0) (pa_cons pe_str pa_nil))))
theorem ini_37 {P : Program} {w : World} {K : PySem.W.Frag} {mg : PySem.Str → Option Value} {base : Heap} (gL : mg "LookError" = some (.ref T99.lkE)) (bk : HB.BaseK K T99.lkE) (x : HB.ExK K (cC 37) (cI 37) (cF 37)) {fd : FuncData} (F : FunD K "__init__" "NoLimit.__init__" (defArgs (T99.mth 40 0)) (defBody (T99.mth 40 0)) (defScope (T99.mth 40 0)) [] [] (cI 37) fd) : InitOk P w K mg base (cC 37) (cI 37) (cF 37) := by
  have sc : FnScope ["self", "power"] ["self", "power"] (defScope (T99.mth 40 0)) := ⟨rfl, rfl, rfl, by decide +kernel, rfl, by decide +kernel, by decide +kernel⟩
  exact initOk_f (f := "power") x F sc (F.bindsN fun _ _ _ _ _ _ us hl => match us, hl with | [_, _], _ => rfl) (kwb_of F fun _ _ _ _ _ _ us ws h1 h2 => match us, ws, h1, h2 with | [_], [_], _, _ => rfl)
    fun cdv A outer s H E => pss_cons (ps_expr (pe_basinit rfl gL bk.rd bk.fc (pa_cons (pv 0) (pa_cons pe_str pa_nil)))) (pss_one (ps_ost (pv 0) (pv 1)))
theorem ini_38 {P : Program} {w : World} {K : PySem.W.Frag} {mg : PySem.Str → Option Value} {base : Heap} (gL : mg "LookError" = some (.ref T99.lkE)) (bk : HB.BaseK K T99.lkE) (x : HB.ExK K (cC 38) (cI 38) (cF 38)) {fd : FuncData} (F : FunD K "__init__" "NoName.__init__" (defArgs (T99.mth 41 0)) (defBody (T99.mth 41 0)) (defScope (T99.mth 41 0)) [] [] (cI 38) fd) : InitOk P w K mg base (cC 38) (cI 38) (cF 38) := by
  have sc : FnScope ["self", "name"] ["self", "name"] (defScope (T99.mth 41 0)) := ⟨rfl, rfl, rfl, by decide +kernel, rfl, by decide +kernel, by decide +kernel⟩
  exact initOk_f (f := "name") x F sc (F.bindsN fun _ _ _ _ _ _ us hl => match us, hl with | [_, _], _ => rfl) (kwb_of F fun _ _ _ _ _ _ us ws h1 h2 => match us, ws, h1, h2 with | [_], [_], _, _ => rfl)
    fun cdv A outer s H E => pss_cons (ps_expr (pe_basinit rfl gL bk.rd bk.fc (pa_cons (pv 0) (pa_cons pe_str pa_nil)))) (pss_one (ps_ost (pv 0) (pv 1)))
theorem ini_39 {P : Program} {w : World} {K : PySem.W.Frag} {mg : PySem.Str → Option Value} {base : Heap} (gL : mg "LookError" = some (.ref T99.lkE)) (bk : HB.BaseK K T99.lkE) (x : HB.ExK K (cC 39) (cI 39) (cF 39)) {fd : FuncData} (F : FunD K "__init__" "NotAlike.__init__" (defArgs (T99.mth 42 0)) (defBody (T99.mth 42 0)) (defScope (T99.mth 42 0)) [] [] (cI 39) fd) : InitOk P w K mg base (cC 39) (cI 39) (cF 39) := by
  have sc : FnScope ["self"] ["self"] (defScope (T99.mth 42 0)) := ⟨rfl, rfl, rfl, by decide +kernel, rfl, by decide +kernel, by decide +kernel⟩
  exact initOk_0 x F sc (F.bindsN fun _ _ _ _ _ _ us hl => match us, hl with | [_], _ => rfl)
    fun cdv A outer s H E => pss_one (ps_expr (pe_basinit rfl gL bk.rd bk.fc (pa_cons (pv 0) (pa_cons pe_str pa_nil))))
theorem ini_40 {P : Program} {w : World} {K : PySem.W.Frag} {mg : PySem.Str → Option Value} {base : Heap} (gL : mg "LookError" = some (.ref T99.lkE)) (bk : HB.BaseK K T99.lkE) (x : HB.ExK K (cC 40) (cI 40) (cF 40)) {fd : FuncData} (F : FunD K "__init__" "NotAlong.__init__" (defArgs (T99.mth 43 0)) (defBody (T99.mth 43 0)) (defScope (T99.mth 43 0)) [] [] (cI 40) fd) : InitOk P w K mg base (cC 40) (cI 40) (cF 40) := by
  have sc : FnScope ["self", "walk"] ["self", "walk"] (defScope (T99.mth 43 0)) := ⟨rfl, rfl, rfl, by decide +kernel, rfl, by decide +kernel, by decide +kernel⟩
  exact initOk_f (f := "walk") x F sc (F.bindsN fun _ _ _ _ _ _ us hl => match us, hl with | [_, _], _ => rfl) (kwb_of F fun _ _ _ _ _ _ us ws h1 h2 => match us, ws, h1, h2 with | [_], [_], _, _ => rfl)
    fun cdv A outer s H E => pss_cons (ps_expr (pe_basinit rfl gL bk.rd bk.fc (pa_cons (pv 0) (pa_cons pe_str pa_nil)))) (pss_one (ps_ost (pv 0) (pv 1)))
theorem ini_41 {P : Program} {w : World} {K : PySem.W.Frag} {mg : PySem.Str → Option Value} {base : Heap} (gL : mg "LookError" = some (.ref T99.lkE)) (bk : HB.BaseK K T99.lkE) (x : HB.ExK K (cC 41) (cI 41) (cF 41)) {fd : FuncData} (F : FunD K "__init__" "NotLeast.__init__" (defArgs (T99.mth 44 0)) (defBody (T99.mth 44 0)) (defScope (T99.mth 44 0)) [] [] (cI 41) fd) : InitOk P w K mg base (cC 41) (cI 41) (cF 41) := by
  have sc : FnScope ["self", "index"] ["self", "index"] (defScope (T99.mth 44 0)) := ⟨rfl, rfl, rfl, by decide +kernel, rfl, by decide +kernel, by decide +kernel⟩
  exact initOk_f (f := "index") x F sc (F.bindsN fun _ _ _ _ _ _ us hl => match us, hl with | [_, _], _ => rfl) (kwb_of F fun _ _ _ _ _ _ us ws h1 h2 => match us, ws, h1, h2 with | [_], [_], _, _ => rfl)
    fun cdv A outer s H E => pss_cons (ps_expr (pe_basinit rfl gL bk.rd bk.fc (pa_cons (pv 0) (pa_cons pe_str pa_nil)))) (pss_one (ps_ost (pv 0) (pv 1)))
theorem ini_42 {P : Program} {w : World} {K : PySem.W.Frag} {mg : PySem.Str → Option Value} {base : Heap} (gL : mg "LookError" = some (.ref T99.lkE)) (bk : HB.BaseK K T99.lkE) (x : HB.ExK K (cC 42) (cI 42) (cF 42)) {fd : FuncData} (F : FunD K "__init__" "NotLots.__init__" (defArgs (T99.mth 45 0)) (defBody (T99.mth 45 0)) (defScope (T99.mth 45 0)) [] [] (cI 42) fd) : InitOk P w K mg base (cC 42) (cI 42) (cF 42) := by
  have sc : FnScope ["self"] ["self"] (defScope (T99.mth 45 0)) := ⟨rfl, rfl, rfl, by decide +kernel, rfl, by decide +kernel, by decide +kernel⟩
  exact initOk_0 x F sc (F.bindsN fun _ _ _ _ _ _ us hl => match us, hl with | [_], _ => rfl)
    fun cdv A outer s H E => pss_one (ps_expr (pe_basinit rfl gL bk.rd bk.fc (pa_cons (pv 0) (pa_cons pe_str pa_nil))))
theorem ini_43 {P : Program} {w : World} {K : PySem.W.Frag} {mg : PySem.Str → Option Value} {base : Heap} (gL : mg "LookError" = some (.ref T99.lkE)) (bk : HB.BaseK K T99.lkE) (x : HB.ExK K (cC 43) (cI 43) (cF 43)) {fd : FuncData} (F : FunD K "__init__" "NotSuite.__init__" (defArgs (T99.mth 46 0)) (defBody (T99.mth 46 0)) (defScope (T99.mth 46 0)) [] [] (cI 43) fd) : InitOk P w K mg base (cC 43) (cI 43) (cF 43) := by
  have sc : FnScope ["self"] ["self"] (defScope (T99.mth 46 0)) := ⟨rfl, rfl, rfl, by decide +kernel, rfl, by decide +kernel, by decide +kernel⟩
  exact initOk_0 x F sc (F.bindsN fun _ _ _ _ _ _ us hl => match us, hl with | [_], _ => rfl)
    fun cdv A outer s H E => pss_one (ps_expr (pe_basinit rfl gL bk.rd bk.fc (pa_cons (pv 0) (pa_cons pe_str pa_nil))))
theorem ini_44 {P : Program} {w : World} {K : PySem.W.Frag} {mg : PySem.Str → Option Value} {base : Heap} (gL : mg "LookError" = some (.ref T99.lkE)) (bk : HB.BaseK K T99.lkE) (x : HB.ExK K (cC 44) (cI 44) (cF 44)) {fd : FuncData} (F : FunD K "__init__" "NothingToRedo.__init__" (defArgs (T99.mth 47 0)) (defBody (T99.mth 47 0)) (defScope (T99.mth 47 0)) [] [] (cI 44) fd) : InitOk P w K mg base (cC 44) (cI 44) (cF 44) := by
  have sc : FnScope ["self"] ["self"] (defScope (T99.mth 47 0)) := ⟨rfl, rfl, rfl, by decide +kernel, rfl, by decide +kernel, by decide +kernel⟩
  exact initOk_0 x F sc (F.bindsN fun _ _ _ _ _ _ us hl => match us, hl with | [_], _ => rfl)
    fun cdv A outer s H E => pss_one (ps_expr (pe_basinit rfl gL bk.rd bk.fc (pa_cons (pv 0) (pa_cons pe_str pa_nil))))
theorem ini_45 {P : Program} {w : World} {K : PySem.W.Frag} {mg : PySem.Str → Option Value} {base : Heap} (gL : mg "LookError" = some (.ref T99.lkE)) (bk : HB.BaseK K T99.lkE) (x : HB.ExK K (cC 45) (cI 45) (cF 45)) {fd : FuncData} (F : FunD K "__init__" "NothingToUndo.__init__" (defArgs (T99.mth 48 0)) (defBody (T99.mth 48 0)) (defScope (T99.mth 48 0)) [] [] (cI 45) fd) : InitOk P w K mg base (cC 45) (cI 45) (cF 45) := by
  have sc : FnScope ["self"] ["self"] (defScope (T99.mth 48 0)) := ⟨rfl, rfl, rfl, by decide +kernel, rfl, by decide +kernel, by decide +kernel⟩
  exact initOk_0 x F sc (F.bindsN fun _ _ _ _ _ _ us hl => match us, hl with | [_], _ => rfl)
    fun cdv A outer s H E => pss_one (ps_expr (pe_basinit rfl gL bk.rd bk.fc (pa_cons (pv 0) (pa_cons pe_str pa_nil))))
theorem ini_46 {P : Program} {w : World} {K : PySem.W.Frag} {mg : PySem.Str → Option Value} {base : Heap} (gL : mg "LookError" = some (.ref T99.lkE)) (bk : HB.BaseK K T99.lkE) (x : HB.ExK K (cC 46) (cI 46) (cF 46)) {fd : FuncData} (F : FunD K "__init__" "ZeroNumber.__init__" (defArgs (T99.mth 49 0)) (defBody (T99.mth 49 0)) (defScope (T99.mth 49 0)) [] [] (cI 46) fd) : InitOk P w K mg base (cC 46) (cI 46) (cF 46) := by
  have sc : FnScope ["self"] ["self"] (defScope (T99.mth 49 0)) := ⟨rfl, rfl, rfl, by decide +kernel, rfl, by decide +kernel, by decide +kernel⟩
  exact initOk_0 x F sc (F.bindsN fun _ _ _ _ _ _ us hl => match us, hl with | [_], _ => rfl)
    fun cdv A outer s H E => pss_one (ps_expr (pe_basinit rfl gL bk.rd bk.fc (pa_cons (pv 0) (pa_cons pe_str pa_nil))))
theorem row_mem : ∀ i, i < 47 → cRow i ∈ T99.clss := fun i hi => by
  have hl : i < T99.clss.length := by have : T99.clss.length = 47 := by decide +kernel
                                      omega
  unfold cRow
  rw [List.getD_eq_getElem?_getD, List.getElem?_eq_getElem hl]
  exact List.getElem_mem hl
theorem cC_mem : ∀ i, i < 47 → cC i ∈ T99.adc := by decide +kernel
theorem cC_eq : ∀ i, i < 47 → ∀ j, j < 47 → (cC i == cC j) = decide (i = j) := by decide +kernel
theorem dfo {K : PySem.W.Frag} {mg : PySem.Str → Option Value} {x : PySem.Str} {st : Stmt} (h : mg x = some (.ref (He.ga K x))) (F : ∃ fd, FunD K x x (defArgs st) (defBody st) (defScope st) [] [] (He.ga K x) fd) : Df K mg x st := by
  obtain ⟨fd, F⟩ := F
  exact ⟨_, fd, h, F⟩
theorem fxs {P : Program} {w : World} {K : PySem.W.Frag} {h base : Heap} {mg : PySem.Str → Option Value} (KX : K.In h) (G : h.Ns mainGlobals mg) (c : He.SaysD T99.fa T99.fn K) (m : T99.more K = true) : FX P w K mg base := by
  obtain ⟨m1, m⟩ := He.ba m
  obtain ⟨m2, m⟩ := He.ba m
  obtain ⟨m3, m⟩ := He.ba m
  obtain ⟨m4, m⟩ := He.ba m
  obtain ⟨m5, m⟩ := He.ba m
  obtain ⟨m6, m7⟩ := He.ba m
  have m3 : He.ga K "LookError" = T99.lkE := eq_of_beq m3
  have bk := HB.baseB_ok m1
  have row : ∀ i, i < 47 → He.ga K (cRow i).1 = cC i ∧ HB.ExK K (cC i) (cI i) (cF i) := fun i hi => by
    have := List.all_eq_true.mp m4 _ (row_mem i hi)
    obtain ⟨e1, e2⟩ := He.ba this
    exact ⟨eq_of_beq e1, HB.exB_ok e2⟩
  have gL : mg "LookError" = some (.ref T99.lkE) := by rw [← m3]; exact He.glo_ok KX G (c.fact 0 (f := .glo "LookError") rfl)
  have fam : ∀ i, i < 47 → HB.famB K T99.lkE T99.adc (cC i) = true := fun i hi => List.all_eq_true.mp m5 _ (cC_mem i hi)
  have mas : ∀ i, i < 47 → He.ma K (cC i) "__init__" = cI i := fun i hi => by
    unfold He.ma
    rw [(row i hi).2.ic]
  have hfa : ∀ i, i < 47 → T99.fa[i + 1]? = some (.glo (cRow i).1) := all47 rfl rfl rfl rfl rfl rfl rfl rfl rfl rfl rfl rfl rfl rfl rfl rfl rfl rfl rfl rfl rfl rfl rfl rfl rfl rfl rfl rfl rfl rfl rfl rfl rfl rfl rfl rfl rfl rfl rfl rfl rfl rfl rfl rfl rfl rfl rfl
  have fd_ : ∀ {n : Nat} (hn : n < 47) {x q : PySem.Str} {st : Stmt} {fdx : Addr}, (cRow n).1 = x → fdx = He.ma K (He.ga K x) "__init__" → (∃ fd, FunD K "__init__" q (defArgs st) (defBody st) (defScope st) [] [] fdx fd) → ∃ fd, FunD K "__init__" q (defArgs st) (defBody st) (defScope st) [] [] (cI n) fd := fun {n} hn {x q st fdx} e e2 F => by
    subst e
    rw [e2, (row n hn).1, mas n hn] at F
    exact F
  refine ⟨⟨dfo (He.glo_ok KX G (c.fact 48 (f := .glo "_law_cell") rfl)) (c.def_ 47 (d := T99.d__law_cell) rfl), dfo (He.glo_ok KX G (c.fact 49 (f := .glo "_law_box") rfl)) (c.def_ 48 (d := T99.d__law_box) rfl), dfo (He.glo_ok KX G (c.fact 50 (f := .glo "_law_take") rfl)) (c.def_ 49 (d := T99.d__law_take) rfl), dfo (He.glo_ok KX G (c.fact 51 (f := .glo "_law_same") rfl)) (c.def_ 50 (d := T99.d__law_same) rfl), dfo (He.glo_ok KX G (c.fact 52 (f := .glo "_law_blamed") rfl)) (c.def_ 51 (d := T99.d__law_blamed) rfl), dfo (He.glo_ok KX G (c.fact 53 (f := .glo "_law_value") rfl)) (c.def_ 52 (d := T99.d__law_value) rfl), dfo (He.glo_ok KX G (c.fact 54 (f := .glo "_law_made_0") rfl)) (c.def_ 53 (d := T99.d__law_made_0) rfl), dfo (He.glo_ok KX G (c.fact 55 (f := .glo "_law_made_1") rfl)) (c.def_ 54 (d := T99.d__law_made_1) rfl), dfo (He.glo_ok KX G (c.fact 56 (f := .glo "_law_made_2") rfl)) (c.def_ 55 (d := T99.d__law_made_2) rfl), dfo (He.glo_ok KX G (c.fact 57 (f := .glo "_law_made_3") rfl)) (c.def_ 56 (d := T99.d__law_made_3) rfl), dfo (He.glo_ok KX G (c.fact 58 (f := .glo "_law_is_0") rfl)) (c.def_ 57 (d := T99.d__law_is_0) rfl), dfo (He.glo_ok KX G (c.fact 59 (f := .glo "_law_is_1") rfl)) (c.def_ 58 (d := T99.d__law_is_1) rfl), dfo (He.glo_ok KX G (c.fact 60 (f := .glo "_law_fields") rfl)) (c.def_ 59 (d := T99.d__law_fields) rfl), dfo (He.glo_ok KX G (c.fact 61 (f := .glo "_law_raised") rfl)) (c.def_ 60 (d := T99.d__law_raised) rfl), dfo (He.glo_ok KX G (c.fact 62 (f := .glo "_law_caught_right") rfl)) (c.def_ 61 (d := T99.d__law_caught_right) rfl), dfo (He.glo_ok KX G (c.fact 63 (f := .glo "_law_deep") rfl)) (c.def_ 62 (d := T99.d__law_deep) rfl), dfo (He.glo_ok KX G (c.fact 64 (f := .glo "_law_class_right") rfl)) (c.def_ 63 (d := T99.d__law_class_right) rfl), dfo (He.glo_ok KX G (c.fact 65 (f := .glo "law") rfl)) (c.def_ 64 (d := T99.d_law) rfl), He.free_ok KX G (c.fact 66 (f := .free "ValueError") rfl), He.free_ok KX G (c.fact 67 (f := .free "abs") rfl), He.free_ok KX G (c.fact 68 (f := .free "bool") rfl), He.free_ok KX G (c.fact 69 (f := .free "int") rfl), He.free_ok KX G (c.fact 70 (f := .free "isinstance") rfl), He.free_ok KX G (c.fact 71 (f := .free "len") rfl), He.free_ok KX G (c.fact 72 (f := .free "list") rfl), He.free_ok KX G (c.fact 73 (f := .free "max") rfl), He.free_ok KX G (c.fact 74 (f := .free "min") rfl), He.free_ok KX G (c.fact 75 (f := .free "range") rfl), He.free_ok KX G (c.fact 76 (f := .free "str") rfl), He.free_ok KX G (c.fact 77 (f := .free "sum") rfl), He.free_ok KX G (c.fact 78 (f := .free "tuple") rfl), He.free_ok KX G (c.fact 79 (f := .free "zip") rfl)⟩, fun i hi => ?_, gL, fun i hi => (row i hi).2, fun i hi => HB.isx_of (row i hi).2 (fam i hi) m2, fun i j hi hj => ?_, fun i hi => HB.kit_up (fam i hi) m2, fun i hi => HB.kit_ve (fam i hi), fun i hi => HB.exm_up (fam i hi) m2, all47 ?i0 ?i1 ?i2 ?i3 ?i4 ?i5 ?i6 ?i7 ?i8 ?i9 ?i10 ?i11 ?i12 ?i13 ?i14 ?i15 ?i16 ?i17 ?i18 ?i19 ?i20 ?i21 ?i22 ?i23 ?i24 ?i25 ?i26 ?i27 ?i28 ?i29 ?i30 ?i31 ?i32 ?i33 ?i34 ?i35 ?i36 ?i37 ?i38 ?i39 ?i40 ?i41 ?i42 ?i43 ?i44 ?i45 ?i46⟩
  · rw [← (row i hi).1]
    exact He.glo_ok KX G (c.fact (i + 1) (hfa i hi))
  · rw [← cC_eq i hi j hj]
    exact HB.kit_fam (fam i hi) (cC_mem j hj) (row j hj).2.oex (List.all_eq_true.mp m6 _ (cC_mem j hj))
  case i0 =>
    obtain ⟨fd, F⟩ := fd_ (n := 0) (by decide) (q := "InvalidBase.__init__") (st := T99.mth 2 0) rfl rfl (c.def_ 0 (d := T99.d_InvalidBase_init) rfl)
    exact ini_0 gL bk (row 0 (by decide)).2 F
  case i1 =>
    obtain ⟨fd, F⟩ := fd_ (n := 1) (by decide) (q := "InvalidChances.__init__") (st := T99.mth 3 0) rfl rfl (c.def_ 1 (d := T99.d_InvalidChances_init) rfl)
    exact ini_1 gL bk (row 1 (by decide)).2 F
  case i2 =>
    obtain ⟨fd, F⟩ := fd_ (n := 2) (by decide) (q := "InvalidChannels.__init__") (st := T99.mth 4 0) rfl rfl (c.def_ 2 (d := T99.d_InvalidChannels_init) rfl)
    exact ini_2 gL bk (row 2 (by decide)).2 F
  case i3 =>
    obtain ⟨fd, F⟩ := fd_ (n := 3) (by decide) (q := "InvalidCoordinates.__init__") (st := T99.mth 5 0) rfl rfl (c.def_ 3 (d := T99.d_InvalidCoordinates_init) rfl)
    exact ini_3 gL bk (row 3 (by decide)).2 F
  case i4 =>
    obtain ⟨fd, F⟩ := fd_ (n := 4) (by decide) (q := "InvalidCount.__init__") (st := T99.mth 6 0) rfl rfl (c.def_ 4 (d := T99.d_InvalidCount_init) rfl)
    exact ini_4 gL bk (row 4 (by decide)).2 F
  case i5 =>
    obtain ⟨fd, F⟩ := fd_ (n := 5) (by decide) (q := "InvalidForm.__init__") (st := T99.mth 7 0) rfl rfl (c.def_ 5 (d := T99.d_InvalidForm_init) rfl)
    exact ini_5 gL bk (row 5 (by decide)).2 F
  case i6 =>
    obtain ⟨fd, F⟩ := fd_ (n := 6) (by decide) (q := "InvalidForms.__init__") (st := T99.mth 8 0) rfl rfl (c.def_ 6 (d := T99.d_InvalidForms_init) rfl)
    exact ini_6 gL bk (row 6 (by decide)).2 F
  case i7 =>
    obtain ⟨fd, F⟩ := fd_ (n := 7) (by decide) (q := "InvalidIndex.__init__") (st := T99.mth 9 0) rfl rfl (c.def_ 7 (d := T99.d_InvalidIndex_init) rfl)
    exact ini_7 gL bk (row 7 (by decide)).2 F
  case i8 =>
    obtain ⟨fd, F⟩ := fd_ (n := 8) (by decide) (q := "InvalidLength.__init__") (st := T99.mth 10 0) rfl rfl (c.def_ 8 (d := T99.d_InvalidLength_init) rfl)
    exact ini_8 gL bk (row 8 (by decide)).2 F
  case i9 =>
    obtain ⟨fd, F⟩ := fd_ (n := 9) (by decide) (q := "InvalidLetter.__init__") (st := T99.mth 11 0) rfl rfl (c.def_ 9 (d := T99.d_InvalidLetter_init) rfl)
    exact ini_9 gL bk (row 9 (by decide)).2 F
  case i10 =>
    obtain ⟨fd, F⟩ := fd_ (n := 10) (by decide) (q := "InvalidLines.__init__") (st := T99.mth 12 0) rfl rfl (c.def_ 10 (d := T99.d_InvalidLines_init) rfl)
    exact ini_10 gL bk (row 10 (by decide)).2 F
  case i11 =>
    obtain ⟨fd, F⟩ := fd_ (n := 11) (by decide) (q := "InvalidLook.__init__") (st := T99.mth 13 0) rfl rfl (c.def_ 11 (d := T99.d_InvalidLook_init) rfl)
    exact ini_11 gL bk (row 11 (by decide)).2 F
  case i12 =>
    obtain ⟨fd, F⟩ := fd_ (n := 12) (by decide) (q := "InvalidMatrix.__init__") (st := T99.mth 14 0) rfl rfl (c.def_ 12 (d := T99.d_InvalidMatrix_init) rfl)
    exact ini_12 gL bk (row 12 (by decide)).2 F
  case i13 =>
    obtain ⟨fd, F⟩ := fd_ (n := 13) (by decide) (q := "InvalidName.__init__") (st := T99.mth 15 0) rfl rfl (c.def_ 13 (d := T99.d_InvalidName_init) rfl)
    exact ini_13 gL bk (row 13 (by decide)).2 F
  case i14 =>
    obtain ⟨fd, F⟩ := fd_ (n := 14) (by decide) (q := "InvalidNames.__init__") (st := T99.mth 16 0) rfl rfl (c.def_ 14 (d := T99.d_InvalidNames_init) rfl)
    exact ini_14 gL bk (row 14 (by decide)).2 F
  case i15 =>
    obtain ⟨fd, F⟩ := fd_ (n := 15) (by decide) (q := "InvalidNumber.__init__") (st := T99.mth 17 0) rfl rfl (c.def_ 15 (d := T99.d_InvalidNumber_init) rfl)
    exact ini_15 gL bk (row 15 (by decide)).2 F
  case i16 =>
    obtain ⟨fd, F⟩ := fd_ (n := 16) (by decide) (q := "InvalidNumbers.__init__") (st := T99.mth 18 0) rfl rfl (c.def_ 16 (d := T99.d_InvalidNumbers_init) rfl)
    exact ini_16 gL bk (row 16 (by decide)).2 F
  case i17 =>
    obtain ⟨fd, F⟩ := fd_ (n := 17) (by decide) (q := "InvalidOrder.__init__") (st := T99.mth 19 0) rfl rfl (c.def_ 17 (d := T99.d_InvalidOrder_init) rfl)
    exact ini_17 gL bk (row 17 (by decide)).2 F
  case i18 =>
    obtain ⟨fd, F⟩ := fd_ (n := 18) (by decide) (q := "InvalidOther.__init__") (st := T99.mth 20 0) rfl rfl (c.def_ 18 (d := T99.d_InvalidOther_init) rfl)
    exact ini_18 gL bk (row 18 (by decide)).2 F
  case i19 =>
    obtain ⟨fd, F⟩ := fd_ (n := 19) (by decide) (q := "InvalidPolynomial.__init__") (st := T99.mth 21 0) rfl rfl (c.def_ 19 (d := T99.d_InvalidPolynomial_init) rfl)
    exact ini_19 gL bk (row 19 (by decide)).2 F
  case i20 =>
    obtain ⟨fd, F⟩ := fd_ (n := 20) (by decide) (q := "InvalidReader.__init__") (st := T99.mth 22 0) rfl rfl (c.def_ 20 (d := T99.d_InvalidReader_init) rfl)
    exact ini_20 gL bk (row 20 (by decide)).2 F
  case i21 =>
    obtain ⟨fd, F⟩ := fd_ (n := 21) (by decide) (q := "InvalidRow.__init__") (st := T99.mth 23 0) rfl rfl (c.def_ 21 (d := T99.d_InvalidRow_init) rfl)
    exact ini_21 gL bk (row 21 (by decide)).2 F
  case i22 =>
    obtain ⟨fd, F⟩ := fd_ (n := 22) (by decide) (q := "InvalidSheet.__init__") (st := T99.mth 24 0) rfl rfl (c.def_ 22 (d := T99.d_InvalidSheet_init) rfl)
    exact ini_22 gL bk (row 22 (by decide)).2 F
  case i23 =>
    obtain ⟨fd, F⟩ := fd_ (n := 23) (by decide) (q := "InvalidSize.__init__") (st := T99.mth 25 0) rfl rfl (c.def_ 23 (d := T99.d_InvalidSize_init) rfl)
    exact ini_23 gL bk (row 23 (by decide)).2 F
  case i24 =>
    obtain ⟨fd, F⟩ := fd_ (n := 24) (by decide) (q := "InvalidStep.__init__") (st := T99.mth 26 0) rfl rfl (c.def_ 24 (d := T99.d_InvalidStep_init) rfl)
    exact ini_24 gL bk (row 24 (by decide)).2 F
  case i25 =>
    obtain ⟨fd, F⟩ := fd_ (n := 25) (by decide) (q := "InvalidTable.__init__") (st := T99.mth 27 0) rfl rfl (c.def_ 25 (d := T99.d_InvalidTable_init) rfl)
    exact ini_25 gL bk (row 25 (by decide)).2 F
  case i26 =>
    obtain ⟨fd, F⟩ := fd_ (n := 26) (by decide) (q := "InvalidTally.__init__") (st := T99.mth 28 0) rfl rfl (c.def_ 26 (d := T99.d_InvalidTally_init) rfl)
    exact ini_26 gL bk (row 26 (by decide)).2 F
  case i27 =>
    obtain ⟨fd, F⟩ := fd_ (n := 27) (by decide) (q := "InvalidText.__init__") (st := T99.mth 29 0) rfl rfl (c.def_ 27 (d := T99.d_InvalidText_init) rfl)
    exact ini_27 gL bk (row 27 (by decide)).2 F
  case i28 =>
    obtain ⟨fd, F⟩ := fd_ (n := 28) (by decide) (q := "InvalidTop.__init__") (st := T99.mth 30 0) rfl rfl (c.def_ 28 (d := T99.d_InvalidTop_init) rfl)
    exact ini_28 gL bk (row 28 (by decide)).2 F
  case i29 =>
    obtain ⟨fd, F⟩ := fd_ (n := 29) (by decide) (q := "InvalidTotals.__init__") (st := T99.mth 31 0) rfl rfl (c.def_ 29 (d := T99.d_InvalidTotals_init) rfl)
    exact ini_29 gL bk (row 29 (by decide)).2 F
  case i30 =>
    obtain ⟨fd, F⟩ := fd_ (n := 30) (by decide) (q := "InvalidWalk.__init__") (st := T99.mth 32 0) rfl rfl (c.def_ 30 (d := T99.d_InvalidWalk_init) rfl)
    exact ini_30 gL bk (row 30 (by decide)).2 F
  case i31 =>
    obtain ⟨fd, F⟩ := fd_ (n := 31) (by decide) (q := "InvalidWalks.__init__") (st := T99.mth 33 0) rfl rfl (c.def_ 31 (d := T99.d_InvalidWalks_init) rfl)
    exact ini_31 gL bk (row 31 (by decide)).2 F
  case i32 =>
    obtain ⟨fd, F⟩ := fd_ (n := 32) (by decide) (q := "InvalidWord.__init__") (st := T99.mth 34 0) rfl rfl (c.def_ 32 (d := T99.d_InvalidWord_init) rfl)
    exact ini_32 gL bk (row 32 (by decide)).2 F
  case i33 =>
    obtain ⟨fd, F⟩ := fd_ (n := 33) (by decide) (q := "Full.__init__") (st := T99.mth 36 0) rfl rfl (c.def_ 33 (d := T99.d_Full_init) rfl)
    exact ini_33 gL bk (row 33 (by decide)).2 F
  case i34 =>
    obtain ⟨fd, F⟩ := fd_ (n := 34) (by decide) (q := "HasName.__init__") (st := T99.mth 37 0) rfl rfl (c.def_ 34 (d := T99.d_HasName_init) rfl)
    exact ini_34 gL bk (row 34 (by decide)).2 F
  case i35 =>
    obtain ⟨fd, F⟩ := fd_ (n := 35) (by decide) (q := "NoForm.__init__") (st := T99.mth 38 0) rfl rfl (c.def_ 35 (d := T99.d_NoForm_init) rfl)
    exact ini_35 gL bk (row 35 (by decide)).2 F
  case i36 =>
    obtain ⟨fd, F⟩ := fd_ (n := 36) (by decide) (q := "NoInverse.__init__") (st := T99.mth 39 0) rfl rfl (c.def_ 36 (d := T99.d_NoInverse_init) rfl)
    exact ini_36 gL bk (row 36 (by decide)).2 F
  case i37 =>
    obtain ⟨fd, F⟩ := fd_ (n := 37) (by decide) (q := "NoLimit.__init__") (st := T99.mth 40 0) rfl rfl (c.def_ 37 (d := T99.d_NoLimit_init) rfl)
    exact ini_37 gL bk (row 37 (by decide)).2 F
  case i38 =>
    obtain ⟨fd, F⟩ := fd_ (n := 38) (by decide) (q := "NoName.__init__") (st := T99.mth 41 0) rfl rfl (c.def_ 38 (d := T99.d_NoName_init) rfl)
    exact ini_38 gL bk (row 38 (by decide)).2 F
  case i39 =>
    obtain ⟨fd, F⟩ := fd_ (n := 39) (by decide) (q := "NotAlike.__init__") (st := T99.mth 42 0) rfl rfl (c.def_ 39 (d := T99.d_NotAlike_init) rfl)
    exact ini_39 gL bk (row 39 (by decide)).2 F
  case i40 =>
    obtain ⟨fd, F⟩ := fd_ (n := 40) (by decide) (q := "NotAlong.__init__") (st := T99.mth 43 0) rfl rfl (c.def_ 40 (d := T99.d_NotAlong_init) rfl)
    exact ini_40 gL bk (row 40 (by decide)).2 F
  case i41 =>
    obtain ⟨fd, F⟩ := fd_ (n := 41) (by decide) (q := "NotLeast.__init__") (st := T99.mth 44 0) rfl rfl (c.def_ 41 (d := T99.d_NotLeast_init) rfl)
    exact ini_41 gL bk (row 41 (by decide)).2 F
  case i42 =>
    obtain ⟨fd, F⟩ := fd_ (n := 42) (by decide) (q := "NotLots.__init__") (st := T99.mth 45 0) rfl rfl (c.def_ 42 (d := T99.d_NotLots_init) rfl)
    exact ini_42 gL bk (row 42 (by decide)).2 F
  case i43 =>
    obtain ⟨fd, F⟩ := fd_ (n := 43) (by decide) (q := "NotSuite.__init__") (st := T99.mth 46 0) rfl rfl (c.def_ 43 (d := T99.d_NotSuite_init) rfl)
    exact ini_43 gL bk (row 43 (by decide)).2 F
  case i44 =>
    obtain ⟨fd, F⟩ := fd_ (n := 44) (by decide) (q := "NothingToRedo.__init__") (st := T99.mth 47 0) rfl rfl (c.def_ 44 (d := T99.d_NothingToRedo_init) rfl)
    exact ini_44 gL bk (row 44 (by decide)).2 F
  case i45 =>
    obtain ⟨fd, F⟩ := fd_ (n := 45) (by decide) (q := "NothingToUndo.__init__") (st := T99.mth 48 0) rfl rfl (c.def_ 45 (d := T99.d_NothingToUndo_init) rfl)
    exact ini_45 gL bk (row 45 (by decide)).2 F
  case i46 =>
    obtain ⟨fd, F⟩ := fd_ (n := 46) (by decide) (q := "ZeroNumber.__init__") (st := T99.mth 49 0) rfl rfl (c.def_ 46 (d := T99.d_ZeroNumber_init) rfl)
    exact ini_46 gL bk (row 46 (by decide)).2 F
theorem look_mem {a : Addr} {o : Obj} : ∀ {K : PySem.W.Frag}, K.lookup a = some o → (a, o) ∈ K
  | [], e => by cases e
  | (b, o') :: K, e => by
    unfold List.lookup at e
    split at e
    · rename_i hb
      cases e
      rw [eq_of_beq hb]
      exact List.mem_cons_self
    · exact List.mem_cons_of_mem _ (look_mem e)
theorem noL {K : PySem.W.Frag} (m : T99.more K = true) {a : Addr} {o : Obj} (e : K.lookup a = some o) : o.cls ≠ .type "list" := by
  obtain ⟨_, m⟩ := He.ba m
  obtain ⟨_, m⟩ := He.ba m
  obtain ⟨_, m⟩ := He.ba m
  obtain ⟨_, m⟩ := He.ba m
  obtain ⟨_, m⟩ := He.ba m
  obtain ⟨_, m⟩ := He.ba m
  intro q
  have mem := look_mem e
  have := List.all_eq_true.mp m _ mem
  dsimp only at this
  rw [q] at this
  exact absurd this (by decide)
theorem lawSp {P : Program} {w : World} {K : PySem.W.Frag} (m : T99.more K = true) {H : Hp} {a : Addr} {ns : List Int} (hl : ns.length ≤ 63) (h : SqL K H a (ns.map V.int)) : spP ⟨P, w, K⟩ S_law [.ref a] H (fun v _ => v = .bl true) fun _ _ _ => False := by
  rcases h with h | ⟨o, its, n, e, c, _⟩
  · have ra : ∀ (F : Hp) (ns : List Int), RpAll ⟨P, w, K⟩ F (ns.map V.int) (ns.map PyData.int) := fun F ns => by
      induction ns with
      | nil => exact .nil
      | cons n ns ih => exact .cons (.int n) ih
    refine callP (F := upd (fun _ => none) a (.lst (ns.map V.int))) ⟨fun b u e => ?_, fun b u e => ?_⟩ (.cons (.lst upd_same (ra _ ns)) .nil) ⟨ns, rfl, hl⟩ fun r v F' H' hr st res => ?_
    · by_cases c : b = a
      · subst c; rw [upd_same] at e; cases e; exact h
      · rw [upd_ne c] at e; cases e
    · by_cases c : b = a
      · subst c; rw [upd_same] at e; cases e; exact .inl ⟨_, rfl⟩
      · rw [upd_ne c] at e; cases e
    · have e : r = _ := hr
      subst e
      cases res 1 trivial
      rfl
  · exact absurd c (noL m e)
theorem facts {P : Program} {w : World} {K : PySem.W.Frag} {h : Heap} {mg : PySem.Str → Option Value} {f : Addr} (KX : K.In h) (G : h.Ns mainGlobals mg) (hf : mg ("law" : PySem.Str) = some (.ref f)) (c : He.SaysD T99.fa T99.fn K) (m : T99.more K = true) :
    ∃ fd : FuncData, (∀ (s : Shared) (v : Value), BindsTo s fd ⟨[v], []⟩ [("script", v)]) ∧ ∀ base : Heap, K.In base → base.Ns mainGlobals mg → FnOk P w K mg base CX0 11 f fd ["script"] (spP ⟨P, w, K⟩ S_law) := by
  obtain ⟨f0, fd, hm, F⟩ := (fxs (P := P) (w := w) (base := h) KX G c m).fa.d_law.ex
  rw [hf] at hm
  cases hm
  have b := FunD.bindsA (ps := ["script"]) F fun _ _ _ _ _ _ us hl => match us, hl with | [_], _ => rfl
  refine ⟨fd, fun s v => b s [v] rfl, fun base KB GB => ?_⟩
  obtain ⟨f1, fd1, hm1, F1, ok1, _⟩ := (ok_law (fxs (P := P) (w := w) (base := base) KX G c m)).ex
  rw [hf] at hm1
  cases hm1
  obtain ⟨_, _, _, _, _, _, _, _, _, _, _, l1, _⟩ := F.ex
  obtain ⟨_, _, _, _, _, _, _, _, _, _, _, l2, _⟩ := F1.ex
  rw [l1] at l2
  cases l2
  exact ok1
end TT
open PySem PySem.W PySem.Calls PyProof.Rows
theorem PySem.Challenge.cw_eightlooks_k99_errors_holds : PySem.Challenge.rw_eightlooks_k99_errors.Holds := by
  w_on; o_law
  refine HandSHeadRun.head_any (r := OpenLaw.row PySem.Challenge.rw_eightlooks_k99_errors) (q := view (OpenLaw.row PySem.Challenge.rw_eightlooks_k99_errors).prog [68]) (H := T99.hk) (ob := T99.ob) (M := 20000) (loose := T99.loose) (d := HandSHeadRun.topDef (OpenLaw.row PySem.Challenge.rw_eightlooks_k99_errors).prog 68) (kwd := []) T99.ob_eq
    (by kernel_rfl) (fun s => by kernel_rfl) T99.run (by kernel_rfl) (by kernel_rfl) (by kernel_rfl) (by rfl) (by first | assumption | decide +kernel) (by decide +kernel) ⟨rfl, rfl, rfl, rfl, rfl, by decide +kernel⟩ ?hw ?hc
  case hw => w_witness2
  case hc =>
    refine L2.walk_ofE (l := PySem.Challenge.rw_eightlooks_k99_errors) (n := 63) (k := 11) (x := "script") (CX := L2.CX0) rfl (by decide) (by kernel_rfl) ⟨rfl, by decide, by decide⟩ ?F (fun _ _ _ _ z => z)
    intro w mg fa h Y G hmg0
    obtain ⟨K, KX, c, m⟩ := Y
    have hmg : mg ("law" : PySem.Str) = some (.ref fa) := by
      have e : (HandSHeadRun.topDef (OpenLaw.row PySem.Challenge.rw_eightlooks_k99_errors).prog 68).name = ("law" : PySem.Str) := by kernel_rfl
      rw [← e]
      exact hmg0
    obtain ⟨fd, hb, hF⟩ := TT.facts (P := (PySem.Challenge.rw_eightlooks_k99_errors).prog) (w := w) KX G hmg c m
    exact ⟨K, fd, _, KX, hb, fun H a ns hl _ hS => TT.lawSp m hl hS, hF⟩
